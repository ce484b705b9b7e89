import PyProof.Rows.All
import Wide.All
import OpenK.AllK
import Wide.FinOn
import HandS.ForMost
import HandS.Walk
import HandS.Conv
import HandS.Wide
import HandS.Flow
import HandS.Style
import HandS.TupAny
import HandS.TupMul
import HandS.TupLe
import HandS.Deep
import HandS.IsInst
import HandS.MakeKwOnly
import PyProof.ReprRoads
import KE.DatumIndex
import HandS.SortInts
import HandS.TupSets
import HandS.NoneIn
import HandS.Zip
import KE.GoesEnum
import HandS.Comp
import HandS.Ends
import KE.KSortTupG
import HandS.SetKeys
import KE.KDictZip
import HandS.Star
import KE.DataMinMax
import PySem.Challenge.RW_coupledyard_k08_minima_distances_stretch
set_option Elab.async false
set_option linter.all false
set_option maxRecDepth 100000
set_option maxHeartbeats 4000000
namespace DL
open PySem L2
/-! the source of draws: the script, how many numbers were mixed, what is left of a great cell -/
def dkv (l : Addr) (t f : Int) : List (Key × V) := [(.inr "script", .ref l), (.inr "at", .int t), (.inr "left", .int f)]
/-- the script's list at l -/
def ScrL (K : PySem.W.Frag) (H : Hp) (l : Addr) (xs : List V) : Prop := (∃ o, H l = some (.frz o (.lst xs))) ∨
  ∃ (o : Obj) (its : Array Value) (n : Nat), K.lookup l = some o ∧ o.cls = .type "list" ∧ o.dict = none ∧ o.data = .seq its n ∧ its.size ≤ sizeLine ∧ Vals xs its.toList
/-- at d a dict stands that tells the script, how many were mixed (at most n), and what is left -/
def Fam (K : PySem.W.Frag) (d : Addr) (S : List Addr) (H : Hp) (n : Nat) : Prop := ∃ (l : Addr) (xs : List Int) (t f : Int), S = [d] ∧ xs.length ≤ 63 ∧ 0 ≤ t ∧ t ≤ n ∧ H d = some (.dK (dkv l t f)) ∧ ScrL K H l (xs.map V.int)
theorem Fam.loc {K : PySem.W.Frag} {d : Addr} {S : List Addr} (H H' : Hp) (n : Nat) (h : Fam K d S H n) (e : ∀ b ∈ S, H' b = H b) (im : ∀ b o, H b = some o → ¬ Mut (some o) → H' b = some o) : Fam K d S H' n := by
  obtain ⟨l, xs, t, f, rfl, h1, h2, h3, hd, hl⟩ := h
  exact ⟨l, xs, t, f, rfl, h1, h2, h3, by rw [e d (by simp)]; exact hd, hl.elim (fun ⟨o, q⟩ => .inl ⟨o, im _ _ q fun z => z⟩) .inr⟩
theorem Fam.mu {K : PySem.W.Frag} {d : Addr} {S : List Addr} (H : Hp) (n : Nat) (h : Fam K d S H n) : ∀ b ∈ S, Mut (H b) := by
  obtain ⟨l, xs, t, f, rfl, h1, h2, h3, hd, hl⟩ := h
  intro b hb
  rw [List.mem_singleton.mp hb, hd]
  trivial
end DL
/-! DL: expressions and statements read as functions of plain data, over the hand layer. -/
namespace DL
open PySem L2

/-! ### data -/
inductive D where
  | non | bl (b : Bool) | int (i : Int) | str (x : Str)
  | lst (ds : List D) | tup (ds : List D) | frz (ds : List D)
  | dic (ks : List Key) (ds : List D)
  | dtt (ks : List (List Key)) (ds : List D)
  | ty (n : String) | ref (a : Addr)
  | src

mutual
def D.imm : D → Bool
  | .non => true
  | .bl _ => true
  | .int _ => true
  | .str _ => true
  | .lst _ => false
  | .frz _ => true
  | .tup ds => D.imms ds
  | .dic _ _ => false
  | .dtt _ _ => false
  | .src => true
  | .ty _ => true
  | .ref _ => true
def D.imms : List D → Bool
  | [] => true
  | d :: ds => d.imm && D.imms ds
end

/-- what a law's text holds beside its data: the written part, the source of draws (its root, its objects, what holds of them) -/
structure Gx (K : PySem.W.Frag) where
  rt : Option Addr
  S : List Addr
  ok : Hp → Nat → Prop
  loc : ∀ H H' n, ok H n → (∀ b ∈ S, H' b = H b) → (∀ b o, H b = some o → ¬ Mut (some o) → H' b = some o) → ok H' n
  mu : ∀ H n, ok H n → ∀ b ∈ S, Mut (H b)
  fam : ∀ a, rt = some a → ∀ H n, ok H n ↔ Fam K a S H n

/-- a list that is never written: the script, or an object of the module -/
def Frz (K : PySem.W.Frag) (H : Hp) (a : Addr) (xs : List V) : Prop := (∃ o, H a = some (.frz o (.lst xs))) ∨
  ∃ (o : Obj) (its : Array Value) (n : Nat), K.lookup a = some o ∧ o.cls = .type "list" ∧ o.dict = none ∧ o.data = .seq its n ∧ its.size ≤ sizeLine ∧ Vals xs its.toList
theorem Frz.sq {K : PySem.W.Frag} {H : Hp} {a : Addr} {xs : List V} (h : Frz K H a xs) : SqL K H a xs := h.elim (fun ⟨o, e⟩ => .inl (.inr ⟨o, e⟩)) .inr
theorem Frz.mono {K : PySem.W.Frag} {H H' : Hp} {a : Addr} {xs : List V} (h : Frz K H a xs) (k : ∀ b o, H b = some o → ¬ Mut (some o) → H' b = some o) : Frz K H' a xs := h.elim (fun ⟨o, e⟩ => .inl ⟨o, k _ _ e fun z => z⟩) .inr
section
variable {K : PySem.W.Frag} (G : Gx K) (H : Hp)
mutual
/-- v reads as d at H; F: the addresses of the lists and dicts within -/
inductive Rp : V → D → List Addr → Prop
  | non : Rp .non .non []
  | bl (b : Bool) : Rp (.bl b) (.bl b) []
  | int (i : Int) : Rp (.int i) (.int i) []
  | str (x : Str) : Rp (.str x) (.str x) []
  | lst {a : Addr} {xs : List V} {ds : List D} {F : List Addr} : H a = some (.lst xs) → RpA xs ds F → Rp (.ref a) (.lst ds) (a :: F)
  | frz {a : Addr} {xs : List V} {ds : List D} : Frz K H a xs → RpA xs ds [] → Rp (.ref a) (.frz ds) []
  | tup {a : Addr} {xs : List V} {ds : List D} {F : List Addr} : SqT K H a xs → RpA xs ds F → Rp (.ref a) (.tup ds) F
  | dic {a : Addr} {kvs : List (Key × V)} {ds : List D} {F : List Addr} : H a = some (.dK kvs) → RpA (kvs.map (·.2)) ds F → Rp (.ref a) (.dic (kvs.map (·.1)) ds) (a :: F)
  | dtt {a : Addr} {kvs : List (List Key × V)} {ds : List D} {F : List Addr} : H a = some (.dT kvs) → RpA (kvs.map (·.2)) ds F → Rp (.ref a) (.dtt (kvs.map (·.1)) ds) (a :: F)
  | src {a : Addr} : G.rt = some a → Rp (.ref a) .src []
  | ty (n : String) : Rp (.ty n) (.ty n) []
  | ref (a : Addr) : Rp (.ref a) (.ref a) []
inductive RpA : List V → List D → List Addr → Prop
  | nil : RpA [] [] []
  | cons {v : V} {d : D} {F : List Addr} {vs : List V} {ds : List D} {F' : List Addr} : Rp v d F → RpA vs ds F' → RpA (v :: vs) (d :: ds) (F ++ F')
end
end

section
variable {K : PySem.W.Frag} {G : Gx K} {H H' H1 H2 : Hp}
mutual
theorem Rp.imm_nil : ∀ (d : D) (v : V) (F : List Addr), Rp G H v d F → d.imm = true → F = []
  | .non, _, _, h, _ => by cases h; rfl
  | .bl _, _, _, h, _ => by cases h; rfl
  | .int _, _, _, h, _ => by cases h; rfl
  | .str _, _, _, h, _ => by cases h; rfl
  | .src, _, _, h, _ => by cases h; rfl
  | .ty _, _, _, h, _ => by cases h; rfl
  | .ref _, _, _, h, _ => by cases h; rfl
  | .lst _, _, _, _, e => by simp [D.imm] at e
  | .frz _, _, _, h, _ => by cases h; rfl
  | .dic _ _, _, _, _, e => by simp [D.imm] at e
  | .dtt _ _, _, _, _, e => by simp [D.imm] at e
  | .tup ds, _, _, h, e => by
    cases h with
    | tup _ ha => exact RpA.imm_nil ds _ _ ha (by simpa [D.imm] using e)
theorem RpA.imm_nil : ∀ (ds : List D) (vs : List V) (F : List Addr), RpA G H vs ds F → D.imms ds = true → F = []
  | [], _, _, h, _ => by cases h; rfl
  | d :: ds, _, _, h, e => by
    cases h with
    | cons h1 h2 =>
      simp only [D.imms, Bool.and_eq_true] at e
      rw [Rp.imm_nil d _ _ h1 e.1, RpA.imm_nil ds _ _ h2 e.2]
      rfl
end

/-- what stood stands, but for the source -/
structure Kp {K : PySem.W.Frag} (G : Gx K) (H H' : Hp) (n : Nat) : Prop where
  kp : ∀ b o, H b = some o → b ∉ G.S → H' b = some o
  dm : ∀ b, H b ≠ none → H' b ≠ none
  ok0 : ∃ m, G.ok H m
  ok : G.ok H' n
variable {n n' n1 n2 : Nat}
theorem Kp.refl (h : G.ok H n) : Kp G H H n := ⟨fun _ _ e _ => e, fun _ e => e, ⟨_, h⟩, h⟩
theorem Kp.trans (a : Kp G H H1 n1) (b : Kp G H1 H2 n2) : Kp G H H2 n2 := ⟨fun c o e n => b.kp c o (a.kp c o e n) n, fun c e => b.dm c (a.dm c e), a.ok0, b.ok⟩
theorem Kp.free (a : Kp G H H1 n) {b : Addr} (e : H1 b = .none) : H b = .none := by
  cases q : H b with
  | none => rfl
  | some o => exact absurd e (a.dm b (by rw [q]; exact fun z => nomatch z))
theorem notS (h : G.ok H n) {a : Addr} {o : HO} (e : H a = some o) (m : ¬ Mut (some o)) : a ∉ G.S := fun z => m (e ▸ G.mu H _ h a z)
theorem notS0 (h : G.ok H n) {a : Addr} (e : H a = none) : a ∉ G.S := fun z => by
  have := G.mu H _ h a z
  rw [e] at this
  exact this
/-- a new object -/
theorem Kp.laid (h : G.ok H n) {p : Addr} (hp : H p = none) (o : HO) : Kp G H (upd H p o) n :=
  ⟨fun b u e _ => by rw [upd_ne (ne_of_none e hp)]; exact e, fun b e => by
    by_cases q : b = p
    · subst q; exact absurd hp e
    · rw [upd_ne q]; exact e, ⟨_, h⟩, G.loc H _ _ h (fun b hb => upd_ne fun q => notS0 h (q ▸ hp) hb) fun b u e _ => by rw [upd_ne (ne_of_none e hp)]; exact e⟩

/-- more general: all that is not in the source and can't be written, and all at F, stands -/
structure Hd {K : PySem.W.Frag} (G : Gx K) (F : List Addr) (H H' : Hp) : Prop where
  ok0 : ∃ m, G.ok H m
  im : ∀ b o, H b = some o → ¬ Mut (some o) → H' b = some o
  at_ : ∀ b o, H b = some o → b ∈ F → H' b = some o
theorem Kp.hd (k : Kp G H H' n1) {F : List Addr} (n : ∀ a ∈ F, a ∉ G.S) : Hd G F H H' := ⟨k.ok0, fun b o e m => k.kp b o e (let ⟨_, z⟩ := k.ok0; notS z e m), fun b o e hb => k.kp b o e (n b hb)⟩
theorem Hd.sub {F F' : List Addr} (h : Hd G F H H') (s : ∀ a ∈ F', a ∈ F) : Hd G F' H H' := ⟨h.ok0, h.im, fun b o e hb => h.at_ b o e (s b hb)⟩
theorem SqT.hd {a : Addr} {xs : List V} {F : List Addr} (k : Hd G F H H') (h : SqT K H a xs) : SqT K H' a xs := by
  rcases h with (h | ⟨o, h⟩) | h
  · exact .inl (.inl (k.im _ _ h fun z => z))
  · exact .inl (.inr ⟨o, k.im _ _ h fun z => z⟩)
  · exact .inr h
mutual
theorem Rp.hd : ∀ (d : D) (v : V) (F : List Addr), Rp G H v d F → Hd G F H H' → Rp G H' v d F
  | .non, _, _, h, _ => by cases h; exact .non
  | .bl _, _, _, h, _ => by cases h; exact .bl _
  | .int _, _, _, h, _ => by cases h; exact .int _
  | .str _, _, _, h, _ => by cases h; exact .str _
  | .src, _, _, h, _ => by cases h with | src e => exact .src e
  | .ty _, _, _, h, _ => by cases h; exact .ty _
  | .ref _, _, _, h, _ => by cases h; exact .ref _
  | .lst ds, _, _, h, k => by
    cases h with
    | lst e ha => exact .lst (k.at_ _ _ e (by simp)) (RpA.hd ds _ _ ha (k.sub fun a z => by simp [z]))
  | .frz ds, _, _, h, k => by
    cases h with
    | frz e ha => exact .frz (e.mono k.im) (RpA.hd ds _ _ ha k)
  | .tup ds, _, _, h, k => by
    cases h with
    | tup e ha => exact .tup (SqT.hd k e) (RpA.hd ds _ _ ha k)
  | .dic ks ds, _, _, h, k => by
    cases h with
    | dic e ha => exact .dic (k.at_ _ _ e (by simp)) (RpA.hd ds _ _ ha (k.sub fun a z => by simp [z]))
  | .dtt ks ds, _, _, h, k => by
    cases h with
    | dtt e ha => exact .dtt (k.at_ _ _ e (by simp)) (RpA.hd ds _ _ ha (k.sub fun a z => by simp [z]))
theorem RpA.hd : ∀ (ds : List D) (vs : List V) (F : List Addr), RpA G H vs ds F → Hd G F H H' → RpA G H' vs ds F
  | [], _, _, h, _ => by cases h; exact .nil
  | d :: ds, _, _, h, k => by
    cases h with
    | cons h1 h2 => exact .cons (Rp.hd d _ _ h1 (k.sub fun a z => by simp [z])) (RpA.hd ds _ _ h2 (k.sub fun a z => by simp [z]))
end
theorem Rp.kp {v : V} {d : D} {F : List Addr} (h : Rp G H v d F) (k : Kp G H H' n1) (n : ∀ a ∈ F, a ∉ G.S) : Rp G H' v d F := Rp.hd d v F h (k.hd n)
theorem RpA.kp {vs : List V} {ds : List D} {F : List Addr} (h : RpA G H vs ds F) (k : Kp G H H' n1) (n : ∀ a ∈ F, a ∉ G.S) : RpA G H' vs ds F := RpA.hd ds vs F h (k.hd n)
theorem RpA.length : ∀ {ds : List D} {vs : List V} {F : List Addr}, RpA G H vs ds F → vs.length = ds.length
  | [], _, _, h => by cases h; rfl
  | d :: ds, _, _, h => by
    cases h with
    | cons h1 h2 => simp [RpA.length h2]
theorem RpA.get : ∀ {ds : List D} {vs : List V} {F : List Addr}, RpA G H vs ds F → ∀ {i : Nat} {d : D}, ds[i]? = some d → ∃ v F', vs[i]? = some v ∧ Rp G H v d F' ∧ ∀ a ∈ F', a ∈ F
  | [], _, _, _, _, _, e => by simp at e
  | d :: ds, _, _, h, i, d', e => by
    cases h with
    | cons h1 h2 =>
      cases i with
      | zero =>
        simp at e
        subst e
        exact ⟨_, _, rfl, h1, fun a z => by simp [z]⟩
      | succ i =>
        obtain ⟨v, F', e1, r, s⟩ := RpA.get h2 (i := i) (d := d') (by simpa using e)
        exact ⟨v, F', by simpa using e1, r, fun a z => by simp [s a z]⟩
/-- every address within is tracked -/
theorem RpA.append : ∀ {ds ds' : List D} {vs vs' : List V} {F F' : List Addr}, RpA G H vs ds F → RpA G H vs' ds' F' → RpA G H (vs ++ vs') (ds ++ ds') (F ++ F')
  | [], _, _, _, _, _, h, h' => by cases h; simpa using h'
  | d :: ds, ds', _, _, _, _, h, h' => by
    cases h with
    | cons h1 h2 =>
      have := RpA.append h2 h'
      simpa [List.append_assoc] using RpA.cons h1 this
mutual
theorem Rp.dom : ∀ (d : D) (v : V) (F : List Addr), Rp G H v d F → ∀ a ∈ F, H a ≠ none
  | .non, _, _, h, _, z => by cases h; cases z
  | .bl _, _, _, h, _, z => by cases h; cases z
  | .int _, _, _, h, _, z => by cases h; cases z
  | .str _, _, _, h, _, z => by cases h; cases z
  | .src, _, _, h, _, z => by cases h; cases z
  | .ty _, _, _, h, _, z => by cases h; cases z
  | .ref _, _, _, h, _, z => by cases h; cases z
  | .lst ds, _, _, h, b, z => by
    cases h with
    | lst e ha =>
      rcases List.mem_cons.mp z with q | q
      · rw [q, e]; exact fun z => nomatch z
      · exact RpA.dom ds _ _ ha b q
  | .frz _, _, _, h, _, z => by cases h; cases z
  | .tup ds, _, _, h, b, z => by
    cases h with
    | tup e ha => exact RpA.dom ds _ _ ha b z
  | .dic ks ds, _, _, h, b, z => by
    cases h with
    | dic e ha =>
      rcases List.mem_cons.mp z with q | q
      · rw [q, e]; exact fun z => nomatch z
      · exact RpA.dom ds _ _ ha b q
  | .dtt ks ds, _, _, h, b, z => by
    cases h with
    | dtt e ha =>
      rcases List.mem_cons.mp z with q | q
      · rw [q, e]; exact fun z => nomatch z
      · exact RpA.dom ds _ _ ha b q
theorem RpA.dom : ∀ (ds : List D) (vs : List V) (F : List Addr), RpA G H vs ds F → ∀ a ∈ F, H a ≠ none
  | [], _, _, h, _, z => by cases h; cases z
  | d :: ds, _, _, h, b, z => by
    cases h with
    | cons h1 h2 =>
      rcases List.mem_append.mp z with q | q
      · exact Rp.dom d _ _ h1 b q
      · exact RpA.dom ds _ _ h2 b q
end
end

/-! ### results: what follows, and what follows an error -/
structure Ex where
  cls : String
  fs : List (String × D)
abbrev W (α : Type) := (α → Nat → Prop) → (Ex → Nat → Prop) → Nat → Prop
def pu {α : Type} (a : α) : W α := fun Q _ => Q a
def bd {α β : Type} (m : W α) (k : α → W β) : W β := fun Q X => m (fun a => k a Q X) X
def fl {α : Type} : W α := fun _ _ _ => False
theorem bd_pu {α β : Type} (a : α) (k : α → W β) : bd (pu a) k = k a := rfl
theorem bd_fl {α β : Type} (k : α → W β) : bd fl k = fl := rfl
theorem bd_bd {α β γ : Type} (m : W α) (k : α → W β) (l : β → W γ) : bd (bd m k) l = bd m fun a => bd (k a) l := rfl
theorem bd_id {α : Type} (m : W α) : bd m pu = m := rfl

/-! ### the slots -/
abbrev Env := List (Option D)
def gt (δ : Env) (i : Nat) : Option D := (δ[i]?).join
def gw (δ : Env) (i : Nat) : W D := match gt δ i with
  | some d => pu d
  | none => fl
structure Cd (K : PySem.W.Frag) where
  G : Gx K
  H0 : Hp
  own : List Nat
  xq : Ex → Nat → Prop
structure EnvOk {K : PySem.W.Frag} (c : Cd K) (fp : Nat → List Addr) (H : Hp) (σ : St) (δ : Env) (n : Nat) : Prop where
  ok : c.G.ok H n
  len : σ.length = δ.length
  rep : ∀ i d, gt δ i = some d → ∃ v, σ[i]? = some (some v) ∧ Rp c.G H v d (fp i)
  emp : ∀ i, gt δ i = none → fp i = []
  nos : ∀ i, ∀ a ∈ fp i, a ∉ c.G.S
  frs : ∀ i ∈ c.own, ∀ a ∈ fp i, c.H0 a = none
  ndp : ∀ i ∈ c.own, (fp i).Nodup
  sep : ∀ i ∈ c.own, ∀ j, j ≠ i → ∀ a ∈ fp i, a ∉ fp j
  frm : ∀ b o, c.H0 b = some o → b ∉ c.G.S → H b = some o
theorem EnvOk.dom {K : PySem.W.Frag} {c : Cd K} {fp : Nat → List Addr} {H : Hp} {σ : St} {δ : Env} {n : Nat} (e : EnvOk c fp H σ δ n) (i : Nat) : ∀ a ∈ fp i, H a ≠ none := fun a ha => by
  cases q : gt δ i with
  | none => rw [e.emp i q] at ha; cases ha
  | some d =>
    obtain ⟨v, _, r⟩ := e.rep i d q
    exact Rp.dom d v _ r a ha
/-- what an expression gives -/
structure Post {K : PySem.W.Frag} (c : Cd K) (vs : List Nat) (fp : Nat → List Addr) (H H' : Hp) (F : List Addr) (n : Nat) : Prop where
  kp : Kp c.G H H' n
  nos : ∀ a ∈ F, a ∉ c.G.S
  pv : ∀ a ∈ F, H a = none ∨ ∃ j ∈ vs, a ∈ fp j
section
variable {K : PySem.W.Frag} {c : Cd K} {fp : Nat → List Addr} {H H' H1 H2 : Hp} {σ : St} {δ : Env} {vs ws : List Nat} {F F' : List Addr} {n n' n1 n2 : Nat}
theorem EnvOk.kp (e : EnvOk c fp H σ δ n) (k : Kp c.G H H' n') : EnvOk c fp H' σ δ n' :=
  ⟨k.ok, e.len, fun i d q => let ⟨v, a, r⟩ := e.rep i d q; ⟨v, a, r.kp k (e.nos i)⟩, e.emp, e.nos, e.frs, e.ndp, e.sep, fun b o q n => k.kp b o (e.frm b o q n) n⟩
theorem Post.nil (h : c.G.ok H n) : Post c vs fp H H [] n := ⟨Kp.refl h, fun _ z => (nomatch z), fun _ z => (nomatch z)⟩
theorem Post.kpnil (h : Kp c.G H H' n) : Post c vs fp H H' [] n := ⟨h, fun _ z => (nomatch z), fun _ z => (nomatch z)⟩
theorem Post.more (p : Post c vs fp H H1 F n) (k : Kp c.G H1 H2 n') : Post c vs fp H H2 F n' := ⟨p.kp.trans k, p.nos, p.pv⟩
theorem Post.ahead (k : Kp c.G H H1 n) (p : Post c vs fp H1 H2 F n') : Post c vs fp H H2 F n' := ⟨k.trans p.kp, p.nos, fun a z => (p.pv a z).elim (fun q => .inl (k.free q)) .inr⟩
theorem Post.wk (p : Post c vs fp H H1 F n) (s : ∀ i ∈ vs, i ∈ ws) : Post c ws fp H H1 F n := ⟨p.kp, p.nos, fun a z => (p.pv a z).elim .inl fun ⟨j, hj, q⟩ => .inr ⟨j, s j hj, q⟩⟩
theorem Post.sub (p : Post c vs fp H H1 F n) (s : ∀ a ∈ F', a ∈ F) : Post c vs fp H H1 F' n := ⟨p.kp, fun a z => p.nos a (s a z), fun a z => p.pv a (s a z)⟩
theorem Post.join (p : Post c vs fp H H1 F n) (p' : Post c ws fp H H1 F' n) : Post c (vs ++ ws) fp H H1 (F ++ F') n :=
  ⟨p.kp, fun a z => (List.mem_append.mp z).elim (p.nos a) (p'.nos a), fun a z => (List.mem_append.mp z).elim (fun q => (p.pv a q).elim .inl fun ⟨j, hj, r⟩ => .inr ⟨j, by simp [hj], r⟩) fun q => (p'.pv a q).elim .inl fun ⟨j, hj, r⟩ => .inr ⟨j, by simp [hj], r⟩⟩
end

/-! ### readings by data -/
def tD {K : PySem.W.Frag} (c : Cd K) (vs : List Nat) (f : Env → W D) : TE := fun σ H Q => ∃ n fp δ Qd, EnvOk c fp H σ δ n ∧ f δ Qd c.xq n ∧ ∀ {n'} d, Qd d n' → ∀ v H' F, Post c vs fp H H' F n' → Rp c.G H' v d F → Q v H'
/-- a test -/
def tT {K : PySem.W.Frag} (c : Cd K) (f : Env → W Bool) : TT := fun σ H Q => ∃ n fp δ Qd, EnvOk c fp H σ δ n ∧ f δ Qd c.xq n ∧ ∀ {n'} b, Qd b n' → ∀ H', Kp c.G H H' n' → Q b H'
/-- arguments -/
def tA {K : PySem.W.Frag} (c : Cd K) (vs : List Nat) (f : Env → W (List D)) : TA := fun σ H Q => ∃ n fp δ Qd, EnvOk c fp H σ δ n ∧ f δ Qd c.xq n ∧ ∀ {n'} ds, Qd ds n' → ∀ us H' F, Post c vs fp H H' F n' → RpA c.G H' us ds F → Q us H'
/-- a new object, whole -/
def tN {K : PySem.W.Frag} (c : Cd K) (f : Env → W D) : TE := fun σ H Q => ∃ n fp δ Qd, EnvOk c fp H σ δ n ∧ f δ Qd c.xq n ∧ ∀ {n'} d, Qd d n' → ∀ v H' F, Kp c.G H H' n' → Rp c.G H' v d F → (∀ a ∈ F, H a = none) → F.Nodup → Q v H'

section
variable {X : Cx} {c : Cd X.K} {e a b : Expr} {t t' : TE}
theorem _root_.L2.PE.wk (h : PE X e t) (w : ∀ σ H Q, t' σ H Q → t σ H Q) : PE X e t' := ⟨fun pins s σ H Q I q => h.run pins s σ H Q I (w σ H Q q)⟩
theorem _root_.L2.PT.wk {t t' : TT} (h : PT X e t) (w : ∀ σ H Q, t' σ H Q → t σ H Q) : PT X e t' := ⟨fun pins s σ H Q I q => h.run pins s σ H Q I (w σ H Q q)⟩
theorem _root_.L2.PA.wk {es : List Expr} {t t' : TA} (h : PA X es t) (w : ∀ σ H Q, t' σ H Q → t σ H Q) : PA X es t' := ⟨fun pos pins s σ H Q I q => h.run pos pins s σ H Q I (w σ H Q q)⟩
theorem _root_.L2.PS.wk {st : Stmt} {t t' : TS} (h : PS X st t) (w : ∀ Dn σ H, t' Dn σ H → t Dn σ H) : PS X st t' := ⟨fun pins s σ H Dn I q => h.run pins s σ H Dn I (w Dn σ H q)⟩
theorem _root_.L2.PSs.wk {st : List Stmt} {t t' : TS} (h : PSs X st t) (w : ∀ Dn σ H, t' Dn σ H → t Dn σ H) : PSs X st t' := ⟨fun pins s σ H Dn I q => h.run pins s σ H Dn I (w Dn σ H q)⟩
/-- a whole new object is one -/
theorem pd_new {f : Env → W D} (h : PE X e (tN c f)) : PE X e (tD c [] f) := h.wk fun σ H Q ⟨_, fp, δ, Qd, e, hf, k⟩ =>
  ⟨_, fp, δ, Qd, e, hf, fun d qd v H' F kp r fr nd => k d qd v H' F ⟨kp, fun a z => notS0 e.ok (fr a z), fun a z => .inl (fr a z)⟩ r⟩

/-! ### names, constants -/
def dV (i : Nat) : Env → W D := fun δ => gw δ i
theorem pd_v (i : Nat) (h : PE X e (tVar i)) : PE X e (tD c [i] (dV i)) := h.wk fun σ H Q ⟨_, fp, δ, Qd, e, hf, k⟩ => by
  unfold dV gw at hf
  cases q : gt δ i with
  | none => rw [q] at hf; exact hf.elim
  | some d =>
    rw [q] at hf
    obtain ⟨v, hv, r⟩ := e.rep i d q
    exact ⟨v, hv, k d hf v H (fp i) ⟨Kp.refl e.ok, e.nos i, fun a z => .inr ⟨i, by simp, z⟩⟩ r⟩
def dC (d : D) : Env → W D := fun _ => pu d
theorem pd_c {v : V} {d : D} (h : PE X e (tC v)) (r : ∀ H, Rp c.G H v d []) : PE X e (tD c [] (dC d)) := h.wk fun σ H Q ⟨_, fp, δ, Qd, e, hf, k⟩ =>
  k d hf v H [] (Post.nil e.ok) (r H)
theorem pd_int {i j pos} : PE X (.Constant (.int i) j pos) (tD c [] (dC (.int i))) := pd_c pe_int fun _ => .int i
theorem pd_bl {i j pos} : PE X (.Constant (.bool i) j pos) (tD c [] (dC (.bl i))) := pd_c pe_bl fun _ => .bl i
theorem pd_non {j pos} : PE X (.Constant .none j pos) (tD c [] (dC .non)) := pd_c pe_non fun _ => .non
theorem pd_str {x j pos} : PE X (.Constant (.str x) j pos) (tD c [] (dC (.str x))) := pd_c pe_str fun _ => .str x

/-! ### two parts and an operation by values -/
/-- opd, a function of data, does what r, a rule by values, asks -/
def OpD {K : PySem.W.Frag} (c : Cd K) (r : R2) (opd : D → D → W D) : Prop := ∀ {n : Nat} (H : Hp) (x y : V) (dx dy : D) (Fx Fy : List Addr) (Qd : D → Nat → Prop) (Q : VK), c.G.ok H n → (∀ a ∈ Fx, a ∉ c.G.S) → (∀ a ∈ Fy, a ∉ c.G.S) → Rp c.G H x dx Fx → Rp c.G H y dy Fy → opd dx dy Qd c.xq n →
  (∀ {n'} d, Qd d n' → ∀ v H' F, Kp c.G H H' n' → Rp c.G H' v d F → (∀ a ∈ F, H a = none ∨ a ∈ Fx ∨ a ∈ Fy) → Q v H') → r x y H Q
def dOp (opd : D → D → W D) (fa fb : Env → W D) : Env → W D := fun δ => bd (fa δ) fun x => bd (fb δ) fun y => opd x y
theorem tOp_of {r : R2} {opd : D → D → W D} {va vb : List Nat} {fa fb : Env → W D} (ho : OpD c r opd) (σ : St) (H : Hp) (Q : VK) (h : tD c (va ++ vb) (dOp opd fa fb) σ H Q) : tOp r (tD c va fa) (tD c vb fb) σ H Q := by
  obtain ⟨_, fp, δ, Qd, e, hf, k⟩ := h
  refine ⟨_, fp, δ, fun x => bd (fb δ) (fun y => opd x y) Qd c.xq, e, hf, fun dx qx x H1 Fx p1 r1 => ?_⟩
  refine ⟨_, fp, δ, fun y => opd dx y Qd c.xq, e.kp p1.kp, qx, fun dy qy y H2 Fy p2 r2 => ?_⟩
  refine ho H2 x y dx dy Fx Fy Qd Q p2.kp.ok p1.nos p2.nos (r1.kp p2.kp p1.nos) r2 qy fun d qd v H' F kp rv hF => ?_
  have p1' := p1.more p2.kp
  have p2' := Post.ahead p1.kp p2
  have pj := p1'.join p2'
  refine k d qd v H' F ⟨(pj.kp).trans kp, fun a z => ?_, fun a z => ?_⟩ rv
  · rcases hF a z with q | q | q
    · exact notS0 p2.kp.ok q
    · exact p1.nos a q
    · exact p2.nos a q
  · rcases hF a z with q | q | q
    · exact .inl (pj.kp.free q)
    · exact pj.pv a (by simp [q])
    · exact pj.pv a (by simp [q])
variable {op : Operator} {r : R2} {opd : D → D → W D} {va vb : List Nat} {fa fb : Env → W D} {pos : Pos}
theorem pd_op (ho : OpR X (binaryOp op) r) (hd : OpD c r opd) (ha : PE X a (tD c va fa)) (hb : PE X b (tD c vb fb)) : PE X (.BinOp a op b pos) (tD c (va ++ vb) (dOp opd fa fb)) := (pe_op ho ha hb).wk (tOp_of hd)
theorem pd_cmp {op : CmpOp} (ho : OpR X (compareOp op) r) (hd : OpD c r opd) (ha : PE X a (tD c va fa)) (hb : PE X b (tD c vb fb)) (hm : behindInMarks op b = false) : PE X (.Compare a [op] [b] pos) (tD c (va ++ vb) (dOp opd fa fb)) := (pe_cmpR ho ha hb hm).wk (tOp_of hd)
theorem pd_ix (ho : IxR X r) (hd : OpD c r opd) (ha : PE X a (tD c va fa)) (hb : PE X b (tD c vb fb)) (hs : PlainIx b) : PE X (.Subscript a b pos) (tD c (va ++ vb) (dOp opd fa fb)) := (pe_ix ho ha hb hs).wk (tOp_of hd)
end
end DL
namespace DL
open PySem L2
section
variable {K : PySem.W.Frag} {G : Gx K} {H H' : Hp}
theorem Rp.nonI {v : V} {F : List Addr} (h : Rp G H v .non F) : v = .non ∧ F = [] := by cases h; exact ⟨rfl, rfl⟩
theorem Rp.blI {v : V} {b : Bool} {F : List Addr} (h : Rp G H v (.bl b) F) : v = .bl b ∧ F = [] := by cases h; exact ⟨rfl, rfl⟩
theorem Rp.intI {v : V} {i : Int} {F : List Addr} (h : Rp G H v (.int i) F) : v = .int i ∧ F = [] := by cases h; exact ⟨rfl, rfl⟩
theorem Rp.strI {v : V} {x : Str} {F : List Addr} (h : Rp G H v (.str x) F) : v = .str x ∧ F = [] := by cases h; exact ⟨rfl, rfl⟩
theorem Rp.tupI {v : V} {ds : List D} {F : List Addr} (h : Rp G H v (.tup ds) F) : ∃ a xs, v = .ref a ∧ SqT K H a xs ∧ RpA G H xs ds F := by cases h with | tup e ha => exact ⟨_, _, rfl, e, ha⟩
theorem Rp.lstI {v : V} {ds : List D} {F : List Addr} (h : Rp G H v (.lst ds) F) : ∃ a xs F', v = .ref a ∧ SqL K H a xs ∧ RpA G H xs ds F' ∧ ∀ b ∈ F', b ∈ F := by
  cases h with
  | lst e ha => exact ⟨_, _, _, rfl, .inl (.inl e), ha, fun b z => by simp [z]⟩
theorem Rp.frzI {v : V} {ds : List D} {F : List Addr} (h : Rp G H v (.frz ds) F) : ∃ a xs, v = .ref a ∧ SqL K H a xs ∧ RpA G H xs ds [] ∧ F = [] := by
  cases h with
  | frz e ha => exact ⟨_, _, rfl, e.sq, ha, rfl⟩
theorem RpA.ints : ∀ {ns : List Int} {xs : List V} {F : List Addr}, RpA G H xs (ns.map D.int) F → xs = ns.map V.int ∧ F = []
  | [], _, _, h => by cases h; exact ⟨rfl, rfl⟩
  | n :: ns, _, _, h => by
    rw [List.map_cons] at h
    cases h with
    | cons h1 h2 =>
      obtain ⟨rfl, rfl⟩ := h1.intI
      obtain ⟨rfl, rfl⟩ := RpA.ints h2
      exact ⟨rfl, rfl⟩
theorem RpA.of_ints : ∀ {ns : List Int}, RpA G H (ns.map V.int) (ns.map D.int) []
  | [] => .nil
  | n :: ns => by have := RpA.cons (Rp.int (G := G) (H := H) n) (RpA.of_ints (ns := ns)); simpa using this
theorem RpA.bls : ∀ {ns : List Bool} {xs : List V} {F : List Addr}, RpA G H xs (ns.map D.bl) F → xs = ns.map V.bl ∧ F = []
  | [], _, _, h => by cases h; exact ⟨rfl, rfl⟩
  | n :: ns, _, _, h => by
    rw [List.map_cons] at h
    cases h with
    | cons h1 h2 =>
      obtain ⟨rfl, rfl⟩ := h1.blI
      obtain ⟨rfl, rfl⟩ := RpA.bls h2
      exact ⟨rfl, rfl⟩
/-- the intsD of a list of intsD -/
def intsD : List D → Option (List Int)
  | [] => some []
  | .int i :: ds => (intsD ds).map (i :: ·)
  | _ :: _ => none
theorem intsD_eq : ∀ {ds : List D} {ns : List Int}, intsD ds = some ns → ds = ns.map D.int
  | [], _, h => by simp [intsD] at h; subst h; rfl
  | d :: ds, ns, h => by
    cases d <;> simp [intsD] at h
    obtain ⟨ms, e, rfl⟩ := h
    rw [intsD_eq e]; rfl
theorem intsD_map : ∀ (ns : List Int), intsD (ns.map D.int) = some ns
  | [] => rfl
  | n :: ns => by simp [intsD, intsD_map ns]
def bls : List D → Option (List Bool)
  | [] => some []
  | .bl i :: ds => (bls ds).map (i :: ·)
  | _ :: _ => none
theorem bls_eq : ∀ {ds : List D} {ns : List Bool}, bls ds = some ns → ds = ns.map D.bl
  | [], _, h => by simp [bls] at h; subst h; rfl
  | d :: ds, ns, h => by
    cases d <;> simp [bls] at h
    obtain ⟨ms, e, rfl⟩ := h
    rw [bls_eq e]; rfl
theorem bls_map : ∀ (ns : List Bool), bls (ns.map D.bl) = some ns
  | [] => rfl
  | n :: ns => by simp [bls, bls_map ns]
/-- what is laid anew keeps what is read -/
theorem Rp.laid {v : V} {d : D} {F : List Addr} (h : Rp G H v d F) {m : Nat} (hk : G.ok H m) (hn : ∀ a ∈ F, a ∉ G.S) {p : Addr} (hp : H p = none) (o : HO) : Rp G (upd H p o) v d F := h.kp (Kp.laid hk hp o) hn
theorem RpA.laid {v : List V} {d : List D} {F : List Addr} (h : RpA G H v d F) {m : Nat} (hk : G.ok H m) (hn : ∀ a ∈ F, a ∉ G.S) {p : Addr} (hp : H p = none) (o : HO) : RpA G (upd H p o) v d F := h.kp (Kp.laid hk hp o) hn

/-! ### data as the library's data -/
mutual
def D.py : D → Option PyData
  | .non => some .none
  | .bl b => some (.bool b)
  | .int i => some (.int i)
  | .str x => some (.str x)
  | .lst ds => (D.pys ds).map .list
  | .frz ds => (D.pys ds).map .list
  | .tup ds => (D.pys ds).map .tuple
  | .dic _ _ => none
  | .dtt _ _ => none
  | .src => none
  | .ty _ => none
  | .ref _ => none
def D.pys : List D → Option (List PyData)
  | [] => some []
  | d :: ds => (D.py d).bind fun p => (D.pys ds).map (p :: ·)
end
mutual
theorem Rp.dp : ∀ (d : D) (v : V) (F : List Addr) (p : PyData), Rp G H v d F → d.py = some p → Dp K H v p
  | .non, _, _, _, h, e => by cases h; simp [D.py] at e; subst e; exact .non
  | .bl _, _, _, _, h, e => by cases h; simp [D.py] at e; subst e; exact .bl _
  | .int _, _, _, _, h, e => by cases h; simp [D.py] at e; subst e; exact .int _
  | .str _, _, _, _, h, e => by cases h; simp [D.py] at e; subst e; exact .str _
  | .src, _, _, _, h, e => by simp [D.py] at e
  | .ty _, _, _, _, h, e => by simp [D.py] at e
  | .ref _, _, _, _, h, e => by simp [D.py] at e
  | .dic _ _, _, _, _, h, e => by simp [D.py] at e
  | .dtt _ _, _, _, _, h, e => by simp [D.py] at e
  | .lst ds, _, _, _, h, e => by
    simp [D.py] at e
    obtain ⟨ps, e, rfl⟩ := e
    cases h with
    | lst q ha => exact .lst (.inl (.inl q)) (RpA.dp ds _ _ _ ha e)
  | .frz ds, _, _, _, h, e => by
    simp [D.py] at e
    obtain ⟨ps, e, rfl⟩ := e
    cases h with
    | frz q ha => exact .lst q.sq (RpA.dp ds _ _ _ ha e)
  | .tup ds, _, _, _, h, e => by
    simp [D.py] at e
    obtain ⟨ps, e, rfl⟩ := e
    cases h with
    | tup q ha => exact .tup q (RpA.dp ds _ _ _ ha e)
theorem RpA.dp : ∀ (ds : List D) (vs : List V) (F : List Addr) (ps : List PyData), RpA G H vs ds F → D.pys ds = some ps → DpAll K H vs ps
  | [], _, _, _, h, e => by cases h; simp [D.pys] at e; subst e; exact .nil
  | d :: ds, _, _, _, h, e => by
    cases h with
    | cons h1 h2 =>
      simp only [D.pys, Option.bind_eq_some_iff, Option.map_eq_some_iff] at e
      obtain ⟨p, e1, ps, e2, rfl⟩ := e
      exact .cons (Rp.dp d _ _ _ h1 e1) (RpA.dp ds _ _ _ h2 e2)
end
end

def chk {α : Type} (p : Prop) (w : W α) : W α := fun Q X n => p ∧ w Q X n
theorem chk_pos {α : Type} {p : Prop} (h : p) (w : W α) : chk p w = w := by
  funext Q X n
  exact propext ⟨fun q => q.2, fun q => ⟨h, q⟩⟩
/-- what is there, or nothing is claimed -/
def opt {α β : Type} (o : Option α) (k : α → W β) : W β := fun Q X n => ∃ a, o = some a ∧ k a Q X n
theorem opt_some {α β : Type} (a : α) (k : α → W β) : opt (some a) k = k a := by
  funext Q X n
  exact propext ⟨fun ⟨b, e, q⟩ => by cases e; exact q, fun q => ⟨a, rfl, q⟩⟩
theorem opt_none {α β : Type} (k : α → W β) : opt none k = fl := by
  funext Q X n
  exact propext ⟨fun ⟨b, e, q⟩ => (nomatch e), fun q => q.elim⟩
def asI : D → W Int
  | .int i => pu i
  | _ => fl
def asB : D → W Bool
  | .bl b => pu b
  | _ => fl

section
variable {X : Cx} {c : Cd X.K}
/-- an operation that makes nothing new -/
theorem od_flat {r : R2} {opd : D → D → W D} (h : ∀ {n : Nat} (H : Hp) (x y : V) (dx dy : D) (Fx Fy : List Addr) (Qd : D → Nat → Prop) (Q : VK), c.G.ok H n → Rp c.G H x dx Fx → Rp c.G H y dy Fy → opd dx dy Qd c.xq n →
    (∀ d, Qd d n → ∀ v F, Rp c.G H v d F → (∀ a ∈ F, a ∈ Fx ∨ a ∈ Fy) → Q v H) → r x y H Q) : OpD c r opd := fun H x y dx dy Fx Fy Qd Q ok _ _ rx ry q k =>
  h H x y dx dy Fx Fy Qd Q ok rx ry q fun d qd v F rv s => k d qd v H F (Kp.refl ok) rv fun a z => .inr (s a z)
theorem OpD.or1 {r r' : R2} {opd : D → D → W D} (h : OpD c r opd) : OpD c (fun x y H Q => r x y H Q ∨ r' x y H Q) opd := fun H x y dx dy Fx Fy Qd Q a b d e f q k => .inl (h H x y dx dy Fx Fy Qd Q a b d e f q k)
theorem OpD.or2 {r r' : R2} {opd : D → D → W D} (h : OpD c r' opd) : OpD c (fun x y H Q => r x y H Q ∨ r' x y H Q) opd := fun H x y dx dy Fx Fy Qd Q a b d e f q k => .inr (h H x y dx dy Fx Fy Qd Q a b d e f q k)

/-! ### + -/
def addD : D → D → W D
  | .int i, .int j => pu (.int (i + j))
  | .str a, .str b => chk (a.length + b.length ≤ sizeLine) (pu (.str (a ++ b)))
  | .tup xs, .tup ys => chk (xs.length + ys.length ≤ sizeLine) (pu (.tup (xs ++ ys)))
  | .lst xs, .lst ys => chk (xs.length + ys.length ≤ sizeLine) (pu (.lst (xs ++ ys)))
  | _, _ => fl
def rAdd (K : PySem.W.Frag) : R2 := fun x y H Q => rI0 (fun i j => .int (i + j)) x y H Q ∨ ((∃ i j, x = .str i ∧ y = .str j ∧ i.length + j.length ≤ sizeLine ∧ Q (.str (i ++ j)) H) ∨ (rCatA K x y H Q ∨ rCat x y H Q))
theorem or_add : OpR X (binaryOp .Add) (rAdd X.K) := OpR.or op_add (OpR.or op_add_str (OpR.or op_catA op_cat))
theorem od_add : OpD c (rAdd X.K) addD := by
  intro n H x y dx dy Fx Fy Qd Q ok nx ny rx ry q k
  unfold addD at q
  split at q
  · obtain ⟨rfl, rfl⟩ := rx.intI
    obtain ⟨rfl, rfl⟩ := ry.intI
    exact .inl ⟨_, _, rfl, rfl, k _ q _ H [] (Kp.refl ok) (.int _) fun _ z => nomatch z⟩
  · obtain ⟨rfl, rfl⟩ := rx.strI
    obtain ⟨rfl, rfl⟩ := ry.strI
    exact .inr (.inl ⟨_, _, rfl, rfl, q.1, k _ q.2 _ H [] (Kp.refl ok) (.str _) fun _ z => nomatch z⟩)
  · obtain ⟨a, xs, rfl, sx, ax⟩ := rx.tupI
    obtain ⟨b, ys, rfl, sy, ay⟩ := ry.tupI
    refine .inr (.inr (.inl ⟨a, b, xs, ys, rfl, rfl, sx, sy, by rw [ax.length, ay.length]; exact q.1, fun e => ?_, fun _ e => ?_, fun _ _ p hp => ?_⟩))
    · subst e
      cases ax
      exact k _ q.2 _ H Fy (Kp.refl ok) (by simpa using ry) fun _ z => .inr (.inr z)
    · subst e
      cases ay
      exact k _ q.2 _ H Fx (Kp.refl ok) (by simpa using rx) fun _ z => .inr (.inl z)
    · refine k _ q.2 _ _ (Fx ++ Fy) (Kp.laid ok hp _) (.tup (SqT.of upd_same) ((ax.laid ok nx hp _).append (ay.laid ok ny hp _))) fun b z => ?_
      exact .inr (List.mem_append.mp z)
  · cases rx with
    | lst ex ax =>
      cases ry with
      | lst ey ay =>
        refine .inr (.inr (.inr ⟨_, _, _, _, rfl, rfl, ex, ey, by rw [ax.length, ay.length]; exact q.1, fun p hp => ?_⟩))
        refine k _ q.2 _ _ _ (Kp.laid ok hp _) (.lst upd_same ((ax.laid ok (fun a z => nx a (by simp [z])) hp _).append (ay.laid ok (fun a z => ny a (by simp [z])) hp _))) fun b z => ?_
        rcases List.mem_cons.mp z with z | z
        · exact .inl (by rw [z]; exact hp)
        · rcases List.mem_append.mp z with z | z
          · exact .inr (.inl (by simp [z]))
          · exact .inr (.inr (by simp [z]))
  · exact q.elim
end
end DL
namespace DL
open PySem L2
section
variable {X : Cx} {c : Cd X.K}
/-! ### ints -/
def intOp (g : Int → Int → D) : D → D → W D
  | .int i, .int j => pu (g i j)
  | _, _ => fl
def intOpC (C : Int → Int → Prop) (g : Int → Int → D) : D → D → W D
  | .int i, .int j => chk (C i j) (pu (g i j))
  | _, _ => fl
theorem od_int {gv : Int → Int → V} {g : Int → Int → D} (h : ∀ (H : Hp) i j, Rp c.G H (gv i j) (g i j) []) : OpD c (rI0 gv) (intOp g) := od_flat fun H x y dx dy Fx Fy Qd Q ok rx ry q k => by
  unfold intOp at q
  split at q
  · obtain ⟨rfl, rfl⟩ := rx.intI
    obtain ⟨rfl, rfl⟩ := ry.intI
    exact ⟨_, _, rfl, rfl, k _ q _ [] (h H _ _) fun _ z => nomatch z⟩
  · exact q.elim
theorem od_intC {C : Int → Int → Prop} {gv : Int → Int → V} {g : Int → Int → D} (h : ∀ (H : Hp) i j, Rp c.G H (gv i j) (g i j) []) : OpD c (rI C gv) (intOpC C g) := od_flat fun H x y dx dy Fx Fy Qd Q ok rx ry q k => by
  unfold intOpC at q
  split at q
  · obtain ⟨rfl, rfl⟩ := rx.intI
    obtain ⟨rfl, rfl⟩ := ry.intI
    exact ⟨_, _, rfl, rfl, q.1, k _ q.2 _ [] (h H _ _) fun _ z => nomatch z⟩
  · exact q.elim
def subD := intOp fun i j => .int (i - j)
theorem od_sub : OpD c (rI0 fun i j => .int (i - j)) subD := od_int fun _ i j => .int _
def modD := intOpC (fun _ j => 0 < j) fun i j => .int (i % j)
theorem od_mod : OpD c (rI (fun _ j => 0 < j) fun i j => .int (i % j)) modD := od_intC fun _ i j => .int _
def fdivD := intOpC CDivW fun i j => .int (i / j)
theorem od_fdiv : OpD c (rI CDivW fun i j => .int (i / j)) fdivD := od_intC fun _ i j => .int _
def powD := intOpC CPow fun i j => .int (i ^ j.toNat)
theorem od_pow : OpD c (rI CPow fun i j => .int (i ^ j.toNat)) powD := od_intC fun _ i j => .int _
def ltD := intOp fun i j => .bl (decide (i < j))
theorem od_lt : OpD c (rI0 fun i j => .bl (decide (i < j))) ltD := od_int fun _ i j => .bl _
def gtD := intOp fun i j => .bl (decide (j < i))
theorem od_gt : OpD c (rI0 fun i j => .bl (decide (j < i))) gtD := od_int fun _ i j => .bl _
def geD := intOp fun i j => .bl (decide (j ≤ i))
theorem od_ge : OpD c (rI0 fun i j => .bl (decide (j ≤ i))) geD := od_int fun _ i j => .bl _
/-- <= of ints and of tuples of ints -/
def leInts : List Int → List Int → Bool
  | [], _ => true
  | _ :: _, [] => false
  | x :: xs, y :: ys => if x = y then leInts xs ys else decide (x ≤ y)
theorem lexAt_shift (e r : Nat → Bool) (z : Bool) : ∀ k i, Ob.lexAt e r z (i + 1) k = Ob.lexAt (fun j => e (j + 1)) (fun j => r (j + 1)) z i k
  | 0, _ => rfl
  | k + 1, i => by
    rw [Ob.lexAt_succ, Ob.lexAt_succ, lexAt_shift e r z k (i + 1)]
theorem lexAt_le : ∀ (ns ms : List Int), Ob.lexAt (fun j => decide (ns.getD j 0 = ms.getD j 0)) (fun j => decide (ns.getD j 0 ≤ ms.getD j 0)) (decide (ns.length ≤ ms.length)) 0 (min ns.length ms.length) = leInts ns ms
  | [], ms => by
    simp only [List.length_nil, Nat.zero_min, Nat.zero_le, decide_true, leInts]
    rfl
  | n :: ns, [] => by
    simp only [List.length_nil, Nat.min_zero, leInts]
    show decide ((n :: ns).length ≤ 0) = false
    exact decide_eq_false (by simp)
  | n :: ns, m :: ms => by
    have e : min (n :: ns).length (m :: ms).length = min ns.length ms.length + 1 := by simp only [List.length_cons]; omega
    rw [e, Ob.lexAt_succ]
    show (if decide (n = m) = true then _ else decide (n ≤ m)) = if n = m then leInts ns ms else decide (n ≤ m)
    by_cases h : n = m
    · rw [if_pos (decide_eq_true h), if_pos h, lexAt_shift, ← lexAt_le ns ms]
      simp only [List.getD_cons_succ, List.length_cons, Nat.add_le_add_iff_right]
    · rw [if_neg (by simpa using h), if_neg h]
def leD : D → D → W D
  | .int i, .int j => pu (.bl (decide (i ≤ j)))
  | .tup xs, .tup ys => opt (intsD xs) fun ns => opt (intsD ys) fun ms => pu (.bl (leInts ns ms))
  | _, _ => fl
def rLe (K : PySem.W.Frag) : R2 := fun x y H Q => rI0 (fun i j => .bl (decide (i ≤ j))) x y H Q ∨ rLeT K x y H Q
theorem or_le (hu : X.A.units < cLine) : OpR X (compareOp .LtE) (rLe X.K) := OpR.or op_le (op_leT hu)
theorem od_le : OpD c (rLe X.K) leD := od_flat fun H x y dx dy Fx Fy Qd Q ok rx ry q k => by
  unfold leD at q
  split at q
  · obtain ⟨rfl, rfl⟩ := rx.intI
    obtain ⟨rfl, rfl⟩ := ry.intI
    exact .inl ⟨_, _, rfl, rfl, k _ q _ [] (.bl _) fun _ z => nomatch z⟩
  · obtain ⟨ns, e1, ms, e2, q⟩ := q
    have e1 := intsD_eq e1
    have e2 := intsD_eq e2
    subst e1 e2
    obtain ⟨a, xs, rfl, sx, ax⟩ := rx.tupI
    obtain ⟨b, ys, rfl, sy, ay⟩ := ry.tupI
    obtain ⟨rfl, rfl⟩ := ax.ints
    obtain ⟨rfl, rfl⟩ := ay.ints
    refine .inr ⟨a, b, _, _, rfl, rfl, sx, sy, ?_⟩
    rw [lexAt_le]
    exact k _ q _ [] (.bl _) fun _ z => nomatch z
  · exact q.elim

/-! ### * -/
def mulD : D → D → W D
  | .int i, .int j => chk (CMulW i j) (pu (.int (i * j)))
  | .lst xs, .int k => chk (k < 2 ^ 63 ∧ -(2 ^ 63) ≤ k ∧ xs.length * k.toNat ≤ sizeLine ∧ D.imms xs = true) (pu (.lst (List.replicate k.toNat xs).flatten))
  | .tup xs, .int k => chk (xs ≠ [] ∧ 2 ≤ k ∧ k ≤ 1000 ∧ xs.length ≤ 1000 ∧ D.imms xs = true) (pu (.tup (List.replicate k.toNat xs).flatten))
  | _, _ => fl
def rMul (K : PySem.W.Frag) : R2 := fun x y H Q => rI CMulW (fun i j => .int (i * j)) x y H Q ∨ (rRep x y H Q ∨ rRepT K x y H Q)
theorem or_mul : OpR X (binaryOp .Mult) (rMul X.K) := OpR.or op_mulW (OpR.or op_rep op_repT)
theorem RpA.rep {G : Gx X.K} {H : Hp} {xs : List V} {ds : List D} (h : RpA G H xs ds []) : ∀ n : Nat, RpA G H (List.replicate n xs).flatten (List.replicate n ds).flatten []
  | 0 => .nil
  | n + 1 => by
    have := h.append (RpA.rep h n)
    simpa [List.replicate_succ] using this
theorem od_mul : OpD c (rMul X.K) mulD := by
  intro n H x y dx dy Fx Fy Qd Q ok nx ny rx ry q k
  unfold mulD at q
  split at q
  · obtain ⟨rfl, rfl⟩ := rx.intI
    obtain ⟨rfl, rfl⟩ := ry.intI
    exact .inl ⟨_, _, rfl, rfl, q.1, k _ q.2 _ H [] (Kp.refl ok) (.int _) fun _ z => nomatch z⟩
  · obtain ⟨rfl, rfl⟩ := ry.intI
    obtain ⟨⟨h1, h2, h3, h4⟩, q⟩ := q
    cases rx with
    | lst ex ax =>
      refine .inr (.inl ⟨_, _, _, rfl, rfl, ex, h2, h1, by rw [ax.length]; exact h3, fun p hp => ?_⟩)
      have e := RpA.imm_nil _ _ _ ax h4
      subst e
      refine k _ q _ _ [p] (Kp.laid ok hp _) ?_ fun a z => .inl (by rw [List.mem_singleton.mp z]; exact hp)
      exact .lst upd_same ((ax.laid ok (fun _ z => nomatch z) hp _).rep _)
  · obtain ⟨rfl, rfl⟩ := ry.intI
    obtain ⟨⟨h1, h2, h3, h4, h5⟩, q⟩ := q
    obtain ⟨a, vs, rfl, sx, ax⟩ := rx.tupI
    have e := RpA.imm_nil _ _ _ ax h5
    subst e
    refine .inr (.inr ⟨_, _, _, rfl, rfl, sx, ?_, h2, h3, by rw [ax.length]; exact h4, fun p hp => ?_⟩)
    · intro e
      subst e
      cases ax
      exact h1 rfl
    · refine k _ q _ _ [] (Kp.laid ok hp _) ?_ fun _ z => nomatch z
      exact .tup (SqT.of upd_same) ((ax.laid ok (fun _ z => nomatch z) hp _).rep _)
  · exact q.elim

/-! ### ==, != of data -/
def eqvD (x y : D) (g : Bool → W D) : W D := opt x.py fun a => opt y.py fun b => chk (SeqAt.shaped a = true ∧ SeqAt.shaped b = true) (g (PyData.eqv a b))
def eqD (x y : D) : W D := eqvD x y fun b => pu (.bl b)
def neD (x y : D) : W D := eqvD x y fun b => pu (.bl (!b))
theorem od_eq : OpD c (rEqD X.K) eqD := od_flat fun H x y dx dy Fx Fy Qd Q ok rx ry q k => by
  obtain ⟨a, e1, b, e2, ⟨s1, s2⟩, q⟩ := q
  exact ⟨a, b, Rp.dp _ _ _ _ rx e1, Rp.dp _ _ _ _ ry e2, s1, s2, k _ q _ [] (.bl _) fun _ z => nomatch z⟩
theorem od_ne : OpD c (rNeD X.K) neD := od_flat fun H x y dx dy Fx Fy Qd Q ok rx ry q k => by
  obtain ⟨a, e1, b, e2, ⟨s1, s2⟩, q⟩ := q
  exact ⟨a, b, Rp.dp _ _ _ _ rx e1, Rp.dp _ _ _ _ ry e2, s1, s2, k _ q _ [] (.bl _) fun _ z => nomatch z⟩
def pyL : PyData → Option (List PyData)
  | .list bs => some bs
  | .tuple bs => some bs
  | _ => none
theorem pyL_eq {p : PyData} {bs : List PyData} (h : pyL p = some bs) : p = .list bs ∨ p = .tuple bs := by
  cases p <;> simp [pyL] at h
  · subst h; exact .inl rfl
  · subst h; exact .inr rfl
def inD (x y : D) (g : Bool → W D) : W D := opt x.py fun a => opt (y.py.bind pyL) fun bs => chk (SeqAt.shaped a = true ∧ SeqAt.shaped (.list bs) = true) (g (bs.any fun z => PyData.eqv z a))
theorem py_bind {y : D} {bs : List PyData} (h : y.py.bind pyL = some bs) : y.py = some (.list bs) ∨ y.py = some (.tuple bs) := by
  cases e : y.py with
  | none => rw [e] at h; simp at h
  | some p =>
    rw [e] at h
    rcases pyL_eq (p := p) (by simpa using h) with q | q
    · rw [q]; exact .inl rfl
    · rw [q]; exact .inr rfl
def inLD (x y : D) : W D := inD x y fun b => pu (.bl b)
def ninLD (x y : D) : W D := inD x y fun b => pu (.bl (!b))
def rInT (K : PySem.W.Frag) : R2 := fun x y H Q => ∃ d ds, Dp K H x d ∧ Dp K H y (.tuple ds) ∧ SeqAt.shaped d = true ∧ SeqAt.shaped (.list ds) = true ∧ Q (.bl (ds.any fun z => PyData.eqv z d)) H
def rNotInT (K : PySem.W.Frag) : R2 := fun x y H Q => ∃ d ds, Dp K H x d ∧ Dp K H y (.tuple ds) ∧ SeqAt.shaped d = true ∧ SeqAt.shaped (.list ds) = true ∧ Q (.bl (!ds.any fun z => PyData.eqv z d)) H
theorem op_inT (hu : X.A.units + 65 < cLine) : OpR X (compareOp .In) (rInT X.K) := by
  intro pins s σ H x y v u Q I rx ry h
  obtain ⟨d, ds, hd, he, sd, se, q⟩ := h
  obtain ⟨as, r1⟩ := Dp.reads I d x v hd rx
  obtain ⟨bs, r2⟩ := Dp.reads I (.tuple ds) y u he ry
  exact SeqAt.in_tuple_reads r2 r1 (SeqAt.canLay_of_shaped se) (SeqAt.canLay_of_shaped sd) (PyProof.Rows.room_in_shaped sd hu) ⟨.bl _, H, I, rfl, q⟩
theorem op_notInT (hu : X.A.units + 65 < cLine) : OpR X (compareOp .NotIn) (rNotInT X.K) := by
  intro pins s σ H x y v u Q I rx ry h
  obtain ⟨d, ds, hd, he, sd, se, q⟩ := h
  obtain ⟨as, r1⟩ := Dp.reads I d x v hd rx
  obtain ⟨bs, r2⟩ := Dp.reads I (.tuple ds) y u he ry
  exact SeqAt.notIn_tuple_reads r2 r1 (SeqAt.canLay_of_shaped se) (SeqAt.canLay_of_shaped sd) (PyProof.Rows.room_in_shaped sd hu) ⟨.bl _, H, I, rfl, q⟩
theorem od_in : OpD c (fun x y H Q => rInD X.K x y H Q ∨ rInT X.K x y H Q) inLD := od_flat fun H x y dx dy Fx Fy Qd Q ok rx ry q k => by
  obtain ⟨a, e1, b, e2, ⟨s1, s2⟩, q⟩ := q
  rcases py_bind e2 with e2 | e2
  · exact .inl ⟨a, b, Rp.dp _ _ _ _ rx e1, Rp.dp _ _ _ _ ry e2, s1, s2, k _ q _ [] (.bl _) fun _ z => nomatch z⟩
  · exact .inr ⟨a, b, Rp.dp _ _ _ _ rx e1, Rp.dp _ _ _ _ ry e2, s1, s2, k _ q _ [] (.bl _) fun _ z => nomatch z⟩
theorem od_nin : OpD c (fun x y H Q => rNotInD X.K x y H Q ∨ rNotInT X.K x y H Q) ninLD := od_flat fun H x y dx dy Fx Fy Qd Q ok rx ry q k => by
  obtain ⟨a, e1, b, e2, ⟨s1, s2⟩, q⟩ := q
  rcases py_bind e2 with e2 | e2
  · exact .inl ⟨a, b, Rp.dp _ _ _ _ rx e1, Rp.dp _ _ _ _ ry e2, s1, s2, k _ q _ [] (.bl _) fun _ z => nomatch z⟩
  · exact .inr ⟨a, b, Rp.dp _ _ _ _ rx e1, Rp.dp _ _ _ _ ry e2, s1, s2, k _ q _ [] (.bl _) fun _ z => nomatch z⟩

/-! ### is None -/
def D.isN : D → Bool
  | .non => true
  | _ => false
theorem Rp.isN {G : Gx X.K} {H : Hp} {v : V} {d : D} {F : List Addr} (r : Rp G H v d F) : decide (v = .non) = d.isN := by
  cases r <;> simp [D.isN]
def isND : D → D → W D
  | d, .non => pu (.bl d.isN)
  | _, _ => fl
def isnND : D → D → W D
  | d, .non => pu (.bl (!d.isN))
  | _, _ => fl
theorem od_isN : OpD c (fun x y H Q => y = .non ∧ Q (.bl (decide (x = .non))) H) isND := od_flat fun H x y dx dy Fx Fy Qd Q ok rx ry q k => by
  unfold isND at q
  split at q
  · obtain ⟨rfl, rfl⟩ := ry.nonI
    refine ⟨rfl, ?_⟩
    rw [rx.isN]
    exact k _ q _ [] (.bl _) fun _ z => nomatch z
  · exact q.elim
theorem od_isnN : OpD c (fun x y H Q => y = .non ∧ Q (.bl (!decide (x = .non))) H) isnND := od_flat fun H x y dx dy Fx Fy Qd Q ok rx ry q k => by
  unfold isnND at q
  split at q
  · obtain ⟨rfl, rfl⟩ := ry.nonI
    refine ⟨rfl, ?_⟩
    rw [rx.isN]
    exact k _ q _ [] (.bl _) fun _ z => nomatch z
  · exact q.elim

/-! ### subscripts -/
def idxL (ds : List D) (i : Int) : W D := opt (atI ds i) pu
def idxD : D → D → W D
  | .lst ds, .int i => idxL ds i
  | .frz ds, .int i => idxL ds i
  | .tup ds, .int i => idxL ds i
  | _, _ => fl
theorem RpA.atI {G : Gx X.K} {H : Hp} {xs : List V} {ds : List D} {F : List Addr} (h : RpA G H xs ds F) {i : Int} {d : D} (e : L2.atI ds i = some d) : ∃ v F', L2.atI xs i = some v ∧ Rp G H v d F' ∧ ∀ a ∈ F', a ∈ F := by
  unfold L2.atI at e ⊢
  rw [h.length]
  cases q : ixN ds.length i with
  | none => rw [q] at e; simp at e
  | some j =>
    rw [q] at e
    obtain ⟨v, F', e1, r, s⟩ := h.get (i := j) (d := d) (by simpa using e)
    exact ⟨v, F', by simpa using e1, r, s⟩
def rIx2 (K : PySem.W.Frag) : R2 := fun x y H Q => rIxL K x y H Q ∨ rIxT K x y H Q
theorem xr_ix : IxR X (rIx2 X.K) := ix_list.or ix_tup
theorem od_ix : OpD c (rIx2 X.K) idxD := od_flat fun H x y dx dy Fx Fy Qd Q ok rx ry q k => by
  unfold idxD at q
  split at q
  · obtain ⟨rfl, rfl⟩ := ry.intI
    obtain ⟨d, e, q⟩ := q
    obtain ⟨a, xs, F', rfl, sx, ax, sb⟩ := rx.lstI
    obtain ⟨v, F2, e2, r, s⟩ := ax.atI e
    exact .inl ⟨a, xs, _, v, rfl, rfl, sx, e2, k _ q v F2 r fun a z => .inl (sb a (s a z))⟩
  · obtain ⟨rfl, rfl⟩ := ry.intI
    obtain ⟨d, e, q⟩ := q
    obtain ⟨a, xs, rfl, sx, ax, rfl⟩ := rx.frzI
    obtain ⟨v, F2, e2, r, s⟩ := ax.atI e
    exact .inl ⟨a, xs, _, v, rfl, rfl, sx, e2, k _ q v F2 r fun a z => .inl (s a z)⟩
  · obtain ⟨rfl, rfl⟩ := ry.intI
    obtain ⟨d, e, q⟩ := q
    obtain ⟨a, xs, rfl, sx, ax⟩ := rx.tupI
    obtain ⟨v, F2, e2, r, s⟩ := ax.atI e
    exact .inr ⟨a, xs, _, v, rfl, rfl, sx, e2, k _ q v F2 r fun a z => .inl (s a z)⟩
  · exact q.elim
end
end DL
namespace DL
open PySem L2
section
variable {X : Cx} {c : Cd X.K} {e a b : Expr} {pos : Pos} {va vb vc : List Nat} {fa fb fc : Env → W D}
/-! ### tests -/
def dB (f : Env → W D) : Env → W Bool := fun δ => bd (f δ) asB
theorem tB_of (σ : St) (H : Hp) (Q : Bool → Hp → Prop) (h : tT c (dB fa) σ H Q) : tB (tD c va fa) σ H Q := by
  obtain ⟨_, fp, δ, Qd, e, hf, k⟩ := h
  refine ⟨_, fp, δ, fun d => asB d Qd c.xq, e, hf, fun d qd v H' F p r => ?_⟩
  cases r with
  | bl b => exact ⟨b, rfl, k b qd H' p.kp⟩
  | _ => exact qd.elim
theorem pt_v (h : PE X e (tD c va fa)) (he : ∀ whole, isTrue e X.env whole = (do let v ← whole; standAt e.pos; holding [v] (truthy v)) := by intro _; rfl) : PT X e (tT c (dB fa)) := (pt_val h he).wk tB_of
theorem pt_c {op : CmpOp} {r : R2} {opd : D → D → W D} (ho : OpR X (compareOp op) r) (hd : OpD c r opd) (ha : PE X a (tD c va fa)) (hb : PE X b (tD c vb fb)) (hm : behindInMarks op b = false) : PT X (.Compare a [op] [b] pos) (tT c (dB (dOp opd fa fb))) :=
  (pt_cmpR ho ha hb hm).wk fun σ H Q h => by
    obtain ⟨_, fp, δ, Qd, e, hf, k⟩ := h
    refine tOp_of (va := va) (vb := vb) hd σ H _ ⟨_, fp, δ, fun d => asB d Qd c.xq, e, hf, fun d qd v H' F p r => ?_⟩
    cases r with
    | bl b => exact ⟨b, rfl, k b qd H' p.kp⟩
    | _ => exact qd.elim
variable {ga gb : Env → W Bool} {rest : List Expr}
def dNotT (g : Env → W Bool) : Env → W Bool := fun δ => bd (g δ) fun b => pu (!b)
theorem pt_n (h : PT X a (tT c ga)) : PT X (.UnaryOp .Not a pos) (tT c (dNotT ga)) := (pt_not h).wk fun σ H Q ⟨_, fp, δ, Qd, e, hf, k⟩ =>
  ⟨_, fp, δ, fun b => Qd (!b), e, hf, fun b qb H' kp => k _ qb H' kp⟩
def dAndT (g g' : Env → W Bool) : Env → W Bool := fun δ => bd (g δ) fun b => if b = true then g' δ else pu false
def dOrT (g g' : Env → W Bool) : Env → W Bool := fun δ => bd (g δ) fun b => if b = true then pu true else g' δ
theorem pw_a1 (h : PT X a (tT c ga)) : PW X (.BoolOp .And [a] pos) (tT c ga) := pw_and1 h
theorem pw_o1 (h : PT X a (tT c ga)) : PW X (.BoolOp .Or [a] pos) (tT c ga) := pw_or1 h
theorem _root_.L2.PW.wk {t t' : TT} {e : Expr} (h : PW X e t) (w : ∀ σ H Q, t' σ H Q → t σ H Q) : PW X e t' := ⟨fun wh pins s σ H Q I q => h.run wh pins s σ H Q I (w σ H Q q)⟩
theorem pw_a (h : PT X a (tT c ga)) (h' : PW X (.BoolOp .And (b :: rest) pos) (tT c gb)) : PW X (.BoolOp .And (a :: b :: rest) pos) (tT c (dAndT ga gb)) := (pw_and h h').wk fun σ H Q ⟨_, fp, δ, Qd, e, hf, k⟩ => by
  refine ⟨_, fp, δ, fun b => (if b = true then gb δ else pu false) Qd c.xq, e, hf, fun b qb H' kp => ?_⟩
  cases b with
  | true => exact ⟨_, fp, δ, Qd, e.kp kp, qb, fun b q H2 kp2 => k b q H2 (kp.trans kp2)⟩
  | false => exact k _ qb H' kp
theorem pw_o (h : PT X a (tT c ga)) (h' : PW X (.BoolOp .Or (b :: rest) pos) (tT c gb)) : PW X (.BoolOp .Or (a :: b :: rest) pos) (tT c (dOrT ga gb)) := (pw_or h h').wk fun σ H Q ⟨_, fp, δ, Qd, e, hf, k⟩ => by
  refine ⟨_, fp, δ, fun b => (if b = true then pu true else gb δ) Qd c.xq, e, hf, fun b qb H' kp => ?_⟩
  cases b with
  | false => exact ⟨_, fp, δ, Qd, e.kp kp, qb, fun b q H2 kp2 => k b q H2 (kp.trans kp2)⟩
  | true => exact k _ qb H' kp
/-! ### and, or, not as values -/
def dAnd (f f' : Env → W D) : Env → W D := fun δ => bd (f δ) fun d => bd (asB d) fun b => if b = true then f' δ else pu (.bl false)
def dOr (f f' : Env → W D) : Env → W D := fun δ => bd (f δ) fun d => bd (asB d) fun b => if b = true then pu (.bl true) else f' δ
def dNot (f : Env → W D) : Env → W D := fun δ => bd (f δ) fun d => bd (asB d) fun b => pu (.bl (!b))
theorem pd_one {op} (h : PE X a (tD c va fa)) : PE X (.BoolOp op [a] pos) (tD c va fa) := pe_one h
theorem pd_and (h : PE X a (tD c va fa)) (h' : PE X (.BoolOp .And (b :: rest) pos) (tD c vb fb)) : PE X (.BoolOp .And (a :: b :: rest) pos) (tD c vb (dAnd fa fb)) := (pe_and h h').wk fun σ H Q ⟨_, fp, δ, Qd, e, hf, k⟩ => by
  refine ⟨_, fp, δ, fun d => bd (asB d) (fun b => if b = true then fb δ else pu (D.bl false)) Qd c.xq, e, hf, fun d qd v H' F p r => ?_⟩
  cases r with
  | bl b =>
    refine ⟨b, rfl, ?_⟩
    cases b with
    | true => exact ⟨_, fp, δ, Qd, e.kp p.kp, qd, fun d qd v H2 F p2 r2 => k d qd v H2 F (p2.ahead p.kp) r2⟩
    | false => exact k _ qd _ H' [] (.kpnil p.kp) (.bl _)
  | _ => exact qd.elim
theorem pd_or (h : PE X a (tD c va fa)) (h' : PE X (.BoolOp .Or (b :: rest) pos) (tD c vb fb)) : PE X (.BoolOp .Or (a :: b :: rest) pos) (tD c vb (dOr fa fb)) := (pe_or h h').wk fun σ H Q ⟨_, fp, δ, Qd, e, hf, k⟩ => by
  refine ⟨_, fp, δ, fun d => bd (asB d) (fun b => if b = true then pu (D.bl true) else fb δ) Qd c.xq, e, hf, fun d qd v H' F p r => ?_⟩
  cases r with
  | bl b =>
    refine ⟨b, rfl, ?_⟩
    cases b with
    | false => exact ⟨_, fp, δ, Qd, e.kp p.kp, qd, fun d qd v H2 F p2 r2 => k d qd v H2 F (p2.ahead p.kp) r2⟩
    | true => exact k _ qd _ H' [] (.kpnil p.kp) (.bl _)
  | _ => exact qd.elim
theorem pd_not (h : PE X a (tD c va fa)) : PE X (.UnaryOp .Not a pos) (tD c [] (dNot fa)) := (pe_not h).wk fun σ H Q ⟨_, fp, δ, Qd, e, hf, k⟩ => by
  refine ⟨_, fp, δ, fun d => bd (asB d) (fun b => pu (D.bl (!b))) Qd c.xq, e, hf, fun d qd v H' F p r => ?_⟩
  cases r with
  | bl b => exact ⟨b, rfl, k _ qd _ H' [] (.kpnil p.kp) (.bl _)⟩
  | _ => exact qd.elim
/-- -i -/
def negD : D → W D
  | .int i => pu (.int (-i))
  | _ => fl
def dUn (g : D → W D) (f : Env → W D) : Env → W D := fun δ => bd (f δ) g
theorem pd_neg (h : PE X a (tD c va fa)) : PE X (.UnaryOp .USub a pos) (tD c [] (dUn negD fa)) := (pe_un un_neg h).wk fun σ H Q ⟨_, fp, δ, Qd, e, hf, k⟩ => by
  refine ⟨_, fp, δ, fun d => negD d Qd c.xq, e, hf, fun d qd v H' F p r => ?_⟩
  cases r with
  | int i => exact ⟨i, rfl, k _ qd _ H' [] (.kpnil p.kp) (.int _)⟩
  | _ => exact qd.elim
/-- a if t else b -/
def dIf (g : Env → W Bool) (f f' : Env → W D) : Env → W D := fun δ => bd (g δ) fun b => if b = true then f δ else f' δ
theorem pd_if {t : Expr} (ht : PT X t (tT c ga)) (ha : PE X a (tD c va fa)) (hb : PE X b (tD c vb fb)) : PE X (.IfExp t a b pos) (tD c (va ++ vb) (dIf ga fa fb)) := (pe_ifExp ht ha hb).wk fun σ H Q ⟨_, fp, δ, Qd, e, hf, k⟩ => by
  refine ⟨_, fp, δ, fun b => (if b = true then fa δ else fb δ) Qd c.xq, e, hf, fun b qb H' kp => ?_⟩
  cases b with
  | true => exact ⟨_, fp, δ, Qd, e.kp kp, qb, fun d qd v H2 F p r => k d qd v H2 F ((p.ahead kp).wk fun i z => by simp [z]) r⟩
  | false => exact ⟨_, fp, δ, Qd, e.kp kp, qb, fun d qd v H2 F p r => k d qd v H2 F ((p.ahead kp).wk fun i z => by simp [z]) r⟩
/-- a < b < c -/
def dChain (o o' : D → D → W D) (fa fb fc : Env → W D) : Env → W D := fun δ => bd (fa δ) fun x => bd (fb δ) fun y => bd (o x y) fun z => bd (asB z) fun k => if k = true then bd (fc δ) fun w => o' y w else pu (.bl false)
theorem tChain_of {r r' : R2} {o o' : D → D → W D} (hd : OpD c r o) (hd' : OpD c r' o') (σ : St) (H : Hp) (Q : VK) (h : tD c (va ++ (vb ++ vc)) (dChain o o' fa fb fc) σ H Q) : tChain r r' (tD c va fa) (tD c vb fb) (tD c vc fc) σ H Q := by
  obtain ⟨_, fp, δ, Qd, e, hf, k⟩ := h
  refine ⟨_, fp, δ, fun x => bd (fb δ) (fun y => bd (o x y) fun z => bd (asB z) fun k => if k = true then bd (fc δ) fun w => o' y w else pu (D.bl false)) Qd c.xq, e, hf, fun dx qx x H1 Fx p1 r1 => ?_⟩
  refine ⟨_, fp, δ, fun y => bd (o dx y) (fun z => bd (asB z) fun k => if k = true then bd (fc δ) fun w => o' y w else pu (D.bl false)) Qd c.xq, e.kp p1.kp, qx, fun dy qy y H2 Fy p2 r2 => ?_⟩
  refine hd H2 x y dx dy Fx Fy (fun z => bd (asB z) (fun k => if k = true then bd (fc δ) fun w => o' dy w else pu (.bl false)) Qd c.xq) _ p2.kp.ok p1.nos p2.nos (r1.kp p2.kp p1.nos) r2 qy fun z qz v H3 F kp3 rz _ => ?_
  cases rz with
  | bl t =>
    refine ⟨t, rfl, ?_⟩
    have k13 := p1.kp.trans (p2.kp.trans kp3)
    cases t with
    | false => exact k _ qz _ H3 [] (.kpnil k13) (.bl _)
    | true =>
      refine ⟨_, fp, δ, fun w => o' dy w Qd c.xq, e.kp k13, qz, fun dw qw w H4 Fw p4 r4 => ?_⟩
      refine hd' H4 y w dy dw Fy Fw Qd Q p4.kp.ok p2.nos p4.nos (r2.kp (kp3.trans p4.kp) p2.nos) r4 qw fun d qd v H5 F5 kp5 rv s5 => ?_
      have p2' : Post c (va ++ (vb ++ vc)) fp H H4 Fy _ := ((p2.ahead p1.kp).more (kp3.trans p4.kp)).wk fun i z => by simp [z]
      have p4' : Post c (va ++ (vb ++ vc)) fp H H4 Fw _ := (p4.ahead k13).wk fun i z => by simp [z]
      refine k d qd v H5 F5 ⟨p4'.kp.trans kp5, fun a z => ?_, fun a z => ?_⟩ rv
      · rcases s5 a z with q | q | q
        · exact notS0 p4.kp.ok q
        · exact p2.nos a q
        · exact p4.nos a q
      · rcases s5 a z with q | q | q
        · exact .inl (p4'.kp.free q)
        · exact p2'.pv a q
        · exact p4'.pv a q
  | _ => exact qz.elim

theorem pd_chain {op op' : CmpOp} {r r' : R2} {o o' : D → D → W D} {ec : Expr} (ho : OpR X (compareOp op) r) (ho' : OpR X (compareOp op') r') (hd : OpD c r o) (hd' : OpD c r' o') (ha : PE X a (tD c va fa)) (hb : PE X b (tD c vb fb)) (hc : PE X ec (tD c vc fc))
    (hm : lastMarks [op, op'] [b, ec] = false := by with_unfolding_all rfl) : PE X (.Compare a [op, op'] [b, ec] pos) (tD c (va ++ (vb ++ vc)) (dChain o o' fa fb fc)) := (pe_chain ho ho' ha hb hc hm).wk (tChain_of hd hd')
/-! ### arguments, displays -/
def dNil : Env → W (List D) := fun _ => pu []
def dCons (f : Env → W D) (fs : Env → W (List D)) : Env → W (List D) := fun δ => bd (f δ) fun d => bd (fs δ) fun ds => pu (d :: ds)
theorem pda_nil : PA X [] (tA c [] dNil) := pa_nil.wk fun σ H Q ⟨_, fp, δ, Qd, e, hf, k⟩ => k [] hf [] H [] (.nil e.ok) .nil
theorem pda_cons {es : List Expr} {fs : Env → W (List D)} (h : PE X e (tD c va fa)) (h' : PA X es (tA c vb fs)) (hs : starEach (e :: es) X.env = (false, eval e X.env) :: starEach es X.env := by rfl) : PA X (e :: es) (tA c (va ++ vb) (dCons fa fs)) :=
  (pa_cons h h' hs).wk fun σ H Q ⟨_, fp, δ, Qd, e, hf, k⟩ => by
    refine ⟨_, fp, δ, fun d => bd (fs δ) (fun ds => pu (d :: ds)) Qd c.xq, e, hf, fun d qd v H1 F1 p1 r1 => ?_⟩
    refine ⟨_, fp, δ, fun ds => Qd (d :: ds), e.kp p1.kp, qd, fun ds qds vs H2 F2 p2 r2 => ?_⟩
    exact k _ qds _ H2 _ ((p1.more p2.kp).join (p2.ahead p1.kp)) (.cons (r1.kp p2.kp p1.nos) r2)
variable {es : List Expr} {fs : Env → W (List D)} {vs : List Nat}
def dTup (fs : Env → W (List D)) : Env → W D := fun δ => bd (fs δ) fun ds => chk (ds.length ≤ 1000) (pu (.tup ds))
theorem small1 {n : Nat} (h : n ≤ 1000) : n ≤ sizeLine := Nat.le_of_lt (small1000 h)
theorem pd_tup {x1} (h : PA X es (tA c vs fs)) : PE X (.Tuple es x1 pos) (tD c vs (dTup fs)) := (pe_tup h).wk fun σ H Q ⟨_, fp, δ, Qd, e, hf, k⟩ => by
  refine ⟨_, fp, δ, fun ds => chk (ds.length ≤ 1000) (pu (D.tup ds)) Qd c.xq, e, hf, fun ds qds us H1 F p r => ⟨by rw [r.length]; exact small1 qds.1, fun q hq => ?_⟩⟩
  exact k _ qds.2 _ _ F (p.more (Kp.laid p.kp.ok hq _)) (.tup (SqT.of upd_same) (r.laid p.kp.ok p.nos hq _))
/-- a list of things that never change -/
def dLst (fs : Env → W (List D)) : Env → W D := fun δ => bd (fs δ) fun ds => chk (ds.length ≤ 1000 ∧ D.imms ds = true) (pu (.lst ds))
theorem pn_lst (h : PA X es (tA c vs fs)) : PE X (.List es pos) (tN c (dLst fs)) := (pe_lst h).wk fun σ H Q ⟨_, fp, δ, Qd, e, hf, k⟩ => by
  refine ⟨_, fp, δ, fun ds => chk (ds.length ≤ 1000 ∧ D.imms ds = true) (pu (D.lst ds)) Qd c.xq, e, hf, fun ds qds us H1 F p r => ⟨by rw [r.length]; exact small1 qds.1.1, fun q hq => ?_⟩⟩
  have e2 := RpA.imm_nil _ _ _ r qds.1.2
  subst e2
  exact k _ qds.2 _ _ [q] (p.kp.trans (Kp.laid p.kp.ok hq _)) (.lst upd_same (r.laid p.kp.ok p.nos hq _)) (fun a z => by rw [List.mem_singleton.mp z]; exact p.kp.free hq) (by simp)
/-- a list of anything, not kept -/
def dLstB (fs : Env → W (List D)) : Env → W D := fun δ => bd (fs δ) fun ds => chk (ds.length ≤ 1000) (pu (.lst ds))
theorem pd_lst (h : PA X es (tA c vs fs)) : PE X (.List es pos) (tD c vs (dLstB fs)) := (pe_lst h).wk fun σ H Q ⟨_, fp, δ, Qd, e, hf, k⟩ => by
  refine ⟨_, fp, δ, fun ds => chk (ds.length ≤ 1000) (pu (D.lst ds)) Qd c.xq, e, hf, fun ds qds us H1 F p r => ⟨by rw [r.length]; exact small1 qds.1, fun q hq => ?_⟩⟩
  refine k _ qds.2 _ _ (q :: F) ⟨p.kp.trans (Kp.laid p.kp.ok hq _), fun a z => ?_, fun a z => ?_⟩ (.lst upd_same (r.laid p.kp.ok p.nos hq _))
  · rcases List.mem_cons.mp z with z | z
    · rw [z]; exact notS0 p.kp.ok hq
    · exact p.nos a z
  · rcases List.mem_cons.mp z with z | z
    · rw [z]; exact .inl (p.kp.free hq)
    · exact p.pv a z

/-! ### calls of what is built in -/
def CallD (c : Cd X.K) (r : List V → Hp → VK → Prop) (op : List D → W D) : Prop := ∀ {n : Nat} (H : Hp) (us : List V) (ds : List D) (F : List Addr) (Qd : D → Nat → Prop) (Q : VK), c.G.ok H n → (∀ a ∈ F, a ∉ c.G.S) → RpA c.G H us ds F → op ds Qd c.xq n →
  (∀ {n'} d, Qd d n' → ∀ v H' F', Kp c.G H H' n' → Rp c.G H' v d F' → (∀ a ∈ F', H a = none ∨ a ∈ F) → Q v H') → r us H Q
def CallN (c : Cd X.K) (r : List V → Hp → VK → Prop) (op : List D → W D) : Prop := ∀ {n : Nat} (H : Hp) (us : List V) (ds : List D) (F : List Addr) (Qd : D → Nat → Prop) (Q : VK), c.G.ok H n → (∀ a ∈ F, a ∉ c.G.S) → RpA c.G H us ds F → op ds Qd c.xq n →
  (∀ {n'} d, Qd d n' → ∀ v H' F', Kp c.G H H' n' → Rp c.G H' v d F' → (∀ a ∈ F', H a = none) → F'.Nodup → Q v H') → r us H Q
def dCB (op : List D → W D) (fs : Env → W (List D)) : Env → W D := fun δ => bd (fs δ) op
theorem tCB_of {r : List V → Hp → VK → Prop} {op : List D → W D} (hd : CallD c r op) (σ : St) (H : Hp) (Q : VK) (h : tD c vs (dCB op fs) σ H Q) : tCB r (tA c vs fs) σ H Q := by
  obtain ⟨_, fp, δ, Qd, e, hf, k⟩ := h
  refine ⟨_, fp, δ, fun ds => op ds Qd c.xq, e, hf, fun ds qds us H1 F p r => ?_⟩
  refine hd H1 us ds F Qd Q p.kp.ok p.nos r qds fun d qd v H' F' kp rv s => k d qd v H' F' ⟨p.kp.trans kp, fun a z => ?_, fun a z => ?_⟩ rv
  · rcases s a z with q | q
    · exact notS0 p.kp.ok q
    · exact p.nos a q
  · rcases s a z with q | q
    · exact .inl (p.kp.free q)
    · exact p.pv a q
theorem tCB_ofN {r : List V → Hp → VK → Prop} {op : List D → W D} (hd : CallN c r op) (σ : St) (H : Hp) (Q : VK) (h : tN c (dCB op fs) σ H Q) : tCB r (tA c vs fs) σ H Q := by
  obtain ⟨_, fp, δ, Qd, e, hf, k⟩ := h
  refine ⟨_, fp, δ, fun ds => op ds Qd c.xq, e, hf, fun ds qds us H1 F p r => ?_⟩
  exact hd H1 us ds F Qd Q p.kp.ok p.nos r qds fun d qd v H' F' kp rv fr nd => k d qd v H' F' (p.kp.trans kp) rv (fun a z => p.kp.free (fr a z)) nd
variable {r : List V → Hp → VK → Prop} {op : List D → W D} {x : Str} {p : Pos} {id T : String}
theorem pd_callB (hc : CallR X (.builtin id) r) (hd : CallD c r op) (hg : Gl X x) (hm : X.mg x = none) (hv : bootBuiltins x = some (.builtin id)) (ha : PA X (e :: es) (tA c vs fs)) (hn : x ≠ "__name__" := by decide) (hdb : (x == ("__debug__" : Str)) = false := by decide)
    (he : starEach (e :: es) X.env = (false, eval e X.env) :: starEach es X.env := by rfl) (hpl : (backTo pos (starEach es X.env)).any (·.1) = false := by rfl) : PE X (.Call (.Name x p) (e :: es) [] pos) (tD c vs (dCB op fs)) :=
  (pe_callB hc hg hm hv ha hn hdb he hpl).wk (tCB_of hd)
theorem pn_callB (hc : CallR X (.builtin id) r) (hd : CallN c r op) (hg : Gl X x) (hm : X.mg x = none) (hv : bootBuiltins x = some (.builtin id)) (ha : PA X (e :: es) (tA c vs fs)) (hn : x ≠ "__name__" := by decide) (hdb : (x == ("__debug__" : Str)) = false := by decide)
    (he : starEach (e :: es) X.env = (false, eval e X.env) :: starEach es X.env := by rfl) (hpl : (backTo pos (starEach es X.env)).any (·.1) = false := by rfl) : PE X (.Call (.Name x p) (e :: es) [] pos) (tN c (dCB op fs)) :=
  (pe_callB hc hg hm hv ha hn hdb he hpl).wk (tCB_ofN hd)
end
end DL
namespace DL
open PySem PySem.Spec PyProof.Rows L2

/-! ### defs, where no repr is under way around the call -/
structure FnG (P : Program) (w : World) (K : PySem.W.Frag) (mg : Str → Option Value) (base : Heap) (CX : CXT) (k : Nat) (f : Addr) (fd : FuncData) (ps : List Str) (sp : Sp) : Prop where
  len : ∀ vs H Q E, sp vs H Q E → vs.length = ps.length
  run : ∀ (A : Around) (outer : List PySem.Env) (s : Shared) (H : Hp) (args : Args) (us : List Value) (vs : List V) (Q : VK) (E : XK), Room k A → A.guards = some [] → Env0 P w K mg base A outer s H → BindsTo s fd args (ps.zip us) → Vals vs us → sp vs H Q E →
    codeAny (model P w) A (.call (.ref f) args) (CR CX outer P w H s Q E) s
theorem deep_guards {A : Around} {env : PySem.Env} (h : A.guards = some []) : (A.deeper env).guards = some [] := by
  first
    | exact h
    | (simpa [Around.deeper, Around.under, Code.guards, Code.isGuard, pushGuards] using h)
/-- a def by its body -/
theorem fnG_of {CX : CXT} {P : Program} {w : World} {K : PySem.W.Frag} {mg : Str → Option Value} {base : Heap} {k : Nat} {f : Addr} {name qual : Str} {params : Arguments} {body : List Stmt} {scope : Scope} {dV kV doc pm cdv ct oc : Value} {an od : Option Addr} {osl : Array (Option Value)}
    {N ps : List Str} {sp : Sp} (lk : K.lookup f = some ⟨oc, od, .func (PySem.W.fnOf name qual params body scope dV kV doc pm an cdv ct), osl⟩) (hcd : PySem.W.codeIn K cdv qual = true) (S : FnScope N ps scope) (len : ∀ vs H Q E, sp vs H Q E → vs.length = ps.length)
    (hbody : ∀ (A : Around) (outer : List PySem.Env) (s : Shared) (H : Hp) (vs : List V) (Q : VK) (E : XK), Room k (A.deeper (envOfC qual scope s.heap.objs.size f cdv)) → A.guards = some [] → sp vs H Q E →
      ∃ t, PSs (cxOf CX P w K mg base N qual scope f cdv A outer s H E) body t ∧ t { nx := fun _ H' => Q .non H', rt := Q } (start N vs) H) :
    FnG P w K mg base CX (k + 1) f (PySem.W.fnOf name qual params body scope dV kV doc pm an cdv ct) ps sp := by
  refine ⟨len, fun A outer s H args us vs Q E room gd e0 hb rv hsp => ?_⟩
  have hin : ∀ b o, base.get? b = some o → s.heap.get? b = some o := fun b o e => (e0.bs b o e).1
  have hK : K.In s.heap := e0.mod.kin.keeps hin
  have hL : s.heap.NoLimit := e0.mod.nolimit.keeps hin
  have kinds : ∀ y ∈ ps.zip us, scope.names.lookup y.1 = some .local ∨ (scope.names.lookup y.1 = some .cell ∧ ((cellsFrom (s.heap.objs.size + 1) scope.names []).lookup y.1).isSome = true) := by
    rintro ⟨n, v⟩ hy
    rcases S.par n (List.of_mem_zip hy).1 with q | q
    · exact .inl q
    · exact .inr ⟨q, PySem.W.cellsFrom_some _ _ _ (.inl q)⟩
  refine codeAny_call_function room.depth (hK _ _ lk) rfl S.co S.gen rfl (PySem.W.codeRec_of hK hcd) (hb _ _ _ _ ?_)
  refine wpAny_newFunctionEnv_cells S.kind kinds fun env henv s1 x => ?_
  subst henv
  refine ⟨hL.keeps x.toInCall.keep, codeAny_func ?_⟩
  obtain ⟨t, ht, hq⟩ := hbody A outer s H vs Q E (room.deeper _) gd hsp
  have I := inv_start (CX := CX) (E := E) S room.hd e0 (len _ _ _ _ hsp) rv x
  refine wpAny_mono (ht.run [] s1 (start N vs) H _ I hq) (fun fl s' hs => ?_) fun _ _ hs => hs
  cases fl with
  | ret u => obtain ⟨v, _, H', J, r, q⟩ := hs; exact ⟨v, H', J.os, J.bare, J.base, J.hok, r, q⟩
  | next => obtain ⟨_, H', J, q⟩ := hs; exact ⟨.non, H', J.os, J.bare, J.base, J.hok, rfl, q⟩
  | brk => obtain ⟨_, _, _, q⟩ := hs; exact q.elim
  | cont => obtain ⟨_, _, _, q⟩ := hs; exact q.elim

/-- how positional values us and keywords' values ws (named ks) come to the parameters: by the list π of places in us ++ ws -/
def pick {α : Type} (π : List Nat) (l : List α) : List α := π.filterMap (l[·]?)
theorem pick_vals {π : List Nat} {vs : List V} {us : List Value} (r : Vals vs us) : Vals (pick π vs) (pick π us) := by
  unfold pick
  induction π with
  | nil => exact .nil
  | cons i π ih =>
    rw [List.filterMap_cons, List.filterMap_cons]
    cases e : vs[i]? with
    | none => rw [r.none_of e]; exact ih
    | some v =>
      obtain ⟨u, hu, ru⟩ := r.get e
      rw [hu]
      exact .cons ru ih
structure KB (K : PySem.W.Frag) (fd : FuncData) (ps : List Str) (n : Nat) (ks : List Str) (π : List Nat) : Prop where
  to : ∀ (s : Shared) (us ws : List Value), K.In s.heap → us.length = n → ws.length = ks.length → BindsTo s fd ⟨us, ks.zip ws⟩ (ps.zip (pick π (us ++ ws)))
section
variable {X : Cx} {CX : CXT} {k n : Nat} {f : Addr} {fd : FuncData} {ps ks : List Str} {sp : Sp} {E : XK} {x : Str} {p pos : Pos} {e : Expr} {es : List Expr} {kws : List Keyword} {t tk : TA} {π : List Nat}
theorem run_g {pins : List (Addr × Obj)} {σ : L2.St} {H : Hp} {s : Shared} {Q : VK} {us ws : List Value} {vs zs : List V} (F : FnG X.prog X.w X.K X.mg X.base CX k f fd ps sp) (hr : Room k X.A) (gd : X.A.guards = some []) (hb : KB X.K fd ps n ks π) (hx : Passes CX X E)
    (I : Inv X pins σ H s) (r : Vals vs us) (rz : Vals zs ws) (l1 : vs.length = n) (l2 : zs.length = ks.length) (h : sp (pick π (vs ++ zs)) H Q E) : wpAny (model X.prog X.w) X.A (call (.ref f) us (ks.zip ws)) (EP X pins σ Q) X.xe s := by
  have r2 := pick_vals (π := π) (r.append rz)
  refine wpAny_call (codeAny_mono (F.run X.A X.stack s H ⟨us, ks.zip ws⟩ _ _ Q E hr gd I.env0 (hb.to s us ws I.kIn (r.length.symm.trans l1) (rz.length.symm.trans l2)) r2 h) fun res s' hq => ?_)
  match res, hq with
  | .error e, hq => exact hx pins σ H s e s' I hq
  | .ok (.ret u), hq => exact I.after hq
  | .ok .next, hq => exact False.elim hq
  | .ok .brk, hq => exact False.elim hq
  | .ok .cont, hq => exact False.elim hq
def tCallG (n m : Nat) (π : List Nat) (sp : Sp) (E : XK) (t tk : TA) : TE := fun σ H Q => t σ H fun vs H1 => tk σ H1 fun zs H2 => vs.length = n ∧ zs.length = m ∧ sp (pick π (vs ++ zs)) H2 Q E
/-- f(e, ..) -/
theorem pe_g (F : FnG X.prog X.w X.K X.mg X.base CX k f fd ps sp) (hr : Room k X.A) (gd : X.A.guards = some []) (hg : Gl X x) (hm : X.mg x = some (.ref f)) (hk : PySem.W.keepIn X.K (.ref f) = true) (hb : KB X.K fd ps n [] π) (hx : Passes CX X E) (ha : PA X (e :: es) t)
    (hdb : (x == ("__debug__" : Str)) = false := by decide) (he : starEach (e :: es) X.env = (false, eval e X.env) :: starEach es X.env := by rfl) (hpl : (backTo pos (starEach es X.env)).any (·.1) = false := by rfl) :
    PE X (.Call (.Name x p) (e :: es) [] pos) (tCallG n 0 π sp E t tNil) := ⟨fun pins s σ H Q I h => wpAny_Call_Name_kw (ld_glob I hg hm (PySem.W.callWith_K (h₀ := X.base) I.ok.mod.kin hk (thn (ha.run pos pins s σ H _ I h) fun us s1 ⟨vs, H1, I1, r, l1, l2, q⟩ => ⟨I1.kIn, run_g (ws := []) (zs := []) F hr gd hb hx I1 r .nil l1 rfl q⟩) he hpl) hdb)⟩
/-- f(e, .., k = v, ..) -/
theorem pe_gk (F : FnG X.prog X.w X.K X.mg X.base CX k f fd ps sp) (hr : Room k X.A) (gd : X.A.guards = some []) (hg : Gl X x) (hm : X.mg x = some (.ref f)) (hk : PySem.W.keepIn X.K (.ref f) = true) (hb : KB X.K fd ps n ks π) (hx : Passes CX X E) (ha : PA X (e :: es) t) (hkw : PK X kws tk)
    (hall : (backToKw pos (keywordEach kws X.env)).all (·.1.isSome) = true := by rfl) (hks : (backToKw pos (keywordEach kws X.env)).filterMap (·.1) = ks := by rfl) (hdb : (x == ("__debug__" : Str)) = false := by decide)
    (he : starEach (e :: es) X.env = (false, eval e X.env) :: starEach es X.env := by rfl) (hpl : ((backTo pos (starEach (e :: es) X.env)).any (·.1) || (backToKw pos (keywordEach kws X.env)).any (·.1.isNone)) = false := by rfl) :
    PE X (.Call (.Name x p) (e :: es) kws pos) (tCallG n ks.length π sp E t tk) := ⟨fun pins s σ H Q I h => wpAny_Call_Name_kw (ld_glob I hg hm (PySem.W.callWith_KW (h₀ := X.base) I.ok.mod.kin hk hall (thn (ha.run pos pins s σ H _ I h) fun us s1 ⟨vs, H1, I1, r, q⟩ =>
    thn (hkw.run pos pins s1 σ H1 _ I1 q) fun ws s2 ⟨zs, H2, I2, rz, l1, l2, q2⟩ => ⟨I2.kIn, by rw [hks]; exact run_g F hr gd hb hx I2 r rz l1 l2 q2⟩) hpl he) hdb)⟩
/-- f(k = v, ..) -/
theorem pe_gk0 (F : FnG X.prog X.w X.K X.mg X.base CX k f fd ps sp) (hr : Room k X.A) (gd : X.A.guards = some []) (hg : Gl X x) (hm : X.mg x = some (.ref f)) (hk : PySem.W.keepIn X.K (.ref f) = true) (hb : KB X.K fd ps 0 ks π) (hx : Passes CX X E) (hkw : PK X kws tk)
    (hall : (backToKw pos (keywordEach kws X.env)).all (·.1.isSome) = true := by rfl) (hks : (backToKw pos (keywordEach kws X.env)).filterMap (·.1) = ks := by rfl) (hdb : (x == ("__debug__" : Str)) = false := by decide)
    (hpl : ((backTo pos (starEach [] X.env)).any (·.1) || (backToKw pos (keywordEach kws X.env)).any (·.1.isNone)) = false := by rfl) :
    PE X (.Call (.Name x p) [] kws pos) (tCallG 0 ks.length π sp E tNil tk) := ⟨fun pins s σ H Q I h => wpAny_Call_Name_kw (ld_glob I hg hm (PySem.W.callWith_KW0 (h₀ := X.base) I.ok.mod.kin hk hall (thn (hkw.run pos pins s σ H _ I h) fun ws s2 ⟨zs, H2, I2, rz, l1, l2, q2⟩ =>
    ⟨I2.kIn, by rw [hks]; exact run_g (us := []) (vs := []) F hr gd hb hx I2 .nil rz rfl l2 q2⟩) hpl) hdb)⟩
end

/-! ### promises by data -/
/-- f asks for n arguments -/
def Ln (n : Nat) (f : List D → W D) : Prop := ∀ ds Q X m, f ds Q X m → ds.length = n
/-- called with things that read as ds, it hands back, whole and new, what f gives -/
def spD {K : PySem.W.Frag} (f : List D → W D) : Sp := fun vs H Q E => ∃ (m : Nat) (G : Gx K) (ds : List D) (F : List Addr) (Qd : D → Nat → Prop) (Xq : Ex → Nat → Prop), G.ok H m ∧ (∀ a ∈ F, a ∉ G.S) ∧ RpA G H vs ds F ∧ f ds Qd Xq m ∧
  (∀ {n'} d, Qd d n' → ∀ v H' F', Kp G H H' n' → Rp G H' v d F' → (∀ a ∈ F', H a = none) → F'.Nodup → Q v H')
theorem spD_len {K : PySem.W.Frag} {n : Nat} {f : List D → W D} {ps : List Str} (hl : Ln n f) (hn : ps.length = n) : ∀ vs H Q E, spD (K := K) f vs H Q E → vs.length = ps.length := fun vs H Q E ⟨_, _, ds, _, _, _, _, _, r, q, _⟩ => by
  rw [r.length, hl _ _ _ _ q, hn]
theorem RpA.pick {K : PySem.W.Frag} {G : Gx K} {H : Hp} {vs : List V} {ds : List D} {F : List Addr} (h : RpA G H vs ds F) : ∀ (π : List Nat), ∃ F', RpA G H (DL.pick π vs) (DL.pick π ds) F' ∧ ∀ a ∈ F', a ∈ F
  | [] => ⟨[], .nil, fun _ z => nomatch z⟩
  | i :: π => by
    obtain ⟨F', r, s⟩ := RpA.pick h π
    unfold DL.pick at r ⊢
    rw [List.filterMap_cons, List.filterMap_cons]
    cases e : ds[i]? with
    | none =>
      have e2 : vs[i]? = none := by rw [List.getElem?_eq_none_iff] at e ⊢; rw [h.length]; exact e
      rw [e2]
      exact ⟨F', r, s⟩
    | some d =>
      obtain ⟨v, F2, e2, r2, s2⟩ := h.get e
      rw [e2]
      exact ⟨F2 ++ F', .cons r2 r, fun a z => (List.mem_append.mp z).elim (s2 a) (s a)⟩
theorem pickRange {α : Type} (l : List α) : pick (List.range l.length) l = l := by
  unfold pick
  induction l with
  | nil => rfl
  | cons a l ih =>
    rw [List.length_cons, List.range_succ_eq_map, List.filterMap_cons, List.filterMap_map]
    show a :: _ = a :: l
    congr 1
section
variable {X : Cx} {c : Cd X.K} {k n : Nat} {f : Addr} {fd : FuncData} {ps ks : List Str} {x : Str} {p pos : Pos} {e : Expr} {es : List Expr} {kws : List Keyword} {π : List Nat} {va vk : List Nat} {fs gs : Env → W (List D)} {Fd : List D → W D}
def dCall (Fd : List D → W D) (fs : Env → W (List D)) : Env → W D := fun δ => bd (fs δ) Fd
/-- by place and by keyword: m places, l keywords -/
def dCallK (Fd : List D → W D) (m l : Nat) (π : List Nat) (fs gs : Env → W (List D)) : Env → W D := fun δ => bd (fs δ) fun ds => bd (gs δ) fun es => chk (ds.length = m ∧ es.length = l) (Fd (pick π (ds ++ es)))
/-- f(e, ..) of a def whose promise is by data -/
theorem pn_call (F : FnG X.prog X.w X.K X.mg X.base CX0 k f fd ps (spD (K := X.K) Fd)) (hl : Ln n Fd) (hr : Room k X.A) (gd : X.A.guards = some []) (hg : Gl X x) (hm : X.mg x = some (.ref f)) (hk : PySem.W.keepIn X.K (.ref f) = true) (hb : KB X.K fd ps n [] (List.range n)) (ha : PA X (e :: es) (tA c va fs))
    (hdb : (x == ("__debug__" : Str)) = false := by decide) (he : starEach (e :: es) X.env = (false, eval e X.env) :: starEach es X.env := by rfl) (hpl : (backTo pos (starEach es X.env)).any (·.1) = false := by rfl) :
    PE X (.Call (.Name x p) (e :: es) [] pos) (tN c (dCall Fd fs)) := (pe_g (E := L2.E0) F hr gd hg hm hk hb L2.pass0 ha hdb he hpl).wk fun σ H Q ⟨_, fp, δ, Qd, e, hf, kq⟩ => by
  refine ⟨_, fp, δ, fun ds => Fd ds Qd c.xq, e, hf, fun ds qds us H1 F1 p1 r1 => ?_⟩
  have ln := hl _ _ _ _ qds
  have e1 : DL.pick (List.range n) (us ++ []) = us := by
    rw [List.append_nil, ← ln, ← r1.length]
    exact pickRange us
  refine ⟨r1.length.trans ln, rfl, ?_⟩
  rw [e1]
  exact ⟨_, c.G, ds, F1, Qd, c.xq, p1.kp.ok, p1.nos, r1, qds, fun d qd v H' F' kp rv fr nd => kq d qd v H' F' (p1.kp.trans kp) rv (fun a z => p1.kp.free (fr a z)) nd⟩
theorem pk_wk {t t' : TA} (h : PK X kws t) (w : ∀ σ H Q, t' σ H Q → t σ H Q) : PK X kws t' := ⟨fun pos pins s σ H Q I q => h.run pos pins s σ H Q I (w σ H Q q)⟩
theorem pdk_nil : PK X [] (tA c [] dNil) := pk_wk pk_nil fun σ H Q ⟨_, fp, δ, Qd, e, hf, k⟩ => k [] hf [] H [] (.nil e.ok) .nil
theorem pdk_cons {nm : Option Str} {kpos : Pos} {fa : Env → W D} (h : PE X e (tD c va fa)) (h' : PK X kws (tA c vk gs)) : PK X (⟨nm, e, kpos⟩ :: kws) (tA c (va ++ vk) (dCons fa gs)) :=
  pk_wk (pk_cons h h') fun σ H Q ⟨_, fp, δ, Qd, e, hf, k⟩ => by
    refine ⟨_, fp, δ, fun d => bd (gs δ) (fun ds => pu (d :: ds)) Qd c.xq, e, hf, fun d qd v H1 F1 p1 r1 => ?_⟩
    refine ⟨_, fp, δ, fun ds => Qd (d :: ds), e.kp p1.kp, qd, fun ds qds vs H2 F2 p2 r2 => ?_⟩
    exact k _ qds _ H2 _ ((p1.more p2.kp).join (p2.ahead p1.kp)) (.cons (r1.kp p2.kp p1.nos) r2)
theorem tCallG_of {m : Nat} {E : XK} (σ : L2.St) (H : Hp) (Q : VK) (h : tN c (dCallK Fd n m π fs gs) σ H Q) : tCallG n m π (spD (K := X.K) Fd) E (tA c va fs) (tA c vk gs) σ H Q := by
  obtain ⟨_, fp, δ, Qd, e, hf, kq⟩ := h
  refine ⟨_, fp, δ, fun ds => bd (gs δ) (fun es => chk (ds.length = n ∧ es.length = m) (Fd (DL.pick π (ds ++ es)))) Qd c.xq, e, hf, fun ds qds us H1 F1 p1 r1 => ?_⟩
  refine ⟨_, fp, δ, fun es => chk (ds.length = n ∧ es.length = m) (Fd (DL.pick π (ds ++ es))) Qd c.xq, e.kp p1.kp, qds, fun es ⟨⟨l1, l2⟩, qes⟩ zs H2 F2 p2 r2 => ?_⟩
  refine ⟨r1.length.trans l1, r2.length.trans l2, ?_⟩
  obtain ⟨F', r3, s3⟩ := ((r1.kp p2.kp p1.nos).append r2).pick π
  have k2 := p1.kp.trans p2.kp
  exact ⟨_, c.G, _, F', Qd, c.xq, k2.ok, fun a z => (List.mem_append.mp (s3 a z)).elim (p1.nos a) (p2.nos a), r3, qes, fun d qd v H' F' kp rv fr nd => kq d qd v H' F' (k2.trans kp) rv (fun a z => k2.free (fr a z)) nd⟩
theorem pn_callK (F : FnG X.prog X.w X.K X.mg X.base CX0 k f fd ps (spD (K := X.K) Fd)) (hr : Room k X.A) (gd : X.A.guards = some []) (hg : Gl X x) (hm : X.mg x = some (.ref f)) (hk : PySem.W.keepIn X.K (.ref f) = true) (hb : KB X.K fd ps n ks π) (ha : PA X (e :: es) (tA c va fs)) (hkw : PK X kws (tA c vk gs))
    (hall : (backToKw pos (keywordEach kws X.env)).all (·.1.isSome) = true := by rfl) (hks : (backToKw pos (keywordEach kws X.env)).filterMap (·.1) = ks := by rfl) (hdb : (x == ("__debug__" : Str)) = false := by decide)
    (he : starEach (e :: es) X.env = (false, eval e X.env) :: starEach es X.env := by rfl) (hpl : ((backTo pos (starEach (e :: es) X.env)).any (·.1) || (backToKw pos (keywordEach kws X.env)).any (·.1.isNone)) = false := by rfl) :
    PE X (.Call (.Name x p) (e :: es) kws pos) (tN c (dCallK Fd n ks.length π fs gs)) := (pe_gk (E := L2.E0) F hr gd hg hm hk hb L2.pass0 ha hkw hall hks hdb he hpl).wk tCallG_of
theorem pn_callK0 (F : FnG X.prog X.w X.K X.mg X.base CX0 k f fd ps (spD (K := X.K) Fd)) (hr : Room k X.A) (gd : X.A.guards = some []) (hg : Gl X x) (hm : X.mg x = some (.ref f)) (hk : PySem.W.keepIn X.K (.ref f) = true) (hb : KB X.K fd ps 0 ks π) (hkw : PK X kws (tA c vk gs))
    (hall : (backToKw pos (keywordEach kws X.env)).all (·.1.isSome) = true := by rfl) (hks : (backToKw pos (keywordEach kws X.env)).filterMap (·.1) = ks := by rfl) (hdb : (x == ("__debug__" : Str)) = false := by decide)
    (hpl : ((backTo pos (starEach [] X.env)).any (·.1) || (backToKw pos (keywordEach kws X.env)).any (·.1.isNone)) = false := by rfl) :
    PE X (.Call (.Name x p) [] kws pos) (tN c (dCallK Fd 0 ks.length π dNil gs)) := (pe_gk0 (E := L2.E0) F hr gd hg hm hk hb L2.pass0 hkw hall hks hdb hpl).wk fun σ H Q h => by
  have := tCallG_of (va := []) (vk := vk) (E := L2.E0) σ H Q h
  obtain ⟨_, fp, δ, Qd, e, hf, kq⟩ := this
  exact kq [] hf [] H [] (.nil e.ok) .nil
end
end DL
namespace DL
open PySem L2
section
variable {K : PySem.W.Frag} {G : Gx K} {H H' : Hp}
theorem RpA.drop : ∀ (n : Nat) {ds : List D} {vs : List V} {F : List Addr}, RpA G H vs ds F → ∃ F', RpA G H (vs.drop n) (ds.drop n) F' ∧ ∀ a ∈ F', a ∈ F
  | 0, _, _, F, h => ⟨F, by simpa using h, fun _ z => z⟩
  | n + 1, [], _, _, h => by cases h; exact ⟨[], by simpa using RpA.nil, fun _ z => z⟩
  | n + 1, d :: ds, _, _, h => by
    cases h with
    | cons h1 h2 =>
      obtain ⟨F', r, s⟩ := RpA.drop n h2
      exact ⟨F', by simpa using r, fun a z => by simp [s a z]⟩
theorem RpA.take : ∀ (n : Nat) {ds : List D} {vs : List V} {F : List Addr}, RpA G H vs ds F → ∃ F', RpA G H (vs.take n) (ds.take n) F' ∧ ∀ a ∈ F', a ∈ F
  | 0, _, _, F, h => ⟨[], by simpa using RpA.nil, fun _ z => nomatch z⟩
  | n + 1, [], _, _, h => by cases h; exact ⟨[], by simpa using RpA.nil, fun _ z => z⟩
  | n + 1, d :: ds, _, _, h => by
    cases h with
    | cons h1 h2 =>
      obtain ⟨F', r, s⟩ := RpA.take n h2
      refine ⟨_, by simpa using RpA.cons h1 r, fun a z => ?_⟩
      rcases List.mem_append.mp z with z | z
      · simp [z]
      · simp [s a z]
/-- xs[lo:hi] -/
def cut {α : Type} (xs : List α) (lo hi : Option Int) : List α := (xs.drop (HT.sIx xs.length 0 lo)).take (HT.sIx xs.length xs.length hi - HT.sIx xs.length 0 lo)
theorem RpA.cut {ds : List D} {vs : List V} {F : List Addr} (h : RpA G H vs ds F) (lo hi : Option Int) : ∃ F', RpA G H (cutV vs lo hi) (DL.cut ds lo hi) F' ∧ ∀ a ∈ F', a ∈ F := by
  unfold cutV DL.cut
  rw [h.length]
  obtain ⟨F1, r1, s1⟩ := h.drop (HT.sIx ds.length 0 lo)
  obtain ⟨F2, r2, s2⟩ := r1.take (HT.sIx ds.length ds.length hi - HT.sIx ds.length 0 lo)
  exact ⟨F2, r2, fun a z => s1 a (s2 a z)⟩
mutual
theorem py_noDict : ∀ (d : D) (p : PyData), d.py = some p → p.hasDict = false
  | .non, _, e => by simp [D.py] at e; subst e; rfl
  | .bl _, _, e => by simp [D.py] at e; subst e; rfl
  | .int _, _, e => by simp [D.py] at e; subst e; rfl
  | .str _, _, e => by simp [D.py] at e; subst e; rfl
  | .src, _, e => by simp [D.py] at e
  | .ty _, _, e => by simp [D.py] at e
  | .ref _, _, e => by simp [D.py] at e
  | .dic _ _, _, e => by simp [D.py] at e
  | .dtt _ _, _, e => by simp [D.py] at e
  | .lst ds, _, e => by simp [D.py] at e; obtain ⟨ps, e, rfl⟩ := e; simp only [PyData.hasDict]; exact pys_noDict ds ps e
  | .frz ds, _, e => by simp [D.py] at e; obtain ⟨ps, e, rfl⟩ := e; simp only [PyData.hasDict]; exact pys_noDict ds ps e
  | .tup ds, _, e => by simp [D.py] at e; obtain ⟨ps, e, rfl⟩ := e; simp only [PyData.hasDict]; exact pys_noDict ds ps e
theorem pys_noDict : ∀ (ds : List D) (ps : List PyData), D.pys ds = some ps → PyData.hasDictAll ps = false
  | [], _, e => by simp [D.pys] at e; subst e; rfl
  | d :: ds, _, e => by
    simp only [D.pys, Option.bind_eq_some_iff, Option.map_eq_some_iff] at e
    obtain ⟨p, e1, ps, e2, rfl⟩ := e
    simp only [PyData.hasDictAll, py_noDict d p e1, pys_noDict ds ps e2, Bool.or_self]
end
end
section
variable {X : Cx} {c : Cd X.K} {e a b : Expr} {pos : Pos} {va vb vc : List Nat} {fa fb fc : Env → W D}
/-! ### slices -/
def tPt (c : Cd X.K) (f : Env → W (Option Int)) : TO := fun σ H Q => ∃ n fp δ Qd, EnvOk c fp H σ δ n ∧ f δ Qd c.xq n ∧ ∀ {n'} o, Qd o n' → ∀ H', Kp c.G H H' n' → Q o H'
def dNo : Env → W (Option Int) := fun _ => pu none
def dSo (f : Env → W D) : Env → W (Option Int) := fun δ => bd (f δ) fun d => bd (asI d) fun i => pu (some i)
theorem po_wk {eo : Option Expr} {t t' : TO} (h : PO X eo t) (w : ∀ σ H Q, t' σ H Q → t σ H Q) : PO X eo t' := ⟨fun pins s σ H Q I q => h.run pins s σ H Q I (w σ H Q q)⟩
theorem pt_no : PO X none (tPt c dNo) := po_wk po_none fun σ H Q ⟨_, fp, δ, Qd, e, hf, k⟩ => k none hf H (Kp.refl e.ok)
theorem pt_so (h : PE X a (tD c va fa)) : PO X (some a) (tPt c (dSo fa)) := po_wk (po_some h) fun σ H Q ⟨_, fp, δ, Qd, e, hf, k⟩ => by
  refine ⟨_, fp, δ, fun d => bd (asI d) (fun i => pu (some i)) Qd c.xq, e, hf, fun d qd v H' F p r => ?_⟩
  cases r with
  | int i => exact ⟨i, rfl, k _ qd H' p.kp⟩
  | _ => exact qd.elim
def slD : D → Option Int → Option Int → W D
  | .tup ds, lo, hi => pu (.tup (cut ds lo hi))
  | .lst ds, lo, hi => chk (D.imms ds = true) (pu (.lst (cut ds lo hi)))
  | .frz ds, lo, hi => pu (.lst (cut ds lo hi))
  | _, _, _ => fl
def rSl (K : PySem.W.Frag) : V → Option Int → Option Int → Hp → VK → Prop := fun x lo hi H Q => rSlA K x lo hi H Q ∨ rSlL K x lo hi H Q
theorem xr_sl : SlR X (rSl X.K) := sl_tupA.or sl_list
def dSl (f : Env → W D) (g h : Env → W (Option Int)) : Env → W D := fun δ => bd (f δ) fun d => bd (g δ) fun lo => bd (h δ) fun hi => slD d lo hi
theorem cut_all {α : Type} {xs : List α} {lo hi : Option Int} (h : HT.sIx xs.length 0 lo = 0 ∧ HT.sIx xs.length xs.length hi = xs.length) : cut xs lo hi = xs := by
  unfold cut
  rw [h.1, h.2]
  simp
theorem pn_sl {el eh : Option Expr} {p2 : Pos} {g h : Env → W (Option Int)} (ha : PE X a (tD c va fa)) (hl : PO X el (tPt c g)) (hh : PO X eh (tPt c h)) : PE X (.Subscript a (.Slice el eh none p2) pos) (tD c va (dSl fa g h)) := (pe_slice xr_sl ha hl hh).wk fun σ H Q ⟨_, fp, δ, Qd, e, hf, k⟩ => by
  refine ⟨_, fp, δ, fun d => bd (g δ) (fun lo => bd (h δ) fun hi => slD d lo hi) Qd c.xq, e, hf, fun d qd v H1 F1 p1 r1 => ?_⟩
  refine ⟨_, fp, δ, fun lo => bd (h δ) (fun hi => slD d lo hi) Qd c.xq, e.kp p1.kp, qd, fun lo qlo H2 kp2 => ?_⟩
  refine ⟨_, fp, δ, fun hi => slD d lo hi Qd c.xq, e.kp (p1.kp.trans kp2), qlo, fun hi qhi H3 kp3 => ?_⟩
  have k13 := kp2.trans kp3
  have r := r1.kp k13 p1.nos
  have pp := p1.more k13
  cases r with
  | @tup a xs ds F sx ax =>
    refine .inl ⟨a, xs, rfl, sx, fun w => ?_, fun w p hp => ?_⟩
    · have e2 : cut ds lo hi = ds := cut_all (by rw [← ax.length]; exact w)
      have q2 : Qd (.tup (cut ds lo hi)) _ := qhi
      rw [e2] at q2
      exact k _ q2 _ H3 F1 pp (.tup sx ax)
    · obtain ⟨F', rc, s⟩ := ax.cut lo hi
      exact k _ qhi _ _ F' ((pp.sub s).more (Kp.laid k13.ok hp _)) (.tup (SqT.of upd_same) (rc.laid k13.ok (fun a z => pp.nos a (s a z)) hp _))
  | @lst a xs ds F sx ax =>
    refine .inr ⟨a, xs, rfl, .inl (.inl sx), fun p hp => ?_⟩
    obtain ⟨hi1, qhi⟩ := qhi
    have e2 := RpA.imm_nil _ _ _ ax hi1
    subst e2
    obtain ⟨F', rc, s⟩ := ax.cut lo hi
    have e3 : F' = [] := List.eq_nil_iff_forall_not_mem.mpr fun a z => nomatch s a z
    subst e3
    exact k _ qhi _ _ [p] ⟨pp.kp.trans (Kp.laid k13.ok hp _), fun a z => by rw [List.mem_singleton.mp z]; exact notS0 k13.ok hp, fun a z => by rw [List.mem_singleton.mp z]; exact .inl (pp.kp.free hp)⟩ (.lst upd_same (rc.laid k13.ok (fun _ z => nomatch z) hp _))
  | @frz a xs ds sx ax =>
    refine .inr ⟨a, xs, rfl, sx.sq, fun p hp => ?_⟩
    obtain ⟨F', rc, s⟩ := ax.cut lo hi
    have e3 : F' = [] := List.eq_nil_iff_forall_not_mem.mpr fun a z => nomatch s a z
    subst e3
    exact k _ qhi _ _ [p] ⟨pp.kp.trans (Kp.laid k13.ok hp _), fun a z => by rw [List.mem_singleton.mp z]; exact notS0 k13.ok hp, fun a z => by rw [List.mem_singleton.mp z]; exact .inl (pp.kp.free hp)⟩ (.lst upd_same (rc.laid k13.ok (fun _ z => nomatch z) hp _))
  | _ => exact qhi.elim

/-! ### built-in calls -/
theorem RpA.one {G : Gx X.K} {H : Hp} {us : List V} {d : D} {F : List Addr} (h : RpA G H us [d] F) : ∃ v, us = [v] ∧ Rp G H v d F := by
  cases h with
  | cons h1 h2 => cases h2; exact ⟨_, rfl, by simpa using h1⟩
theorem RpA.two {G : Gx X.K} {H : Hp} {us : List V} {d d' : D} {F : List Addr} (h : RpA G H us [d, d'] F) : ∃ v v' F1 F2, us = [v, v'] ∧ Rp G H v d F1 ∧ Rp G H v' d' F2 ∧ F = F1 ++ F2 := by
  cases h with
  | cons h1 h2 =>
    obtain ⟨v', rfl, r⟩ := h2.one
    exact ⟨_, _, _, _, rfl, h1, r, rfl⟩
def a1 (g : D → W D) : List D → W D
  | [d] => g d
  | _ => fl
def a2 (g : D → D → W D) : List D → W D
  | [d, d'] => g d d'
  | _ => fl
/-- len -/
def lenD : D → W D
  | .lst ds => pu (.int ds.length)
  | .frz ds => pu (.int ds.length)
  | .tup ds => pu (.int ds.length)
  | _ => fl
theorem cd_len : CallD c (fun xs H Q => ∃ p ys, xs = [.ref p] ∧ (SqL X.K H p ys ∨ SqT X.K H p ys) ∧ Q (.int ys.length) H) (a1 lenD) := by
  intro n H us ds F Qd Q ok ns r q k
  unfold a1 at q
  split at q
  · obtain ⟨v, rfl, r0⟩ := r.one
    unfold lenD at q
    split at q
    · obtain ⟨a, xs, F', rfl, sx, ax, _⟩ := r0.lstI
      exact ⟨a, xs, rfl, .inl sx, by rw [ax.length]; exact k _ q _ H [] (Kp.refl ok) (.int _) fun _ z => nomatch z⟩
    · obtain ⟨a, xs, rfl, sx, ax, _⟩ := r0.frzI
      exact ⟨a, xs, rfl, .inl sx, by rw [ax.length]; exact k _ q _ H [] (Kp.refl ok) (.int _) fun _ z => nomatch z⟩
    · obtain ⟨a, xs, rfl, sx, ax⟩ := r0.tupI
      exact ⟨a, xs, rfl, .inr sx, by rw [ax.length]; exact k _ q _ H [] (Kp.refl ok) (.int _) fun _ z => nomatch z⟩
    · exact q.elim
  · exact q.elim
/-- list(xs), a new one -/
def listD : D → W D
  | .lst ds => chk (D.imms ds = true) (pu (.lst ds))
  | .frz ds => chk (D.imms ds = true) (pu (.lst ds))
  | .tup ds => chk (D.imms ds = true) (pu (.lst ds))
  | _ => fl
theorem cn_list : CallN c (fun xs H Q => ∃ p ys, xs = [.ref p] ∧ (SqL X.K H p ys ∨ SqT X.K H p ys) ∧ ∀ l, H l = none → Q (.ref l) (upd H l (.lst ys))) (a1 listD) := by
  intro n H us ds F Qd Q ok ns r q k
  have fin : ∀ {xs : List V} {ds : List D} {F' : List Addr}, RpA c.G H xs ds F' → D.imms ds = true → Qd (.lst ds) n → ∀ l, H l = none → Q (.ref l) (upd H l (.lst xs)) := fun {xs ds F'} ax im qd l hl => by
    have e := RpA.imm_nil _ _ _ ax im
    subst e
    exact k _ qd _ _ [l] (Kp.laid ok hl _) (.lst upd_same (ax.laid ok (fun _ z => nomatch z) hl _)) (fun a z => by rw [List.mem_singleton.mp z]; exact hl) (by simp)
  unfold a1 at q
  split at q
  · obtain ⟨v, rfl, r0⟩ := r.one
    unfold listD at q
    split at q
    · obtain ⟨a, xs, F', rfl, sx, ax, _⟩ := r0.lstI
      exact ⟨a, xs, rfl, .inl sx, fin ax q.1 q.2⟩
    · obtain ⟨a, xs, rfl, sx, ax, _⟩ := r0.frzI
      exact ⟨a, xs, rfl, .inl sx, fin ax q.1 q.2⟩
    · obtain ⟨a, xs, rfl, sx, ax⟩ := r0.tupI
      exact ⟨a, xs, rfl, .inr sx, fin ax q.1 q.2⟩
    · exact q.elim
  · exact q.elim
/-- tuple(xs) -/
def tupleD : D → W D
  | .lst ds => pu (.tup ds)
  | .frz ds => pu (.tup ds)
  | .tup ds => pu (.tup ds)
  | _ => fl
theorem cd_tuple : CallD c (fun xs H Q => ∃ p ys, xs = [.ref p] ∧ ((SqL X.K H p ys ∧ ∀ l, H l = none → Q (.ref l) (upd H l (.tup ys))) ∨ (SqT X.K H p ys ∧ Q (.ref p) H))) (a1 tupleD) := by
  intro n H us ds F Qd Q ok ns r q k
  unfold a1 at q
  split at q
  · obtain ⟨v, rfl, r0⟩ := r.one
    unfold tupleD at q
    split at q
    · obtain ⟨a, xs, F', rfl, sx, ax, sb⟩ := r0.lstI
      exact ⟨a, xs, rfl, .inl ⟨sx, fun l hl => k _ q _ _ F' (Kp.laid ok hl _) (.tup (SqT.of upd_same) (ax.laid ok (fun a z => ns a (sb a z)) hl _)) fun a z => .inr (sb a z)⟩⟩
    · obtain ⟨a, xs, rfl, sx, ax, _⟩ := r0.frzI
      exact ⟨a, xs, rfl, .inl ⟨sx, fun l hl => k _ q _ _ [] (Kp.laid ok hl _) (.tup (SqT.of upd_same) (ax.laid ok (fun _ z => nomatch z) hl _)) fun _ z => nomatch z⟩⟩
    · obtain ⟨a, xs, rfl, sx, ax⟩ := r0.tupI
      exact ⟨a, xs, rfl, .inr ⟨sx, k _ q _ H F (Kp.refl ok) r0 fun a z => .inr z⟩⟩
    · exact q.elim
  · exact q.elim
/-- abs, int -/
def absI (i : Int) : Int := if i < 0 then -i else i
def absD : D → W D
  | .int i => pu (.int (absI i))
  | _ => fl
theorem cd_abs : CallD c (fun xs H Q => ∃ i, xs = [.int i] ∧ Q (.int (if i < 0 then -i else i)) H) (a1 absD) := by
  intro n H us ds F Qd Q ok ns r q k
  unfold a1 at q
  split at q
  · obtain ⟨v, rfl, r0⟩ := r.one
    unfold absD at q
    split at q
    · obtain ⟨rfl, _⟩ := r0.intI
      exact ⟨_, rfl, k _ q _ H [] (Kp.refl ok) (.int _) fun _ z => nomatch z⟩
    · exact q.elim
  · exact q.elim
def int1D : D → W D
  | .int i => pu (.int i)
  | .bl b => pu (.int (if b then 1 else 0))
  | _ => fl
theorem cd_int : CallD c (fun xs H Q => (∃ i, xs = [.int i] ∧ Q (.int i) H) ∨ ∃ k, xs = [.bl k] ∧ Q (.int (if k then 1 else 0)) H) (a1 int1D) := by
  intro n H us ds F Qd Q ok ns r q k
  unfold a1 at q
  split at q
  · obtain ⟨v, rfl, r0⟩ := r.one
    unfold int1D at q
    split at q
    · obtain ⟨rfl, _⟩ := r0.intI
      exact .inl ⟨_, rfl, k _ q _ H [] (Kp.refl ok) (.int _) fun _ z => nomatch z⟩
    · obtain ⟨rfl, _⟩ := r0.blI
      exact .inr ⟨_, rfl, k _ q _ H [] (Kp.refl ok) (.int _) fun _ z => nomatch z⟩
    · exact q.elim
  · exact q.elim
/-- max, min of two -/
def max2D : D → D → W D
  | .int i, .int j => pu (.int (if j > i then j else i))
  | _, _ => fl
def min2D : D → D → W D
  | .int i, .int j => pu (.int (if j < i then j else i))
  | _, _ => fl
theorem cd_max2 : CallD c (fun xs H Q => ∃ i j, xs = [.int i, .int j] ∧ Q (.int (if j > i then j else i)) H) (a2 max2D) := by
  intro n H us ds F Qd Q ok ns r q k
  unfold a2 at q
  split at q
  · obtain ⟨v, v', F1, F2, rfl, r1, r2, _⟩ := r.two
    unfold max2D at q
    split at q
    · obtain ⟨rfl, _⟩ := r1.intI
      obtain ⟨rfl, _⟩ := r2.intI
      exact ⟨_, _, rfl, k _ q _ H [] (Kp.refl ok) (.int _) fun _ z => nomatch z⟩
    · exact q.elim
  · exact q.elim
theorem cd_min2 : CallD c (fun xs H Q => ∃ i j, xs = [.int i, .int j] ∧ Q (.int (if j < i then j else i)) H) (a2 min2D) := by
  intro n H us ds F Qd Q ok ns r q k
  unfold a2 at q
  split at q
  · obtain ⟨v, v', F1, F2, rfl, r1, r2, _⟩ := r.two
    unfold min2D at q
    split at q
    · obtain ⟨rfl, _⟩ := r1.intI
      obtain ⟨rfl, _⟩ := r2.intI
      exact ⟨_, _, rfl, k _ q _ H [] (Kp.refl ok) (.int _) fun _ z => nomatch z⟩
    · exact q.elim
  · exact q.elim
/-- the ints of a list -/
def lInts : D → Option (List Int)
  | .lst ds => intsD ds
  | .frz ds => intsD ds
  | _ => none
theorem Rp.ofI {G : Gx X.K} {H : Hp} {v : V} {d : D} {F : List Addr} {ns : List Int} (r : Rp G H v d F) (h : lInts d = some ns) : ∃ a, v = .ref a ∧ SqL X.K H a (ns.map V.int) := by
  unfold lInts at h
  split at h
  · obtain ⟨a, xs, F', rfl, sx, ax, _⟩ := r.lstI
    have e := intsD_eq h
    subst e
    obtain ⟨rfl, _⟩ := ax.ints
    exact ⟨a, rfl, sx⟩
  · obtain ⟨a, xs, rfl, sx, ax, _⟩ := r.frzI
    have e := intsD_eq h
    subst e
    obtain ⟨rfl, _⟩ := ax.ints
    exact ⟨a, rfl, sx⟩
  · cases h
def sumD (d : D) : W D := opt (lInts d) fun ns => pu (.int ns.sum)
theorem cd_sum : CallD c (rSum X.K) (a1 sumD) := by
  intro n H us ds F Qd Q ok ns r q k
  unfold a1 at q
  split at q
  · obtain ⟨v, rfl, r0⟩ := r.one
    obtain ⟨ms, e, q⟩ := q
    obtain ⟨a, rfl, sx⟩ := r0.ofI e
    exact ⟨a, ms, rfl, sx, k _ q _ H [] (Kp.refl ok) (.int _) fun _ z => nomatch z⟩
  · exact q.elim
/-- the greatest, the least of a list that is not empty: any number that is so -/
def maxLD (d : D) : W D := opt (lInts d) fun ns => chk (0 < ns.length) fun Q _ n => ∀ m, m ∈ ns → (∀ y ∈ ns, y ≤ m) → Q (.int m) n
def minLD (d : D) : W D := opt (lInts d) fun ns => chk (0 < ns.length) fun Q _ n => ∀ m, m ∈ ns → (∀ y ∈ ns, m ≤ y) → Q (.int m) n
theorem cd_maxL : CallD c (rMax X.K) (a1 maxLD) := by
  intro n H us ds F Qd Q ok ns r q k
  unfold a1 at q
  split at q
  · obtain ⟨v, rfl, r0⟩ := r.one
    obtain ⟨ms, e, hl, q⟩ := q
    obtain ⟨a, rfl, sx⟩ := r0.ofI e
    exact ⟨a, ms, rfl, sx, hl, fun m h1 h2 => k _ (q m h1 h2) _ H [] (Kp.refl ok) (.int _) fun _ z => nomatch z⟩
  · exact q.elim
theorem cd_minL : CallD c (rMin X.K) (a1 minLD) := by
  intro n H us ds F Qd Q ok ns r q k
  unfold a1 at q
  split at q
  · obtain ⟨v, rfl, r0⟩ := r.one
    obtain ⟨ms, e, hl, q⟩ := q
    obtain ⟨a, rfl, sx⟩ := r0.ofI e
    exact ⟨a, ms, rfl, sx, hl, fun m h1 h2 => k _ (q m h1 h2) _ H [] (Kp.refl ok) (.int _) fun _ z => nomatch z⟩
  · exact q.elim
/-- all of a list of bools -/
def allD : D → W D
  | .lst ds => opt (bls ds) fun bs => pu (.bl (bs.all id))
  | _ => fl
theorem cd_all : CallD c (rAll X.K) (a1 allD) := by
  intro n H us ds F Qd Q ok ns r q k
  unfold a1 at q
  split at q
  · obtain ⟨v, rfl, r0⟩ := r.one
    unfold allD at q
    split at q
    · obtain ⟨bs, e, q⟩ := q
      have e := bls_eq e
      subst e
      obtain ⟨a, xs, F', rfl, sx, ax, _⟩ := r0.lstI
      obtain ⟨rfl, _⟩ := ax.bls
      exact ⟨a, bs, rfl, sx, k _ q _ H [] (Kp.refl ok) (.bl _) fun _ z => nomatch z⟩
    · exact q.elim
  · exact q.elim
end
end DL
namespace DL
open PySem L2
/-! ### isinstance of built-in types -/
def tyN : D → Option String
  | .non => some "NoneType"
  | .bl _ => some "bool"
  | .int _ => some "int"
  | .str _ => some "str"
  | .lst _ => some "list"
  | .frz _ => some "list"
  | .tup _ => some "tuple"
  | .dic _ _ => some "dict"
  | .dtt _ _ => some "dict"
  | _ => none
def tyAll : List String := ["NoneType", "bool", "int", "str", "list", "tuple", "dict"]
def isiT (t n : String) : Option Bool := if t ∈ tyAll ∧ n ∈ tyAll.tail then some (t == n || (t == "bool" && n == "int")) else none
theorem kitB_all : ∀ t ∈ tyAll, ∀ n ∈ tyAll.tail, kitB t n = some (t == n || (t == "bool" && n == "int")) := by decide +kernel
theorem isiT_kit {t n : String} {b : Bool} (h : isiT t n = some b) : kitB t n = some b := by
  unfold isiT at h
  split at h
  · rename_i q
    rw [kitB_all t q.1 n q.2]
    exact h
  · cases h
section
variable {X : Cx} {c : Cd X.K}
theorem Rp.tyx {G : Gx X.K} {H : Hp} {v : V} {d : D} {F : List Addr} {t : String} (r : Rp G H v d F) (h : tyN d = some t) : TyX X.K H v (.type t) := by
  cases r with
  | non => cases h; exact .base .non
  | bl b => cases h; exact .base (.bl _)
  | int i => cases h; exact .base (.int _)
  | str x => cases h; exact .base (.str _)
  | lst e _ => cases h; exact .base (.lst e)
  | frz e _ =>
    cases h
    rcases e with ⟨o, e⟩ | ⟨o, its, n, e, hc, _⟩
    · exact .base (.frz e)
    · exact .kList e hc
  | tup e _ =>
    cases h
    rcases e with (e | ⟨o, e⟩) | ⟨o, its, n, e, hc, _⟩
    · exact .base (.tup e)
    · exact .fTuple e
    · exact .kTuple e hc
  | dic e _ => cases h; exact .base (.dK e)
  | dtt e _ => cases h; exact .base (.dT e)
  | _ => cases h
def isiD : D → D → W D
  | d, .ty n => opt (tyN d) fun t => opt (isiT t n) fun b => pu (.bl b)
  | _, _ => fl
theorem cd_isi : CallD c (rIsi X.K) (a2 isiD) := by
  intro n H us ds F Qd Q ok ns r q k
  unfold a2 at q
  split at q
  · obtain ⟨v, v', F1, F2, rfl, r1, r2, _⟩ := r.two
    unfold isiD at q
    split at q
    · obtain ⟨t, e1, b, e2, q⟩ := q
      cases r2
      exact ⟨v, _, _, _, b, rfl, .ty _, r1.tyx e1, kit_ty (isiT_kit e2), k _ q _ H [] (Kp.refl ok) (.bl _) fun _ z => nomatch z⟩
    · exact q.elim
  · exact q.elim

/-! ### repr -/
def rRepr (K : PySem.W.Frag) : List V → Hp → VK → Prop := fun xs H Q => ∃ x p, xs = [x] ∧ Dp K H x p ∧ p.showable = true ∧ p.hasDict = false ∧ p.depth ≤ 60 ∧ p.shown.length ≤ sizeLine ∧ Q (.str p.shown) H
theorem cr_repr (hg : X.A.guards = some []) (hu : X.A.units + 64 < cLine) : CallR X (.builtin "repr") (rRepr X.K) := by
  intro pins s σ H xs us Q I r h
  obtain ⟨x, p, rfl, dp, sh, nd, dd, sz, q⟩ := h
  cases r with
  | cons rx rr =>
    cases rr
    obtain ⟨as, rd⟩ := Dp.reads I p x _ dp rx
    cases dp with
    | non => cases rx; exact PySem.P.repr_of_none ⟨.str _, H, I.tok _, ⟨_, rfl⟩, q⟩
    | bl b => cases rx; exact PySem.P.repr_of_bool ⟨.str _, H, I.tok _, ⟨_, rfl⟩, q⟩
    | int i =>
      obtain ⟨t, rfl⟩ := rx
      exact PySem.P.repr_of_int (by simpa [PyData.showable] using sh) ⟨.str _, H, I.tok _, ⟨_, rfl⟩, q⟩
    | str z =>
      obtain ⟨t, rfl⟩ := rx
      exact PySem.P.repr_of_str ⟨.str _, H, I.tok _, ⟨_, rfl⟩, q⟩ (by simpa [PyData.shown] using sz)
    | lst _ _ =>
      cases rx
      exact repr_of_reads' rd sh (fun e => by rw [nd] at e; cases e) hg (by omega) (fun _ _ e => e) (fun h' u tk hk => ⟨.str _, H, I.kept hk, ⟨_, rfl⟩, q⟩) sz
    | tup _ _ =>
      cases rx
      exact repr_of_reads' rd sh (fun e => by rw [nd] at e; cases e) hg (by omega) (fun _ _ e => e) (fun h' u tk hk => ⟨.str _, H, I.kept hk, ⟨_, rfl⟩, q⟩) sz
/-- what is shown: the text is a function of the data -/
def reprD (d : D) : W D := opt d.py fun p => chk (p.showable = true ∧ p.depth ≤ 60 ∧ p.shown.length ≤ sizeLine) (pu (.str p.shown))
theorem cd_repr : CallD c (rRepr X.K) (a1 reprD) := by
  intro n H us ds F Qd Q ok ns r q k
  unfold a1 at q
  split at q
  · obtain ⟨v, rfl, r0⟩ := r.one
    obtain ⟨p, e, ⟨h1, h2, h3⟩, q⟩ := q
    exact ⟨v, p, rfl, Rp.dp _ _ _ _ r0 e, h1, py_noDict _ _ e, h2, h3, k _ q _ H [] (Kp.refl ok) (.str _) fun _ z => nomatch z⟩
  · exact q.elim

/-! ### sorted, ints -/
def sortID (d : D) : W D := opt (lInts d) fun ns Q _ n => ∀ ms : List Int, ms.Perm ns → ms.Pairwise (· ≤ ·) → Q (.lst (ms.map D.int)) n
theorem cn_sortI : CallN c (rSortedI X.K) (a1 sortID) := by
  intro n H us ds F Qd Q ok ns r q k
  unfold a1 at q
  split at q
  · obtain ⟨v, rfl, r0⟩ := r.one
    obtain ⟨ms, e, q⟩ := q
    obtain ⟨a, rfl, sx⟩ := r0.ofI e
    exact ⟨a, ms, rfl, sx, fun ms' p hp hs hn => k _ (q ms' hp hs) _ _ [p] (Kp.laid ok hn _) (.lst upd_same .of_ints) (fun a z => by rw [List.mem_singleton.mp z]; exact hn) (by simp)⟩
  · exact q.elim
end
end DL
namespace DL
open PySem L2
/-! ### statements: how the flow goes on -/
inductive Fl where
  | nx | bk | ct
  | rt (d : D)
/-- w: the slots that may have been stored to, or whose lists may have been written -/
structure Step {K : PySem.W.Frag} (c : Cd K) (w : List Nat) (fp : Nat → List Addr) (H : Hp) (σ : St) (fp' : Nat → List Addr) (H' : Hp) (σ' : St) : Prop where
  sl : ∀ j, j ∉ w → σ'[j]? = σ[j]? ∧ fp' j = fp j
  kp : ∀ b o, H b = some o → b ∉ c.G.S → (∀ i ∈ w, i ∈ c.own → b ∉ fp i) → H' b = some o
  nw : ∀ i ∈ w, i ∈ c.own → ∀ a ∈ fp' i, H a = none ∨ ∃ k ∈ w, k ∈ c.own ∧ a ∈ fp k
  dm : ∀ b, H b ≠ none → H' b ≠ none
  ln : σ'.length = σ.length
section
variable {K : PySem.W.Frag} {c : Cd K} {w w' : List Nat} {fp fp1 fp2 : Nat → List Addr} {H H1 H2 : Hp} {σ σ1 σ2 : St}
theorem Step.of_kp {n : Nat} (k : Kp c.G H H1 n) : Step c w fp H σ fp H1 σ :=
  ⟨fun _ _ => ⟨rfl, rfl⟩, fun b o e n _ => k.kp b o e n, fun i hi ho a ha => .inr ⟨i, hi, ho, ha⟩, k.dm, rfl⟩
theorem Step.wk (s : Step c w fp H σ fp1 H1 σ1) (h : ∀ i ∈ w, i ∈ w') : Step c w' fp H σ fp1 H1 σ1 := by
  refine ⟨fun j hj => s.sl j fun z => hj (h j z), fun b o e n q => s.kp b o e n fun i hi ho => q i (h i hi) ho, fun i hi ho a ha => ?_, s.dm, s.ln⟩
  by_cases hw : i ∈ w
  · exact (s.nw i hw ho a ha).elim .inl fun ⟨k, hk, q⟩ => .inr ⟨k, h k hk, q⟩
  · rw [(s.sl i hw).2] at ha
    exact .inr ⟨i, hi, ho, ha⟩
theorem Step.trans (s : Step c w fp H σ fp1 H1 σ1) (t : Step c w fp1 H1 σ1 fp2 H2 σ2) : Step c w fp H σ fp2 H2 σ2 := by
  refine ⟨fun j hj => ⟨(t.sl j hj).1.trans (s.sl j hj).1, (t.sl j hj).2.trans (s.sl j hj).2⟩, fun b o e n q => t.kp b o (s.kp b o e n q) n fun i hi ho hb => ?_, fun i hi ho a ha => ?_, fun b e => t.dm b (s.dm b e), t.ln.trans s.ln⟩
  · rcases s.nw i hi ho b hb with z | ⟨k, hk, hk2, z⟩
    · rw [e] at z; cases z
    · exact q k hk hk2 z
  · rcases t.nw i hi ho a ha with z | ⟨k, hk, hk2, z⟩
    · left
      cases q : H a with
      | none => rfl
      | some o => exact absurd z (s.dm a (by rw [q]; exact fun z => nomatch z))
    · exact s.nw k hk hk2 a z
end
/-- what stands behind a statement: σ', δ' and how it went -/
def Fin {K : PySem.W.Frag} (c : Cd K) (w : List Nat) (fp : Nat → List Addr) (H : Hp) (σ : St) (Dn : Ends) : Fl → Env → Nat → Prop
  | .nx, δ', n' => ∀ fp' H' σ', EnvOk c fp' H' σ' δ' n' → Step c w fp H σ fp' H' σ' → Dn.nx σ' H'
  | .bk, δ', n' => ∀ fp' H' σ', EnvOk c fp' H' σ' δ' n' → Step c w fp H σ fp' H' σ' → Dn.bk σ' H'
  | .ct, δ', n' => ∀ fp' H' σ', EnvOk c fp' H' σ' δ' n' → Step c w fp H σ fp' H' σ' → Dn.ct σ' H'
  | .rt d, _, n' => ∀ v F H', c.G.ok H' n' → Rp c.G H' v d F → (∀ a ∈ F, c.H0 a = none ∧ a ∉ c.G.S) → F.Nodup → (∀ b o, c.H0 b = some o → b ∉ c.G.S → H' b = some o) → Dn.rt v H'
def tS {K : PySem.W.Frag} (c : Cd K) (w : List Nat) (g : Env → W (Fl × Env)) : TS := fun Dn σ H => ∃ n fp δ Qd, EnvOk c fp H σ δ n ∧ g δ Qd c.xq n ∧ ∀ {n'} f δ', Qd (f, δ') n' → Fin c w fp H σ Dn f δ' n'

section
variable {X : Cx} {c : Cd X.K} {st : Stmt} {sts : List Stmt} {w w' : List Nat} {g g' : Env → W (Fl × Env)} {e a b : Expr} {pos : Pos} {va vb : List Nat} {fa fb : Env → W D}
/-- what follows a statement, seen from ahead of it -/
theorem Fin.ahead {fp fp1 : Nat → List Addr} {H H1 : Hp} {σ σ1 : St} {Dn : Ends} {f : Fl} {δ : Env} {m0 : Nat} (s : Step c w fp H σ fp1 H1 σ1) (h : Fin c w fp H σ Dn f δ m0) : Fin c w fp1 H1 σ1 Dn f δ m0 := by
  cases f with
  | nx => exact fun fp' H' σ' e t => h fp' H' σ' e (s.trans t)
  | bk => exact fun fp' H' σ' e t => h fp' H' σ' e (s.trans t)
  | ct => exact fun fp' H' σ' e t => h fp' H' σ' e (s.trans t)
  | rt d => exact h
theorem Fin.wk {fp : Nat → List Addr} {H : Hp} {σ : St} {Dn : Ends} {f : Fl} {δ : Env} {m0 : Nat} (s : ∀ i ∈ w', i ∈ w) (h : Fin c w fp H σ Dn f δ m0) : Fin c w' fp H σ Dn f δ m0 := by
  cases f with
  | nx => exact fun fp' H' σ' e t => h fp' H' σ' e (t.wk s)
  | bk => exact fun fp' H' σ' e t => h fp' H' σ' e (t.wk s)
  | ct => exact fun fp' H' σ' e t => h fp' H' σ' e (t.wk s)
  | rt d => exact h
def sNil : Env → W (Fl × Env) := fun δ => pu (.nx, δ)
def thenF (g' : Env → W (Fl × Env)) : Fl × Env → W (Fl × Env)
  | (.nx, δ) => g' δ
  | (.bk, δ) => pu (.bk, δ)
  | (.ct, δ) => pu (.ct, δ)
  | (.rt d, δ) => pu (.rt d, δ)
def sSeq (g g' : Env → W (Fl × Env)) : Env → W (Fl × Env) := fun δ => bd (g δ) (thenF g')
/-- an address that is free is not of the entry -/
theorem EnvOk.free0 {fp : Nat → List Addr} {H : Hp} {σ : St} {δ : Env} {m0 : Nat} (e : EnvOk c fp H σ δ m0) {a : Addr} (n : H a = none) : c.H0 a = none ∧ a ∉ c.G.S := by
  refine ⟨?_, notS0 e.ok n⟩
  cases q : c.H0 a with
  | none => rfl
  | some o =>
    rw [e.frm a o q (notS0 e.ok n)] at n
    cases n
theorem sd_nil : PSs X [] (tS c [] sNil) := pss_nil.wk fun Dn σ H ⟨_, fp, δ, Qd, e, hf, k⟩ => k _ _ hf fp H σ e (.of_kp (Kp.refl e.ok))
theorem sd_wk {t : TS} (h : PSs X sts (tS c w g)) (s : ∀ i ∈ w, i ∈ w') : PSs X sts (tS c w' g) := h.wk fun Dn σ H ⟨_, fp, δ, Qd, e, hf, k⟩ => ⟨_, fp, δ, Qd, e, hf, fun f δ' q => (k f δ' q).wk s⟩
theorem sd_cons (h : PS X st (tS c w g)) (h' : PSs X sts (tS c w' g')) : PSs X (st :: sts) (tS c (w ++ w') (sSeq g g')) := (pss_cons h h').wk fun Dn σ H ⟨_, fp, δ, Qd, e, hf, k⟩ => by
  refine ⟨_, fp, δ, fun r => thenF g' r Qd c.xq, e, hf, fun f δ' q => ?_⟩
  cases f with
  | nx =>
    intro fp1 H1 σ1 e1 s1
    refine ⟨_, fp1, δ', Qd, e1, q, fun f2 δ2 q2 => ?_⟩
    exact ((k f2 δ2 q2).ahead (s1.wk fun i z => by simp [z])).wk fun i z => by simp [z]
  | bk => exact (k _ _ q).wk fun i z => by simp [z]
  | ct => exact (k _ _ q).wk fun i z => by simp [z]
  | rt d => exact k _ _ q
theorem sd_one (h : PS X st (tS c w g)) : PSs X [st] (tS c w g) := pss_one h
/-- pass; break; continue -/
theorem sd_pass : PS X (.Pass pos) (tS c [] sNil) := ps_pass.wk fun Dn σ H ⟨_, fp, δ, Qd, e, hf, k⟩ => k _ _ hf fp H σ e (.of_kp (Kp.refl e.ok))
def sBrk : Env → W (Fl × Env) := fun δ => pu (.bk, δ)
def sCnt : Env → W (Fl × Env) := fun δ => pu (.ct, δ)
theorem sd_break : PS X (.Break pos) (tS c [] sBrk) := ps_break.wk fun Dn σ H ⟨_, fp, δ, Qd, e, hf, k⟩ => k _ _ hf fp H σ e (.of_kp (Kp.refl e.ok))
theorem sd_cont : PS X (.Continue pos) (tS c [] sCnt) := ps_continue.wk fun Dn σ H ⟨_, fp, δ, Qd, e, hf, k⟩ => k _ _ hf fp H σ e (.of_kp (Kp.refl e.ok))
/-- an expression alone -/
def sExpr (f : Env → W D) : Env → W (Fl × Env) := fun δ => bd (f δ) fun _ => pu (.nx, δ)
theorem sd_expr (h : PE X e (tD c va fa)) (hs : swapsWith e none pos.line X.env = pure false := by rfl) : PS X (.Expr e pos) (tS c [] (sExpr fa)) := (ps_expr h hs).wk fun Dn σ H ⟨_, fp, δ, Qd, e, hf, k⟩ =>
  ⟨_, fp, δ, fun _ => Qd (.nx, δ), e, hf, fun d qd v H' F p r => k _ _ qd fp H' σ (e.kp p.kp) (.of_kp p.kp)⟩
/-- return e: what never changes; what is new -/
def sRet (f : Env → W D) : Env → W (Fl × Env) := fun δ => bd (f δ) fun d => chk (d.imm = true) (pu (.rt d, δ))
def sRetN (f : Env → W D) : Env → W (Fl × Env) := fun δ => bd (f δ) fun d => pu (.rt d, δ)
theorem EnvOk.frm2 {fp : Nat → List Addr} {H H' : Hp} {σ : St} {δ : Env} {m0 m1 : Nat} (e : EnvOk c fp H σ δ m0) (k : Kp c.G H H' m1) : ∀ b o, c.H0 b = some o → b ∉ c.G.S → H' b = some o := fun b o q n => k.kp b o (e.frm b o q n) n
theorem sd_ret (h : PE X e (tD c va fa)) : PS X (.Return (some e) pos) (tS c [] (sRet fa)) := (ps_ret h).wk fun Dn σ H ⟨_, fp, δ, Qd, e, hf, k⟩ =>
  ⟨_, fp, δ, fun d => chk (d.imm = true) (pu (Fl.rt d, δ)) Qd c.xq, e, hf, fun d qd v H' F p r => by
    have e0 := Rp.imm_nil _ _ _ r qd.1
    subst e0
    exact k _ _ qd.2 v [] H' p.kp.ok r (fun _ z => nomatch z) (by simp) (e.frm2 p.kp)⟩
theorem sd_retN (h : PE X e (tN c fa)) : PS X (.Return (some e) pos) (tS c [] (sRetN fa)) := (ps_ret h).wk fun Dn σ H ⟨_, fp, δ, Qd, e, hf, k⟩ =>
  ⟨_, fp, δ, fun d => Qd (.rt d, δ), e, hf, fun d qd v H' F kp r fr nd => k _ _ qd v F H' kp.ok r (fun a z => e.free0 (fr a z)) nd (e.frm2 kp)⟩
/-- return x, x a list of its own -/
def sRetV (i : Nat) : Env → W (Fl × Env) := fun δ => bd (gw δ i) fun d => pu (.rt d, δ)
theorem sd_retV (i : Nat) (ho : i ∈ c.own) (h : PE X e (tVar i)) : PS X (.Return (some e) pos) (tS c [] (sRetV i)) := (ps_ret h).wk fun Dn σ H ⟨_, fp, δ, Qd, e, hf, k⟩ => by
  unfold sRetV gw at hf
  cases q : gt δ i with
  | none => rw [q] at hf; exact hf.elim
  | some d =>
    rw [q] at hf
    obtain ⟨v, hv, r⟩ := e.rep i d q
    exact ⟨v, hv, k _ _ hf v (fp i) H e.ok r (fun a z => ⟨e.frs i ho a z, e.nos i a z⟩) (e.ndp i ho) e.frm⟩
theorem sd_ret0 : PS X (.Return none pos) (tS c [] fun δ => pu (.rt .non, δ)) := ps_retN.wk fun Dn σ H ⟨_, fp, δ, Qd, e, hf, k⟩ => k _ _ hf .non [] H e.ok .non (fun _ z => nomatch z) (by simp) e.frm
/-- if -/
def sIf (t : Env → W Bool) (g g' : Env → W (Fl × Env)) : Env → W (Fl × Env) := fun δ => bd (t δ) fun b => if b = true then g δ else g' δ
theorem sd_if {t : Env → W Bool} {as bs : List Stmt} {ec : Expr} (hc : PT X ec (tT c t)) (ha : PSs X as (tS c w g)) (hb : PSs X bs (tS c w' g')) : PS X (.If ec as bs pos) (tS c (w ++ w') (sIf t g g')) := (ps_if hc ha hb).wk fun Dn σ H ⟨_, fp, δ, Qd, e, hf, k⟩ => by
  refine ⟨_, fp, δ, fun b => (if b = true then g δ else g' δ) Qd c.xq, e, hf, fun b qb H' kp => ?_⟩
  have s : Step c (w ++ w') fp H σ fp H' σ := .of_kp kp
  cases b with
  | true => exact ⟨_, fp, δ, Qd, e.kp kp, qb, fun f δ' q => ((k f δ' q).ahead s).wk fun i z => by simp [z]⟩
  | false => exact ⟨_, fp, δ, Qd, e.kp kp, qb, fun f δ' q => ((k f δ' q).ahead s).wk fun i z => by simp [z]⟩
/-- what is never come to -/
theorem sd_never : PS X st (tS c [] fun _ => fl) := ps_never.wk fun Dn σ H ⟨_, fp, δ, Qd, e, hf, k⟩ => hf
theorem sds_never : PSs X sts (tS c [] fun _ => fl) := pss_never.wk fun Dn σ H ⟨_, fp, δ, Qd, e, hf, k⟩ => hf

/-! ### stores to names -/
theorem gt_set {δ : Env} {i j : Nat} {o : Option D} (hi : i < δ.length) : gt (δ.set i o) j = if j = i then o else gt δ j := by
  unfold gt
  by_cases h : j = i
  · subst h
    rw [if_pos rfl, List.getElem?_set_self hi]
    rfl
  · rw [if_neg h, List.getElem?_set_ne (fun q => h q.symm)]
/-- what never changes is stored -/
theorem EnvOk.setI {fp : Nat → List Addr} {H : Hp} {σ : St} {δ : Env} {i : Nat} {v : V} {d : D} {m0 : Nat} (e : EnvOk c fp H σ δ m0) (hi : i < δ.length) (r : Rp c.G H v d []) :
    EnvOk c (fun j => if j = i then [] else fp j) H (σ.set i (some v)) (δ.set i (some d)) m0 where
  ok := e.ok
  len := by rw [List.length_set, List.length_set]; exact e.len
  rep := fun j d' q => by
    rw [gt_set hi] at q
    by_cases h : j = i
    · subst h
      rw [if_pos rfl] at q
      cases q
      refine ⟨v, ?_, by rw [if_pos rfl]; exact r⟩
      rw [List.getElem?_set_self (by rw [e.len]; exact hi)]
    · rw [if_neg h] at q
      obtain ⟨u, hu, ru⟩ := e.rep j d' q
      exact ⟨u, by rw [List.getElem?_set_ne (fun z => h z.symm)]; exact hu, by rw [if_neg h]; exact ru⟩
  emp := fun j q => by
    rw [gt_set hi] at q
    by_cases h : j = i
    · rw [if_pos h]
    · rw [if_neg h] at q ⊢; exact e.emp j q
  nos := fun j a ha => by
    by_cases h : j = i
    · rw [if_pos h] at ha; cases ha
    · rw [if_neg h] at ha; exact e.nos j a ha
  frs := fun j ho a ha => by
    by_cases h : j = i
    · rw [if_pos h] at ha; cases ha
    · rw [if_neg h] at ha; exact e.frs j ho a ha
  ndp := fun j ho => by
    by_cases h : j = i
    · rw [if_pos h]; exact List.nodup_nil
    · rw [if_neg h]; exact e.ndp j ho
  sep := fun j ho l hl a ha => by
    by_cases h : j = i
    · rw [if_pos h] at ha; cases ha
    · rw [if_neg h] at ha
      by_cases h2 : l = i
      · rw [if_pos h2]; exact fun z => nomatch z
      · rw [if_neg h2]; exact e.sep j ho l hl a ha
  frm := e.frm
theorem Step.setI {fp : Nat → List Addr} {H : Hp} {σ : St} {i : Nat} {v : V} {m0 : Nat} (ok : c.G.ok H m0) : Step c [i] fp H σ (fun j => if j = i then [] else fp j) H (σ.set i (some v)) :=
  ⟨fun j hj => ⟨by rw [List.getElem?_set_ne (fun z => hj (by simp [z]))], by rw [if_neg fun z => hj (by simp [z])]⟩, fun b o e _ _ => e, fun j hj ho a ha => by
    rw [if_pos (List.mem_singleton.mp hj)] at ha
    exact absurd ha List.not_mem_nil, fun _ e => e, List.length_set⟩
/-- what is new, whole, is stored in a slot of its own -/
theorem EnvOk.setN {fp : Nat → List Addr} {H H' : Hp} {σ : St} {δ : Env} {i : Nat} {v : V} {d : D} {F : List Addr} {m0 m1 : Nat} (e : EnvOk c fp H σ δ m0) (kp : Kp c.G H H' m1) (hi : i < δ.length) (r : Rp c.G H' v d F) (fr : ∀ a ∈ F, H a = none) (nd : F.Nodup) :
    EnvOk c (fun j => if j = i then F else fp j) H' (σ.set i (some v)) (δ.set i (some d)) m1 where
  ok := kp.ok
  len := by rw [List.length_set, List.length_set]; exact e.len
  rep := fun j d' q => by
    rw [gt_set hi] at q
    by_cases h : j = i
    · subst h
      rw [if_pos rfl] at q
      cases q
      refine ⟨v, ?_, by rw [if_pos rfl]; exact r⟩
      rw [List.getElem?_set_self (by rw [e.len]; exact hi)]
    · rw [if_neg h] at q
      obtain ⟨u, hu, ru⟩ := (e.kp kp).rep j d' q
      exact ⟨u, by rw [List.getElem?_set_ne (fun z => h z.symm)]; exact hu, by rw [if_neg h]; exact ru⟩
  emp := fun j q => by
    rw [gt_set hi] at q
    by_cases h : j = i
    · rw [if_pos h] at q; cases q
    · rw [if_neg h] at q ⊢; exact e.emp j q
  nos := fun j a ha => by
    by_cases h : j = i
    · rw [if_pos h] at ha; exact notS0 e.ok (fr a ha)
    · rw [if_neg h] at ha; exact e.nos j a ha
  frs := fun j ho a ha => by
    by_cases h : j = i
    · rw [if_pos h] at ha
      exact (e.free0 (fr a ha)).1
    · rw [if_neg h] at ha; exact e.frs j ho a ha
  ndp := fun j ho => by
    by_cases h : j = i
    · rw [if_pos h]; exact nd
    · rw [if_neg h]; exact e.ndp j ho
  sep := fun j ho l hl a ha => by
    by_cases h : j = i
    · rw [if_pos h] at ha
      rw [if_neg fun z => hl (z.trans h.symm)]
      exact fun z => e.dom l a z (fr a ha)
    · rw [if_neg h] at ha
      by_cases h2 : l = i
      · rw [if_pos h2]; exact fun z => e.dom j a ha (fr a z)
      · rw [if_neg h2]; exact e.sep j ho l hl a ha
  frm := (e.kp kp).frm
theorem Step.setN {fp : Nat → List Addr} {H H' : Hp} {σ : St} {i : Nat} {v : V} {F : List Addr} {m1 : Nat} (kp : Kp c.G H H' m1) (fr : ∀ a ∈ F, H a = none) : Step c [i] fp H σ (fun j => if j = i then F else fp j) H' (σ.set i (some v)) :=
  ⟨fun j hj => ⟨by rw [List.getElem?_set_ne (fun z => hj (by simp [z]))], by rw [if_neg fun z => hj (by simp [z])]⟩, fun b o e n _ => kp.kp b o e n, fun j hj ho a ha => by
    rw [if_pos (List.mem_singleton.mp hj)] at ha
    exact .inl (fr a ha), kp.dm, List.length_set⟩
/-- x = e -/
def sSet (i : Nat) (f : Env → W D) : Env → W (Fl × Env) := fun δ => bd (f δ) fun d => chk (i < δ.length ∧ d.imm = true) (pu (.nx, δ.set i (some d)))
def sSetN (i : Nat) (f : Env → W D) : Env → W (Fl × Env) := fun δ => bd (f δ) fun d => chk (i < δ.length) (pu (.nx, δ.set i (some d)))
theorem tAsg_setI {i : Nat} (Dn : Ends) (σ : St) (H : Hp) (h : tS c [i] (sSet i fa) Dn σ H) : tAsg (tD c va fa) (gName i) Dn σ H := by
  obtain ⟨_, fp, δ, Qd, e, hf, k⟩ := h
  refine ⟨_, fp, δ, fun d => chk (i < δ.length ∧ d.imm = true) (pu (Fl.nx, δ.set i (some d))) Qd c.xq, e, hf, fun d qd v H' F p r => ?_⟩
  obtain ⟨⟨hi, im⟩, q⟩ := qd
  have e0 := Rp.imm_nil _ _ _ r im
  subst e0
  exact k _ _ q _ H' _ ((e.kp p.kp).setI hi r) ((Step.of_kp (w := [i]) p.kp).trans (.setI p.kp.ok))
theorem tAsg_setN {i : Nat} (Dn : Ends) (σ : St) (H : Hp) (h : tS c [i] (sSetN i fa) Dn σ H) : tAsg (tN c fa) (gName i) Dn σ H := by
  obtain ⟨_, fp, δ, Qd, e, hf, k⟩ := h
  refine ⟨_, fp, δ, fun d => chk (i < δ.length) (pu (Fl.nx, δ.set i (some d))) Qd c.xq, e, hf, fun d qd v H' F kp r fr nd => ?_⟩
  exact k _ _ qd.2 _ H' _ (e.setN kp qd.1 r fr nd) (.setN kp fr)
variable {i : Nat} {x : Str} {pos' : Pos}
theorem sd_set (hN : X.N.Nodup) (hi : X.N[i]? = some x) (hx : Loc X.env.scope x) (h : PE X e (tD c va fa)) (hs : swapsWith e (some (.Name x pos')) pos.line X.env = pure false := by rfl) (hf : X.fn x = true ∨ X.env.scope.names.lookup x = some .local := by first | exact .inl rfl | exact .inr rfl | assumption) :
    PS X (.Assign [.Name x pos'] e pos) (tS c [i] (sSet i fa)) := (ps_set hN hi hx h hs hf).wk tAsg_setI
theorem sd_setN (hN : X.N.Nodup) (hi : X.N[i]? = some x) (hx : Loc X.env.scope x) (h : PE X e (tN c fa)) (hs : swapsWith e (some (.Name x pos')) pos.line X.env = pure false := by rfl) (hf : X.fn x = true ∨ X.env.scope.names.lookup x = some .local := by first | exact .inl rfl | exact .inr rfl | assumption) :
    PS X (.Assign [.Name x pos'] e pos) (tS c [i] (sSetN i fa)) := (ps_set hN hi hx h hs hf).wk tAsg_setN
end
end DL
namespace DL
open PySem L2
section
variable {X : Cx} {c : Cd X.K} {st : Stmt} {sts : List Stmt} {w w' : List Nat} {g g' : Env → W (Fl × Env)} {e a b : Expr} {pos : Pos} {va vb : List Nat} {fa fb : Env → W D} {i : Nat} {x : Str}
/-! ### targets -/
def tG (c : Cd X.K) (w : List Nat) (h : D → Env → W Env) : TG := fun v σ H Q => ∃ n fp δ d F Qe, EnvOk c fp H σ δ n ∧ Rp c.G H v d F ∧ h d δ Qe c.xq n ∧ ∀ {n'} δ', Qe δ' n' → ∀ fp' σ', EnvOk c fp' H σ' δ' n' → Step c w fp H σ fp' H σ' → Q σ' H
def tGs (c : Cd X.K) (w : List Nat) (h : List D → Env → W Env) : TGs := fun vs σ H Q => ∃ n fp δ ds F Qe, EnvOk c fp H σ δ n ∧ RpA c.G H vs ds F ∧ h ds δ Qe c.xq n ∧ ∀ {n'} δ', Qe δ' n' → ∀ fp' σ', EnvOk c fp' H σ' δ' n' → Step c w fp H σ fp' H σ' → Q σ' H
theorem pg_wk {tg : Expr} {t t' : TG} (h : PG X tg t) (k : ∀ v σ H Q, t' v σ H Q → t v σ H Q) : PG X tg t' := ⟨fun pins s σ H v u Q I r q => h.run pins s σ H v u Q I r (k v σ H Q q)⟩
theorem pgs_wk {tg : List Expr} {t t' : TGs} (h : PGs X tg t) (k : ∀ v σ H Q, t' v σ H Q → t v σ H Q) : PGs X tg t' := ⟨fun pins s σ H v u Q I r q => h.run pins s σ H v u Q I r (k v σ H Q q)⟩
def bName (i : Nat) (d : D) (δ : Env) : W Env := chk (i < δ.length ∧ d.imm = true) (pu (δ.set i (some d)))
theorem gd_name (hN : X.N.Nodup) (hi : X.N[i]? = some x) (hx : Loc X.env.scope x) (hf : X.fn x = true ∨ X.env.scope.names.lookup x = some .local := by first | exact .inl rfl | exact .inr rfl | assumption) : PG X (.Name x pos) (tG c [i] (bName i)) :=
  pg_wk (pg_name hN hi hx hf) fun v σ H Q ⟨_, fp, δ, d, F, Qe, e, r, ⟨⟨hl, im⟩, q⟩, k⟩ => by
    have e0 := Rp.imm_nil _ _ _ r im
    subst e0
    exact k _ q _ _ (e.setI hl r) (.setI e.ok)
def bNil (ds : List D) (δ : Env) : W Env := chk (ds = []) (pu δ)
def bCons (h : D → Env → W Env) (hs : List D → Env → W Env) (ds : List D) (δ : Env) : W Env := match ds with
  | d :: r => bd (h d δ) (hs r)
  | [] => fl
theorem gds_nil : PGs X [] (tGs c [] bNil) := pgs_wk pgs_nil fun vs σ H Q ⟨_, fp, δ, ds, F, Qe, e, r, ⟨hd, q⟩, k⟩ => by
  subst hd
  cases r
  exact ⟨rfl, k _ q fp σ e (.of_kp (Kp.refl e.ok))⟩
theorem gds_cons {t : Expr} {ts : List Expr} {h : D → Env → W Env} {hs : List D → Env → W Env} (h1 : PG X t (tG c w h)) (h2 : PGs X ts (tGs c w' hs))
    (hse : (assignEach (t :: ts) X.env).map (·.2) = assign t X.env :: (assignEach ts X.env).map (·.2) := by rfl) : PGs X (t :: ts) (tGs c (w ++ w') (bCons h hs)) := pgs_wk (pgs_cons h1 h2 hse) fun vs σ H Q ⟨_, fp, δ, ds, F, Qe, e, r, q, k⟩ => by
  cases r with
  | nil => exact q.elim
  | @cons v d F1 vs ds F2 r1 r2 =>
    refine ⟨v, vs, rfl, _, fp, δ, d, F1, fun δ' => hs ds δ' Qe c.xq, e, r1, q, fun δ1 q1 fp1 σ1 e1 s1 => ?_⟩
    exact ⟨_, fp1, δ1, ds, F2, Qe, e1, r2, q1, fun δ2 q2 fp2 σ2 e2 s2 => k δ2 q2 fp2 σ2 e2 ((s1.wk fun i z => by simp [z]).trans (s2.wk fun i z => by simp [z]))⟩
def bTup (n : Nat) (hs : List D → Env → W Env) : D → Env → W Env
  | .tup ds, δ => chk (ds.length = n) (hs ds δ)
  | _, _ => fl
def bLst (n : Nat) (hs : List D → Env → W Env) : D → Env → W Env
  | .lst ds, δ => chk (ds.length = n) (hs ds δ)
  | _, _ => fl
theorem gd_tup {es : List Expr} {k n : Nat} {hs : List D → Env → W Env} (hc : X.calm = true) (h : PGs X es (tGs c w hs)) (hn : (assignEach es X.env).length = n := by rfl) (hst : (assignEach es X.env).findIdx? (·.1) = none := by rfl) : PG X (.Tuple es k pos) (tG c w (bTup n hs)) :=
  pg_wk (pg_tup hc h hn hst) fun v σ H Q ⟨_, fp, δ, d, F, Qe, e, r, q, kk⟩ => by
    unfold bTup at q
    split at q
    · obtain ⟨a, xs, rfl, sx, ax⟩ := r.tupI
      exact ⟨a, xs, rfl, sx, by rw [ax.length]; exact q.1, _, fp, δ, _, _, Qe, e, ax, q.2, kk⟩
    · exact q.elim
theorem gd_lst {es : List Expr} {k n : Nat} {hs : List D → Env → W Env} (hc : X.calm = true) (h : PGs X es (tGs c w hs)) (hn : (assignEach es X.env).length = n := by rfl) (hst : (assignEach es X.env).findIdx? (·.1) = none := by rfl) : PG X (.Tuple es k pos) (tG c w (bLst n hs)) :=
  pg_wk (pg_unl hc h hn hst) fun v σ H Q ⟨_, fp, δ, d, F, Qe, e, r, q, kk⟩ => by
    unfold bLst at q
    split at q
    · obtain ⟨a, xs, F', rfl, sx, ax, _⟩ := r.lstI
      exact ⟨a, xs, rfl, sx, by rw [ax.length]; exact q.1, _, fp, δ, _, _, Qe, e, ax, q.2, kk⟩
    · exact q.elim
/-- targets = e -/
def sAsg (f : Env → W D) (h : D → Env → W Env) : Env → W (Fl × Env) := fun δ => bd (f δ) fun d => bd (h d δ) fun δ' => pu (.nx, δ')
theorem sd_asg {tg : Expr} {h : D → Env → W Env} (he : PE X e (tD c va fa)) (hg : PG X tg (tG c w h)) (hs : swapsWithSole [tg] e pos.line X.env = pure false := by rfl) (hw : swappedStores [tg] e X.env = pure none := by rfl)
    (h1 : (assignEach [tg] X.env).map (·.2) = [assign tg X.env] := by rfl) : PS X (.Assign [tg] e pos) (tS c w (sAsg fa h)) := (ps_asg he hg hs hw h1).wk fun Dn σ H ⟨_, fp, δ, Qd, e, hf, k⟩ => by
  refine ⟨_, fp, δ, fun d => bd (h d δ) (fun δ' => pu (Fl.nx, δ')) Qd c.xq, e, hf, fun d qd v H' F p r => ?_⟩
  refine ⟨_, fp, δ, d, F, fun δ' => Qd (.nx, δ'), e.kp p.kp, r, qd, fun δ' q fp' σ' e' s' => ?_⟩
  exact k _ _ q fp' H' σ' e' ((Step.of_kp p.kp).trans s')
/-- what never changes is as good as new -/
def dImm (f : Env → W D) : Env → W D := fun δ => bd (f δ) fun d => chk (d.imm = true) (pu d)
theorem pn_imm (h : PE X e (tD c va fa)) : PE X e (tN c (dImm fa)) := h.wk fun σ H Q ⟨_, fp, δ, Qd, e, hf, k⟩ => ⟨_, fp, δ, fun d => chk (d.imm = true) (pu d) Qd c.xq, e, hf, fun d qd v H' F p r => by
  have e0 := Rp.imm_nil _ _ _ r qd.1
  subst e0
  exact k d qd.2 v H' [] p.kp r (fun _ z => nomatch z) List.nodup_nil⟩
/-- x, y = a, b -/
def sPar (i j : Nat) (f f' : Env → W D) : Env → W (Fl × Env) := fun δ => bd (f δ) fun d => bd (f' δ) fun d' => chk (i < δ.length ∧ j < δ.length) (pu (.nx, (δ.set i (some d)).set j (some d')))
/-- the reading of two new things, stored one after the other -/
theorem par_core {j : Nat} {Dn : Ends} {σ : St} {H : Hp} (h : tS c [i, j] (sPar i j fa fb) Dn σ H) : tN c fa σ H fun v H1 => tN c fb σ H1 fun v' H2 => ∃ m2, c.G.ok H2 m2 ∧ ∀ H3, Kp c.G H2 H3 m2 → Dn.nx ((σ.set i (some v)).set j (some v')) H3 := by
  obtain ⟨_, fp, δ, Qd, e, hf, k⟩ := h
  refine ⟨_, fp, δ, fun d => bd (fb δ) (fun d' => chk (i < δ.length ∧ j < δ.length) (pu (Fl.nx, (δ.set i (some d)).set j (some d')))) Qd c.xq, e, hf, fun d qd v H1 F1 kp1 r1 fr1 nd1 => ?_⟩
  refine ⟨_, fp, δ, fun d' => chk (i < δ.length ∧ j < δ.length) (pu (Fl.nx, (δ.set i (some d)).set j (some d'))) Qd c.xq, e.kp kp1, qd, fun d' ⟨⟨hi, hj⟩, q⟩ v' H2 F2 kp2 r2 fr2 nd2 => ⟨_, kp2.ok, fun H3 kp3 => ?_⟩⟩
  have e1 := e.setN kp1 hi r1 fr1 nd1
  have hj' : j < (δ.set i (some d)).length := by rw [List.length_set]; exact hj
  have n2 : ∀ a ∈ F2, a ∉ c.G.S := fun a z => notS0 kp1.ok (fr2 a z)
  have e2 := e1.setN (kp2.trans kp3) hj' (r2.kp kp3 n2) fr2 nd2
  refine k _ _ q _ H3 _ e2 ?_
  exact ((Step.setN kp1 fr1).wk fun l z => by simp [List.mem_singleton.mp z]).trans ((Step.setN (kp2.trans kp3) fr2).wk fun l z => by simp [List.mem_singleton.mp z])
theorem sd_par {j : Nat} {y : Str} {px py pt : Pos} {kt k2 pt2} (hc : X.calm = true) (hN : X.N.Nodup) (hi : X.N[i]? = some x) (hj : X.N[j]? = some y) (hij : i ≠ j) (hx : X.env.scope.names.lookup x = some .local) (hy : X.env.scope.names.lookup y = some .local)
    (ha : PE X a (tN c fa)) (hb : PE X b (tN c fb)) (hw : swappedStores [.Tuple [.Name x px, .Name y py] kt pt] (.Tuple [a, b] k2 pt2) X.env = pure (some [x, y])) (hs : swapsWithSole [.Tuple [.Name x px, .Name y py] kt pt] (.Tuple [a, b] k2 pt2) pos.line X.env = pure false := by rfl)
    (hs1 : starEach (a :: [b]) X.env = (false, eval a X.env) :: starEach [b] X.env := by rfl) (hs2 : starEach (b :: []) X.env = (false, eval b X.env) :: starEach [] X.env := by rfl) :
    PS X (.Assign [.Tuple [.Name x px, .Name y py] kt pt] (.Tuple [a, b] k2 pt2) pos) (tS c [i, j] (sPar i j fa fb)) := (ps_par hc hN hi hj hij hx hy (pa_cons ha (pa_cons hb pa_nil hs2) hs1) hw hs).wk fun Dn σ H h => by
  have q := par_core h
  obtain ⟨_, fp, δ, Qd, e, hf, k⟩ := q
  refine ⟨_, fp, δ, Qd, e, hf, fun d qd v H1 F kp r fr nd => ?_⟩
  obtain ⟨_, fp, δ, Qd, e, hf, k⟩ := k d qd v H1 F kp r fr nd
  exact ⟨_, fp, δ, Qd, e, hf, fun d qd v' H2 F kp r fr nd => ⟨v, v', rfl, let ⟨_, o2, k2⟩ := k d qd v' H2 F kp r fr nd; k2 H2 (Kp.refl o2)⟩⟩
theorem sd_parT {j : Nat} {y : Str} {px py pt : Pos} {kt k2 pt2} (hc : X.calm = true) (hN : X.N.Nodup) (hi : X.N[i]? = some x) (hj : X.N[j]? = some y) (hx : Loc X.env.scope x) (hy : Loc X.env.scope y)
    (ha : PE X a (tN c fa)) (hb : PE X b (tN c fb)) (hw : swappedStores [.Tuple [.Name x px, .Name y py] kt pt] (.Tuple [a, b] k2 pt2) X.env = pure none) (hs : swapsWithSole [.Tuple [.Name x px, .Name y py] kt pt] (.Tuple [a, b] k2 pt2) pos.line X.env = pure false := by rfl)
    (hs1 : starEach (a :: [b]) X.env = (false, eval a X.env) :: starEach [b] X.env := by rfl) (hs2 : starEach (b :: []) X.env = (false, eval b X.env) :: starEach [] X.env := by rfl)
    (hfx : X.fn x = true ∨ X.env.scope.names.lookup x = some .local := by first | exact .inl rfl | exact .inr rfl | assumption) (hfy : X.fn y = true ∨ X.env.scope.names.lookup y = some .local := by first | exact .inl rfl | exact .inr rfl | assumption) :
    PS X (.Assign [.Tuple [.Name x px, .Name y py] kt pt] (.Tuple [a, b] k2 pt2) pos) (tS c [i, j] (sPar i j fa fb)) :=
  (ps_asg (pe_tup (pa_cons ha (pa_cons hb pa_nil hs2) hs1)) (pg_tup (n := 2) hc (pgs_cons (pg_name hN hi hx hfx) (pgs_cons (pg_name hN hj hy hfy) pgs_nil))) hs hw).wk fun Dn σ H h => by
  have q := par_core h
  obtain ⟨_, fp, δ, Qd, e, hf, k⟩ := q
  refine ⟨_, fp, δ, Qd, e, hf, fun d qd v H1 F kp r fr nd => ?_⟩
  obtain ⟨_, fp, δ, Qd, e, hf, k⟩ := k d qd v H1 F kp r fr nd
  refine ⟨_, fp, δ, Qd, e, hf, fun d qd v' H2 F kp r fr nd => ⟨by show 2 ≤ sizeLine; decide, fun p hp => ?_⟩⟩
  exact ⟨p, [v, v'], rfl, SqT.of upd_same, rfl, v, [v'], rfl, v', [], rfl, rfl, let ⟨_, o2, k2⟩ := k d qd v' H2 F kp r fr nd; k2 _ (Kp.laid o2 hp _)⟩

/-! ### lists of one's own, written -/
/-- the list that a slot holds -/
def lsA (δ : Env) (i : Nat) : Option (List D) := match gt δ i with
  | some (.lst ds) => some ds
  | _ => none
theorem lsA_eq {δ : Env} {ds : List D} (h : lsA δ i = some ds) : gt δ i = some (.lst ds) := by
  unfold lsA at h
  split at h
  · rename_i q
    cases h
    exact q
  · cases h
theorem EnvOk.lst {fp : Nat → List Addr} {H : Hp} {σ : St} {δ : Env} {ds : List D} {m0 : Nat} (e : EnvOk c fp H σ δ m0) (h : lsA δ i = some ds) (im : D.imms ds = true) : ∃ l xs, σ[i]? = some (some (.ref l)) ∧ H l = some (.lst xs) ∧ RpA c.G H xs ds [] ∧ fp i = [l] := by
  obtain ⟨v, hv, r⟩ := e.rep i _ (lsA_eq h)
  generalize hF : fp i = F at r
  cases r with
  | lst ex ax =>
    have e0 := RpA.imm_nil _ _ _ ax im
    subst e0
    exact ⟨_, _, hv, ex, ax, rfl⟩
/-- a store into such a list -/
theorem EnvOk.wr {fp : Nat → List Addr} {H : Hp} {σ : St} {δ : Env} {l : Addr} {xs xs' : List V} {ds ds' : List D} {m0 : Nat} (e : EnvOk c fp H σ δ m0) (ho : i ∈ c.own) (hg : lsA δ i = some ds) (hσ : σ[i]? = some (some (.ref l))) (hl : H l = some (.lst xs)) (hf : fp i = [l]) (r : RpA c.G H xs' ds' []) :
    EnvOk c fp (upd H l (.lst xs')) σ (δ.set i (some (.lst ds'))) m0 ∧ Step c [i] fp H σ fp (upd H l (.lst xs')) σ := by
  have li : l ∈ fp i := by rw [hf]; simp
  have lS := e.nos i l li
  have hi : i < δ.length := by
    rw [← e.len]
    exact (List.getElem?_eq_some_iff.mp hσ).1
  have hd : ∀ {F : List Addr}, l ∉ F → Hd c.G F H (upd H l (.lst xs')) := fun {F} n => ⟨⟨_, e.ok⟩, fun b o q m => by
    rw [upd_ne (fun z => m (by rw [z, hl] at q; cases q; trivial))]; exact q, fun b o q hb => by rw [upd_ne (fun z : b = l => n (by rw [← z]; exact hb))]; exact q⟩
  have okl : c.G.ok (upd H l (.lst xs')) m0 := c.G.loc H _ _ e.ok (fun b hb => upd_ne fun z => lS (z ▸ hb)) fun b o q m => by rw [upd_ne (fun z => m (by rw [z, hl] at q; cases q; trivial))]; exact q
  refine ⟨⟨okl, by rw [List.length_set]; exact e.len, fun j d q => ?_, fun j q => ?_, e.nos, e.frs, e.ndp, e.sep, fun b o q n => ?_⟩, ⟨fun _ _ => ⟨rfl, rfl⟩, fun b o q n hb => ?_, fun j hj ho a ha => .inr ⟨j, hj, ho, ha⟩, fun b q => ?_, rfl⟩⟩
  · rw [gt_set hi] at q
    by_cases h : j = i
    · subst h
      rw [if_pos rfl] at q
      cases q
      refine ⟨_, hσ, ?_⟩
      rw [hf]
      exact .lst upd_same (RpA.hd _ _ _ r (hd (fun z => nomatch z)))
    · rw [if_neg h] at q
      obtain ⟨v, hv, rv⟩ := e.rep j d q
      exact ⟨v, hv, Rp.hd _ _ _ rv (hd (e.sep i ho j h l li))⟩
  · rw [gt_set hi] at q
    by_cases h : j = i
    · rw [if_pos h] at q; cases q
    · rw [if_neg h] at q; exact e.emp j q
  · rw [upd_ne fun z => by
      have := e.frs i ho l li
      rw [z, this] at q
      cases q]
    exact e.frm b o q n
  · rw [upd_ne (fun z : b = l => hb i (by simp) ho (by rw [z]; exact li))]
    exact q
  · by_cases h : b = l
    · rw [h, upd_same]; exact fun z => nomatch z
    · rw [upd_ne h]; exact q
variable {o : Expr} {cpos apos : Pos}
/-- xs.append(e) -/
def sApp (i : Nat) (f : Env → W D) : Env → W (Fl × Env) := fun δ => opt (lsA δ i) fun ds => bd (f δ) fun d => chk (D.imms ds = true ∧ d.imm = true ∧ ds.length < sizeLine) (pu (.nx, δ.set i (some (.lst (ds ++ [d])))))
theorem imms_app : ∀ {ds ds' : List D}, D.imms ds = true → D.imms ds' = true → D.imms (ds ++ ds') = true
  | [], _, _, h => h
  | d :: ds, _, h, h' => by
    simp only [D.imms, Bool.and_eq_true] at h
    simp only [List.cons_append, D.imms, Bool.and_eq_true]
    exact ⟨h.1, imms_app h.2 h'⟩
theorem app_core {Dn : Ends} {σ : St} {H : Hp} (ho : i ∈ c.own) (h : tS c [i] (sApp i fa) Dn σ H) : tDrop (tBM X.K "list" rAppend (tVar i) (tCons (tD c va fa) tNil)) Dn σ H := by
  obtain ⟨_, fp, δ, Qd, e, ⟨ds, hds, hf⟩, k⟩ := h
  obtain ⟨v, hv, r⟩ := e.rep i _ (lsA_eq hds)
  obtain ⟨l, xs0, _, rfl, sx, _, _⟩ := r.lstI
  refine ⟨_, hv, .inl ⟨rfl, _, sx⟩, _, fp, δ, fun d => chk (D.imms ds = true ∧ d.imm = true ∧ ds.length < sizeLine) (pu (Fl.nx, δ.set i (some (.lst (ds ++ [d]))))) Qd c.xq, e, hf, fun d ⟨⟨im, imd, sz⟩, q⟩ u H' F p ru => ?_⟩
  have e0 := Rp.imm_nil _ _ _ ru imd
  subst e0
  have e1 := e.kp p.kp
  obtain ⟨l', xs, hσ, hl, ax, hfp⟩ := e1.lst hds im
  have el : l' = l := by rw [hσ] at hv; cases hv; rfl
  subst el
  refine ⟨l', xs, u, rfl, rfl, hl, by rw [ax.length]; exact sz, ?_⟩
  have ax2 : RpA c.G H' (xs ++ [u]) (ds ++ [d]) [] := by simpa using ax.append (.cons ru .nil)
  obtain ⟨e2, s2⟩ := e1.wr ho hds hσ hl hfp ax2
  exact k _ _ q _ _ _ e2 ((Step.of_kp p.kp).trans s2)
end
end DL
namespace DL
open PySem L2
section
variable {X : Cx} {c : Cd X.K} {st : Stmt} {sts : List Stmt} {w w' : List Nat} {g g' : Env → W (Fl × Env)} {e a b o : Expr} {pos cpos apos : Pos} {va vb : List Nat} {fa fb : Env → W D} {i j : Nat} {x : Str}
/-- xs.append(e) -/
theorem sd_app (i : Nat) (ho : i ∈ c.own) (hv : PE X o (tVar i)) (ha : PE X a (tD c va fa)) (hbase : attributeBase o "append" X.env (eval o X.env) = eval o X.env := by rfl)
    (hfew : ((backTo cpos (starEach (a :: []) X.env)).all (fun x => !x.1) && (backToKw cpos (keywordEach [] X.env)).all (fun x => x.1.isSome) && decide ((a :: ([] : List Expr)).length + ([] : List Keyword).length + (if ([] : List Keyword).isEmpty then 0 else 1) < 30)) = true := by rfl)
    (hline : (apos.endLine == cpos.line) = true := by rfl) (hs1 : starEach (a :: []) X.env = (false, eval a X.env) :: starEach [] X.env := by rfl) (hpl : (backTo cpos (starEach ([] : List Expr) X.env)).any (·.1) = false := by rfl)
    (hs : swapsWith (.Call (.Attribute o "append" apos) [a] [] cpos) none pos.line X.env = pure false := by rfl) : PS X (.Expr (.Call (.Attribute o "append" apos) [a] [] cpos) pos) (tS c [i] (sApp i fa)) :=
  (ps_expr (pe_bm PySem.F.plainAttrs_list PySem.F.slot_list_append PySem.F.type_list_append mt_append hv (pa_cons ha pa_nil hs1) hbase hfew hline hs1 hpl) hs).wk fun Dn σ H h => app_core ho h
/-- xs.extend(e), e a new list -/
def lsD : D → Option (List D)
  | .lst ds => some ds
  | _ => none
def sExt (i : Nat) (f : Env → W D) : Env → W (Fl × Env) := fun δ => opt (lsA δ i) fun ds => bd (f δ) fun d => opt (lsD d) fun ds' => chk (D.imms ds = true ∧ D.imms ds' = true ∧ ds.length + ds'.length ≤ sizeLine) (pu (.nx, δ.set i (some (.lst (ds ++ ds')))))
theorem sd_ext (i : Nat) (ho : i ∈ c.own) (hv : PE X o (tVar i)) (ha : PE X a (tN c fa)) (hbase : attributeBase o "extend" X.env (eval o X.env) = eval o X.env := by rfl)
    (hfew : ((backTo cpos (starEach (a :: []) X.env)).all (fun x => !x.1) && (backToKw cpos (keywordEach [] X.env)).all (fun x => x.1.isSome) && decide ((a :: ([] : List Expr)).length + ([] : List Keyword).length + (if ([] : List Keyword).isEmpty then 0 else 1) < 30)) = true := by rfl)
    (hline : (apos.endLine == cpos.line) = true := by rfl) (hs1 : starEach (a :: []) X.env = (false, eval a X.env) :: starEach [] X.env := by rfl) (hpl : (backTo cpos (starEach ([] : List Expr) X.env)).any (·.1) = false := by rfl)
    (hs : swapsWith (.Call (.Attribute o "extend" apos) [a] [] cpos) none pos.line X.env = pure false := by rfl) : PS X (.Expr (.Call (.Attribute o "extend" apos) [a] [] cpos) pos) (tS c [i] (sExt i fa)) :=
  (ps_expr (pe_bm PySem.F.plainAttrs_list PySem.F.slot_list_extend PySem.F.type_list_extend mt_extend hv (pa_cons ha pa_nil hs1) hbase hfew hline hs1 hpl) hs).wk fun Dn σ H ⟨_, fp, δ, Qd, e, ⟨ds, hds, hf⟩, k⟩ => by
    obtain ⟨v, hv, r⟩ := e.rep i _ (lsA_eq hds)
    obtain ⟨l, xs0, _, rfl, sx, _, _⟩ := r.lstI
    refine ⟨_, hv, .inl ⟨rfl, _, sx⟩, _, fp, δ, fun d => opt (lsD d) (fun ds' => chk (D.imms ds = true ∧ D.imms ds' = true ∧ ds.length + ds'.length ≤ sizeLine) (pu (Fl.nx, δ.set i (some (.lst (ds ++ ds')))))) Qd c.xq, e, hf, fun d ⟨ds', hd', ⟨im, imd, sz⟩, q⟩ u H' F kp ru fr nd => ?_⟩
    have ed : d = .lst ds' := by
      unfold lsD at hd'
      split at hd'
      · cases hd'; rfl
      · cases hd'
    subst ed
    cases ru with
    | @lst b zs _ F' eb ab =>
      have e0 := RpA.imm_nil _ _ _ ab imd
      subst e0
      have e1 := e.kp kp
      obtain ⟨l', xs, hσ, hl, ax, hfp⟩ := e1.lst hds im
      have el : l' = l := by rw [hσ] at hv; cases hv; rfl
      subst el
      refine ⟨l', b, xs, zs, rfl, rfl, hl, eb, by rw [ax.length, ab.length]; exact sz, ?_⟩
      have ax2 : RpA c.G H' (xs ++ zs) (ds ++ ds') [] := by simpa using ax.append ab
      obtain ⟨e2, s2⟩ := e1.wr ho hds hσ hl hfp ax2
      exact k _ _ q _ _ _ e2 ((Step.of_kp kp).trans s2)
/-- xs[k] = e -/
def sPut (i : Nat) (fk f : Env → W D) : Env → W (Fl × Env) := fun δ => bd (f δ) fun d => opt (lsA δ i) fun ds => bd (fk δ) fun kd => bd (asI kd) fun k => opt (ixN ds.length k) fun j => chk (D.imms ds = true ∧ d.imm = true) (pu (.nx, δ.set i (some (.lst (ds.set j d)))))
theorem RpA.put {G : Gx X.K} {H : Hp} {v : V} {d : D} (r : Rp G H v d []) : ∀ (j : Nat) {ds : List D} {xs : List V}, RpA G H xs ds [] → RpA G H (xs.set j v) (ds.set j d) []
  | _, [], _, h => by cases h; exact .nil
  | 0, d' :: ds, _, h => by
    generalize hF : ([] : List Addr) = F at h
    cases h with
    | cons h1 h2 =>
      obtain ⟨e1, e2⟩ := List.append_eq_nil_iff.mp hF.symm
      subst e1 e2
      exact .cons r h2
  | j + 1, d' :: ds, _, h => by
    generalize hF : ([] : List Addr) = F at h
    cases h with
    | cons h1 h2 =>
      obtain ⟨e1, e2⟩ := List.append_eq_nil_iff.mp hF.symm
      subst e1 e2
      exact .cons h1 (RpA.put r j h2)
theorem sd_put (i : Nat) (ho : i ∈ c.own) (hv : PE X o (tVar i)) (hk : PE X b (tD c vb fb)) (ha : PE X a (tD c va fa))
    (hsub : ∀ v, assign (.Subscript o b cpos) X.env v = (do
      let ov ← holding [v] (eval o X.env)
      let iv ← holding [v, ov] (eval b X.env)
      standAt cpos
      holding [v, ov, iv] (setItem ov iv v)
      release [v, ov, iv] []) := by intro _; rfl)
    (hs : swapsWithSole [.Subscript o b cpos] a pos.line X.env = pure false := by rfl) (hw : swappedStores [.Subscript o b cpos] a X.env = pure none := by rfl) (h1 : (assignEach [.Subscript o b cpos] X.env).map (·.2) = [assign (.Subscript o b cpos) X.env] := by rfl) :
    PS X (.Assign [.Subscript o b cpos] a pos) (tS c [i] (sPut i fb fa)) := (ps_asg ha (pg_sub hv hk set_list hsub) hs hw h1).wk fun Dn σ H ⟨_, fp, δ, Qd, e, hf, k⟩ => by
  refine ⟨_, fp, δ, fun d => opt (lsA δ i) (fun ds => bd (fb δ) fun kd => bd (asI kd) fun k => opt (ixN ds.length k) fun j => chk (D.imms ds = true ∧ d.imm = true) (pu (Fl.nx, δ.set i (some (.lst (ds.set j d)))))) Qd c.xq, e, hf, fun d ⟨ds, hds, qd⟩ u H1 F1 p1 ru => ?_⟩
  have e1 := e.kp p1.kp
  obtain ⟨v, hv, r⟩ := e1.rep i _ (lsA_eq hds)
  obtain ⟨l, xs0, _, rfl, sx, _, _⟩ := r.lstI
  refine ⟨_, hv, _, fp, δ, fun kd => bd (asI kd) (fun k => opt (ixN ds.length k) fun j => chk (D.imms ds = true ∧ d.imm = true) (pu (Fl.nx, δ.set i (some (.lst (ds.set j d)))))) Qd c.xq, e1, qd, fun kd qk y H2 F2 p2 ry => ?_⟩
  cases ry with
  | int n =>
    obtain ⟨m, hm, ⟨im, imd⟩, q⟩ := qk
    have e0 := Rp.imm_nil _ _ _ ru imd
    subst e0
    have e2 := e1.kp p2.kp
    obtain ⟨l', xs, hσ, hl, ax, hfp⟩ := e2.lst hds im
    have el : l' = l := by rw [hσ] at hv; cases hv; rfl
    subst el
    refine ⟨l', xs, n, m, rfl, rfl, hl, by rw [ax.length]; exact hm, ?_⟩
    obtain ⟨e3, s3⟩ := e2.wr ho hds hσ hl hfp (ax.put (ru.kp p2.kp (fun _ z => nomatch z)) m)
    exact k _ _ q _ _ _ e3 ((Step.of_kp (p1.kp.trans p2.kp)).trans s3)
  | _ => exact qk.elim
/-- xs.append(ys.pop(e)) -/
def popAt (es : List D) (kd : D) (kk : List D → D → W (Fl × Env)) : W (Fl × Env) := bd (asI kd) fun k => opt (seqIndex? k es.length) fun m => opt es[m]? fun d => chk (D.imms es = true ∧ -(2 ^ 63) ≤ k ∧ k < 2 ^ 63) (kk (es.eraseIdx m) d)
def sAppPop (i j : Nat) (f : Env → W D) : Env → W (Fl × Env) := fun δ => opt (lsA δ i) fun ds => opt (lsA δ j) fun es => bd (f δ) fun kd => popAt es kd fun es' d => chk (D.imms ds = true ∧ ds.length < sizeLine) (pu (.nx, (δ.set j (some (.lst es'))).set i (some (.lst (ds ++ [d])))))
theorem RpA.erase {G : Gx X.K} {H : Hp} : ∀ (j : Nat) {ds : List D} {xs : List V}, RpA G H xs ds [] → RpA G H (xs.eraseIdx j) (ds.eraseIdx j) []
  | _, [], _, h => by cases h; exact .nil
  | 0, d' :: ds, _, h => by
    generalize hF : ([] : List Addr) = F at h
    cases h with
    | cons h1 h2 =>
      obtain ⟨e1, e2⟩ := List.append_eq_nil_iff.mp hF.symm
      subst e1 e2
      exact h2
  | j + 1, d' :: ds, _, h => by
    generalize hF : ([] : List Addr) = F at h
    cases h with
    | cons h1 h2 =>
      obtain ⟨e1, e2⟩ := List.append_eq_nil_iff.mp hF.symm
      subst e1 e2
      exact .cons h1 (RpA.erase j h2)
theorem lsA_ne {δ : Env} {o : Option D} (hj : j < δ.length) (h : i ≠ j) : lsA (δ.set j o) i = lsA δ i := by
  unfold lsA
  rw [gt_set hj, if_neg h]
theorem lsA_lt {δ : Env} {ds : List D} (h : lsA δ i = some ds) : i < δ.length := by
  have q := lsA_eq h
  unfold gt at q
  cases e : δ[i]? with
  | none => rw [e] at q; cases q
  | some z => exact (List.getElem?_eq_some_iff.mp e).1
theorem sd_appPop (i j : Nat) (hij : i ≠ j) (ho : i ∈ c.own) (hoj : j ∈ c.own) {o2 : Expr} {cpos2 apos2 : Pos} (hv : PE X o (tVar i)) (hv2 : PE X o2 (tVar j)) (ha : PE X a (tD c va fa)) (hbase : attributeBase o "append" X.env (eval o X.env) = eval o X.env := by rfl) (hbase2 : attributeBase o2 "pop" X.env (eval o2 X.env) = eval o2 X.env := by rfl)
    (hfew : ((backTo cpos (starEach (.Call (.Attribute o2 "pop" apos2) [a] [] cpos2 :: []) X.env)).all (fun x => !x.1) && (backToKw cpos (keywordEach [] X.env)).all (fun x => x.1.isSome) && decide ((Expr.Call (.Attribute o2 "pop" apos2) [a] [] cpos2 :: ([] : List Expr)).length + ([] : List Keyword).length + (if ([] : List Keyword).isEmpty then 0 else 1) < 30)) = true := by rfl)
    (hfew2 : ((backTo cpos2 (starEach (a :: []) X.env)).all (fun x => !x.1) && (backToKw cpos2 (keywordEach [] X.env)).all (fun x => x.1.isSome) && decide ((a :: ([] : List Expr)).length + ([] : List Keyword).length + (if ([] : List Keyword).isEmpty then 0 else 1) < 30)) = true := by rfl)
    (hline : (apos.endLine == cpos.line) = true := by rfl) (hline2 : (apos2.endLine == cpos2.line) = true := by rfl) (hs1 : starEach (.Call (.Attribute o2 "pop" apos2) [a] [] cpos2 :: []) X.env = (false, eval (.Call (.Attribute o2 "pop" apos2) [a] [] cpos2) X.env) :: starEach [] X.env := by rfl) (hs2 : starEach (a :: []) X.env = (false, eval a X.env) :: starEach [] X.env := by rfl)
    (hpl : (backTo cpos (starEach ([] : List Expr) X.env)).any (·.1) = false := by rfl) (hpl2 : (backTo cpos2 (starEach ([] : List Expr) X.env)).any (·.1) = false := by rfl)
    (hs : swapsWith (.Call (.Attribute o "append" apos) [.Call (.Attribute o2 "pop" apos2) [a] [] cpos2] [] cpos) none pos.line X.env = pure false := by rfl) : PS X (.Expr (.Call (.Attribute o "append" apos) [.Call (.Attribute o2 "pop" apos2) [a] [] cpos2] [] cpos) pos) (tS c [i, j] (sAppPop i j fa)) :=
  (ps_expr (pe_bm PySem.F.plainAttrs_list PySem.F.slot_list_append PySem.F.type_list_append mt_append hv (pa_cons (pe_bm PySem.F.plainAttrs_list PySem.F.slot_list_pop PySem.F.type_list_pop mt_popAt hv2 (pa_cons ha pa_nil hs2) hbase2 hfew2 hline2 hs2 hpl2) pa_nil hs1) hbase hfew hline hs1 hpl) hs).wk fun Dn σ H ⟨_, fp, δ, Qd, e, ⟨ds, hds, es, hes, hf⟩, k⟩ => by
    obtain ⟨v, hv, r⟩ := e.rep i _ (lsA_eq hds)
    obtain ⟨l, xs0, _, rfl, sx, _, _⟩ := r.lstI
    obtain ⟨v2, hv2, r2⟩ := e.rep j _ (lsA_eq hes)
    obtain ⟨l2, ys0, _, rfl, sy, _, _⟩ := r2.lstI
    refine ⟨_, hv, .inl ⟨rfl, _, sx⟩, _, hv2, .inl ⟨rfl, _, sy⟩, _, fp, δ, fun kd => popAt es kd (fun es' d => chk (D.imms ds = true ∧ ds.length < sizeLine) (pu (Fl.nx, (δ.set j (some (.lst es'))).set i (some (.lst (ds ++ [d])))))) Qd c.xq, e, hf, fun kd qk u H' F p ru => ?_⟩
    cases ru with
    | int n =>
      obtain ⟨m, hm, d, hd, ⟨ime, n1, n2⟩, ⟨imd, sz⟩, q⟩ := qk
      have e1 := e.kp p.kp
      obtain ⟨l2', ys, hσ2, hl2, ay, hfp2⟩ := e1.lst hes ime
      have el : l2' = l2 := by rw [hσ2] at hv2; cases hv2; rfl
      subst el
      obtain ⟨y, F', hy, ry, sF⟩ := ay.get hd
      have e0 : F' = [] := List.eq_nil_iff_forall_not_mem.mpr fun a z => nomatch sF a z
      subst e0
      obtain ⟨e2, s2⟩ := e1.wr hoj hes hσ2 hl2 hfp2 (ay.erase m)
      have hds2 : lsA (δ.set j (some (.lst (es.eraseIdx m)))) i = some ds := by rw [lsA_ne (lsA_lt hes) hij]; exact hds
      obtain ⟨l', xs, hσ, hl, ax, hfp⟩ := e2.lst hds2 imd
      have el : l' = l := by rw [hσ] at hv; cases hv; rfl
      subst el
      refine ⟨l2', ys, n, m, y, rfl, rfl, hl2, n1, n2, by rw [ay.length]; exact hm, hy, ?_⟩
      refine ⟨l', xs, y, rfl, rfl, hl, by rw [ax.length]; exact sz, ?_⟩
      have ry2 : Rp c.G (upd H' l2' (.lst (ys.eraseIdx m))) y d [] := Rp.hd _ _ _ ry ⟨⟨_, e1.ok⟩, fun b o q mm => by
        rw [upd_ne (fun z : b = l2' => mm (by rw [z, hl2] at q; cases q; trivial))]; exact q, fun _ _ _ z => nomatch z⟩
      have ax2 : RpA c.G (upd H' l2' (.lst (ys.eraseIdx m))) (xs ++ [y]) (ds ++ [d]) [] := by simpa using ax.append (.cons ry2 .nil)
      obtain ⟨e3, s3⟩ := e2.wr ho hds2 hσ hl hfp ax2
      exact k _ _ q _ _ _ e3 (((Step.of_kp p.kp).trans (s2.wk fun l z => by simp [List.mem_singleton.mp z])).trans (s3.wk fun l z => by simp [List.mem_singleton.mp z]))
    | _ => exact qk.elim

/-! ### while, for -/
def again (k : Env → W (Fl × Env)) : Fl × Env → W (Fl × Env)
  | (.nx, δ) => k δ
  | (.ct, δ) => k δ
  | (.bk, δ) => pu (.nx, δ)
  | (.rt d, δ) => pu (.rt d, δ)
def whN (t : Env → W Bool) (g : Env → W (Fl × Env)) : Nat → Env → W (Fl × Env)
  | 0, _ => fl
  | n + 1, δ => bd (t δ) fun b => if b = true then bd (g δ) (again (whN t g n)) else pu (.nx, δ)
def sWh (t : Env → W Bool) (g : Env → W (Fl × Env)) : Env → W (Fl × Env) := fun δ Q X m => ∃ n, whN t g n δ Q X m
theorem sd_while {t : Env → W Bool} {ec : Expr} (hp : PassesOwn (model X.prog X.w) X.A X.env X.xe) (hc : PT X ec (tT c t)) (hb : PSs X sts (tS c w g)) : PS X (.While ec sts [] pos) (tS c w (sWh t g)) := (ps_while hp hc hb).wk fun Dn σ H ⟨_, fp, δ, Qd, e, ⟨n, hf⟩, k⟩ => by
  refine ⟨fun m σ1 H1 => ∃ k1 fp1 δ1, EnvOk c fp1 H1 σ1 δ1 k1 ∧ Step c w fp H σ fp1 H1 σ1 ∧ whN t g m δ1 Qd c.xq k1, ⟨n, _, fp, δ, e, .of_kp (Kp.refl e.ok), hf⟩, ?_⟩
  rintro m σ1 H1 ⟨_, fp1, δ1, e1, s1, h1⟩
  cases m with
  | zero => exact h1.elim
  | succ m =>
    refine ⟨_, fp1, δ1, fun b => (if b = true then bd (g δ1) (again (whN t g m)) else pu (Fl.nx, δ1)) Qd c.xq, e1, h1, fun b qb H2 kp => ?_⟩
    have s2 := s1.trans (.of_kp (w := w) kp)
    cases b with
    | false => exact k _ _ qb fp1 H2 σ1 (e1.kp kp) s2
    | true =>
      refine ⟨fun σ' H' => ∃ k1 fp' δ', EnvOk c fp' H' σ' δ' k1 ∧ Step c w fp H σ fp' H' σ' ∧ whN t g m δ' Qd c.xq k1, fun σ' H' q => ⟨m, Nat.lt_succ_self m, q⟩, _, fp1, δ1, fun r => again (whN t g m) r Qd c.xq, e1.kp kp, qb, fun f δ' q => ?_⟩
      cases f with
      | nx => exact fun fp' H' σ' e' s' => ⟨_, fp', δ', e', s2.trans s', q⟩
      | ct => exact fun fp' H' σ' e' s' => ⟨_, fp', δ', e', s2.trans s', q⟩
      | bk => exact fun fp' H' σ' e' s' => k _ _ q fp' H' σ' e' (s2.trans s')
      | rt d => exact k _ _ q
mutual
theorem Rp.mt {K : PySem.W.Frag} {G : Gx K} {H : Hp} : ∀ (d : D) (v : V) (F : List Addr), Rp G H v d F → ∀ a ∈ F, Mut (H a)
  | .non, _, _, h, _, z => by cases h; cases z
  | .bl _, _, _, h, _, z => by cases h; cases z
  | .int _, _, _, h, _, z => by cases h; cases z
  | .str _, _, _, h, _, z => by cases h; cases z
  | .src, _, _, h, _, z => by cases h; cases z
  | .ty _, _, _, h, _, z => by cases h; cases z
  | .ref _, _, _, h, _, z => by cases h; cases z
  | .frz _, _, _, h, _, z => by cases h; cases z
  | .lst ds, _, _, h, b, z => by
    cases h with
    | lst e ha =>
      rcases List.mem_cons.mp z with q | q
      · rw [q, e]; trivial
      · exact RpA.mt ds _ _ ha b q
  | .tup ds, _, _, h, b, z => by
    cases h with
    | tup e ha => exact RpA.mt ds _ _ ha b z
  | .dic ks ds, _, _, h, b, z => by
    cases h with
    | dic e ha =>
      rcases List.mem_cons.mp z with q | q
      · rw [q, e]; trivial
      · exact RpA.mt ds _ _ ha b q
  | .dtt ks ds, _, _, h, b, z => by
    cases h with
    | dtt e ha =>
      rcases List.mem_cons.mp z with q | q
      · rw [q, e]; trivial
      · exact RpA.mt ds _ _ ha b q
theorem RpA.mt {K : PySem.W.Frag} {G : Gx K} {H : Hp} : ∀ (ds : List D) (vs : List V) (F : List Addr), RpA G H vs ds F → ∀ a ∈ F, Mut (H a)
  | [], _, _, h, _, z => by cases h; cases z
  | d :: ds, _, _, h, b, z => by
    cases h with
    | cons h1 h2 =>
      rcases List.mem_append.mp z with q | q
      · exact Rp.mt d _ _ h1 b q
      · exact RpA.mt ds _ _ h2 b q
end
/-- from H1 on: what can't be written, and what stands at F, stands -/
def Hs (F : List Addr) (H1 H : Hp) : Prop := ∀ b o, H1 b = some o → (¬ Mut (some o) ∨ b ∈ F) → H b = some o
structure ItOk (G : Gx X.K) (J : It) (ds : List D) (F : List Addr) (H1 : Hp) : Prop where
  go : ∀ i H, Hs F H1 H → i < ds.length → J.go i H
  stop : ∀ H, Hs F H1 H → J.stop ds.length H
  yld : ∀ {m : Nat} i H x H', Hs F H1 H → G.ok H m → i < ds.length → J.yld i H x H' → Kp G H H' m ∧ ∃ d, ds[i]? = some d ∧ Rp G H' x d []
def tI (c : Cd X.K) (vs : List Nat) (f : Env → W (List D)) : TI := fun σ H R => ∃ n fp δ Qd, EnvOk c fp H σ δ n ∧ f δ Qd c.xq n ∧ ∀ {n'} ds, Qd ds n' → ∀ J H1 F, Post c vs fp H H1 F n' → ItOk c.G J ds F H1 → R J H1
def forW (h : D → Env → W Env) (g : Env → W (Fl × Env)) : List D → Env → W (Fl × Env)
  | [], δ => pu (.nx, δ)
  | d :: ds, δ => bd (h d δ) fun δ1 => bd (g δ1) (again (forW h g ds))
def sFor (fi : Env → W (List D)) (h : D → Env → W Env) (g : Env → W (Fl × Env)) : Env → W (Fl × Env) := fun δ => bd (fi δ) fun ds => forW h g ds δ
theorem sd_for {fi : Env → W (List D)} {h : D → Env → W Env} {tg iter : Expr} {vs : List Nat} (hp : PassesOwn (model X.prog X.w) X.A X.env X.xe) (hc : X.calm = true) (hi : PI X tg iter (tI c vs fi)) (hg : PG X tg (tG c w h)) (hb : PSs X sts (tS c w' g)) (hd : ∀ j ∈ vs, j ∉ w ++ w')
    (hs : ∀ x, foldedSetIterable iter X.env x = pure x := by intro _; rfl) : PS X (.For tg iter sts [] pos) (tS c (w ++ w') (sFor fi h g)) := (ps_for hp hc hi hg hb hs).wk fun Dn σ H ⟨_, fp, δ, Qd, e, hf, k⟩ => by
  refine ⟨_, fp, δ, fun ds => forW h g ds δ Qd c.xq, e, hf, fun ds qds J H1 F p it => ?_⟩
  have e1 := e.kp p.kp
  have s1 : Step c (w ++ w') fp H σ fp H1 σ := .of_kp p.kp
  have stab : ∀ {fp' : Nat → List Addr} {σ' : St} {H' : Hp}, Step c (w ++ w') fp H1 σ fp' H' σ' → Hs F H1 H' := fun {fp' σ' H'} s b o q m => by
    refine s.kp b o q ?_ fun l hl ho hb => ?_
    · rcases m with m | m
      · exact notS p.kp.ok q m
      · exact p.nos b m
    · rcases m with m | m
      · obtain ⟨v, _, r⟩ : ∃ d v, Rp c.G H1 v d (fp l) := by
          cases z : gt δ l with
          | none => rw [e1.emp l z] at hb; cases hb
          | some d => obtain ⟨v, _, r⟩ := e1.rep l d z; exact ⟨d, v, r⟩
        have := Rp.mt _ _ _ r b hb
        rw [q] at this
        exact m this
      · rcases p.pv b m with z | ⟨j, hj, z⟩
        · exact e.dom l b hb z
        · exact e1.sep l ho j (fun q => hd j hj (q ▸ hl)) b hb z
  refine ⟨fun i m σ1 H' => m = ds.length - i ∧ i ≤ ds.length ∧ ∃ k1 fp1 δ1, EnvOk c fp1 H' σ1 δ1 k1 ∧ Step c (w ++ w') fp H1 σ fp1 H' σ1 ∧ forW h g (ds.drop i) δ1 Qd c.xq k1, ⟨ds.length, rfl, Nat.zero_le _, _, fp, δ, e1, .of_kp (Kp.refl e1.ok), qds⟩, ?_⟩
  rintro i m σ1 H' ⟨rfl, hi, _, fp1, δ1, e2, s2, q⟩
  have st := stab s2
  by_cases hlt : i < ds.length
  · refine .inr ⟨it.go i H' st hlt, fun σ' H2 => ∃ k1 fp' δ', EnvOk c fp' H2 σ' δ' k1 ∧ Step c (w ++ w') fp H1 σ fp' H2 σ' ∧ forW h g (ds.drop (i + 1)) δ' Qd c.xq k1, fun σ' H2 z => ⟨ds.length - (i + 1), by omega, rfl, hlt, z⟩, fun x H2 y => ?_⟩
    obtain ⟨kp, d, hd', r⟩ := it.yld i H' x H2 st e2.ok hlt y
    have ed : ds.drop i = d :: ds.drop (i + 1) := by
      have := List.drop_eq_getElem_cons hlt
      rw [this]
      congr 1
      have q2 := List.getElem?_eq_getElem hlt
      rw [q2] at hd'
      exact Option.some.inj hd'
    rw [ed] at q
    have s3 := s2.trans (.of_kp (w := w ++ w') kp)
    refine ⟨_, fp1, δ1, d, [], fun δ2 => bd (g δ2) (again (forW h g (ds.drop (i + 1)))) Qd c.xq, e2.kp kp, r, q, fun δ2 q2 fp2 σ2 e3 s4 => ?_⟩
    have s5 := s3.trans (s4.wk fun l z => by simp [z])
    refine ⟨_, fp2, δ2, fun r => again (forW h g (ds.drop (i + 1))) r Qd c.xq, e3, q2, fun f δ' q3 => ?_⟩
    cases f with
    | nx => exact fun fp' H3 σ' e' s' => ⟨_, fp', δ', e', s5.trans (s'.wk fun l z => by simp [z]), q3⟩
    | ct => exact fun fp' H3 σ' e' s' => ⟨_, fp', δ', e', s5.trans (s'.wk fun l z => by simp [z]), q3⟩
    | bk => exact fun fp' H3 σ' e' s' => k _ _ q3 fp' H3 σ' e' (s1.trans (s5.trans (s'.wk fun l z => by simp [z])))
    | rt d => exact k _ _ q3
  · have ei : i = ds.length := by omega
    subst ei
    rw [List.drop_length] at q
    exact .inl ⟨it.stop H' st, k _ _ q fp1 H' σ1 e2 (s1.trans s2)⟩
end
end DL
/-! enumerate of a tuple -/
namespace PySem
open Sem (wp)
theorem en1_tuple (l : Addr) (items : Array Value) (n : Nat) (dct : Option Addr) (sl : Array (Option Value)) :
    Meets (Builtin.«enumerate.__new__» ⟨[.type "enumerate", .ref l], []⟩) (fun _ R s => s.heap.get? l = some { cls := .type "tuple", dict := dct, data := .seq items n, slots := sl } ∧
      R (.ok (.ret (.ref (s.heap.push { cls := .type "tuple_iterator", data := .fields #[.ref l, .int 0 0] }).objs.size)))
        { s with heap := (s.heap.push { cls := .type "tuple_iterator", data := .fields #[.ref l, .int 0 0] }).push { cls := .type "enumerate", data := .fields #[.none, .bool false, .ref s.heap.objs.size, rawInt 0, .none, .none] } }) :=
  .of_wp fun prog w A R s h => by
    obtain ⟨hp, g, d, tk, os⟩ := s
    obtain ⟨hl, h⟩ := h
    have sub1 := sub_enumerate
    have hT : Heap.IsTuple (Shared.heap ⟨hp, g, d, tk, os⟩) l items := ⟨_, hl, rfl, n, rfl⟩
    have go : ∀ {A' : Around} {E : Value → Shared → Prop} {Q : Value → Shared → Prop}, Q (.ref hp.objs.size) ⟨hp.push { cls := .type "tuple_iterator", data := .fields #[.ref l, .int 0 0] }, g, d, tk, os⟩ → wpAny (model prog w) A' (pyIter (.ref l)) Q E ⟨hp, g, d, tk, os⟩ :=
      fun q => wpAny_pyIter_tuple hT q
    wp_walk using AutoSeq1.wpAny_loadPart' hl
    refine wpAny_stack_any fun st => wpAny_pure ?_
    split
    · rename_i c _ _ _ _ _
      cases (c == Value.type "enumerate")
      · wp_walk using AutoSeq1.wpAny_loadPart' hl, go
        exact ⟨_, rfl, h⟩
      · wp_walk using AutoSeq1.wpAny_loadPart' hl, go
        exact ⟨_, rfl, h⟩
    · wp_walk using AutoSeq1.wpAny_loadPart' hl, go
      exact ⟨_, rfl, h⟩
theorem call_en1_tuple {prog : Program} {w : World} {A : Around} {E : Value → Shared → Prop} {s : Shared} {l : Addr} {items : Array Value} {Q : Value → Shared → Prop} (hL : s.heap.IsTuple l items)
    (h : ∀ h', IsEnum h' (s.heap.objs.size + 1) s.heap.objs.size 0 .none → h'.IsTupleIter s.heap.objs.size l 0 → (∀ b o, s.heap.get? b = some o → h'.get? b = some o) → Q (.ref (s.heap.objs.size + 1)) { s with heap := h' }) :
    wpAny (model prog w) A (call (.type "enumerate") [.ref l]) Q E s := by
  obtain ⟨⟨c, dct, dt, sl⟩, hl, hc, n, hd⟩ := hL
  replace hc : c = .type "tuple" := hc
  replace hd : dt = .seq items n := hd
  subst hc hd
  refine callType_new F.called_enumerate (by decide) (F.typeCall_enumerate_1 _) (F.newCall_enumerate_1 _) (fun obj => F.args_object_init_2 obj _) F.entry_enumerate_new (en1_tuple l items n dct sl) ⟨hl, ?_⟩
  generalize ho : ({ cls := .type "tuple_iterator", data := .fields #[.ref l, .int 0 0] } : Obj) = oi
  have hz : (s.heap.push oi).objs.size = s.heap.objs.size + 1 := Heap.size_push ..
  show _ ∧ _
  rw [hz]
  have he : IsEnum ((s.heap.push oi).push { cls := .type "enumerate", data := .fields #[.none, .bool false, .ref s.heap.objs.size, rawInt 0, .none, .none] }) (s.heap.objs.size + 1) s.heap.objs.size 0 .none := by
    have q := Heap.get?_push_size (s.heap.push oi) (o := { cls := .type "enumerate", data := .fields #[.none, .bool false, .ref s.heap.objs.size, rawInt 0, .none, .none] }) rfl
    rw [hz] at q
    exact q
  refine ⟨⟨_, he, rfl⟩, h _ he ⟨oi, Heap.get?_push_of_some _ (Heap.get?_push_size _ (by rw [← ho]; rfl)), by subst ho; rfl, by subst ho; rfl⟩ fun b o x => Heap.get?_push_of_some _ (Heap.get?_push_of_some _ x)⟩
end PySem
namespace DL
open PySem L2
/-- a tuple's items, each in a new pair with its index -/
def IteT (K : PySem.W.Frag) (a : Addr) : It :=
  ⟨fun i H => ∃ (xs : List V) (x : V), SqT K H a xs ∧ xs[i]? = some x, fun i H v H' => ∃ T x, v = .ref T ∧ H T = none ∧ H' = upd H T (.tup [.int (i : Nat), x]) ∧ ∀ xs, SqT K H a xs → xs[i]? = some x, fun i H => ∃ xs : List V, SqT K H a xs ∧ xs.length ≤ i⟩
theorem turn_enT {P : Program} {w : World} {K : PySem.W.Frag} {elts : List Expr} {kk : Nat} {tpos : Pos} (a e it : Addr) :
    Turn P w K (.Tuple elts kk tpos) (IteT K a) [e, it] e (fun i h => (∃ old, IsEnum h e it ((i : Nat) : Int) old) ∧ h.IsTupleIter it a i ∧ e ≠ it) where
  mem := by simp
  obj := fun i h st b hb => by
    obtain ⟨⟨old, he⟩, ⟨o, ho, hc, hd⟩, _⟩ := st
    have e' : b = e ∨ b = it := by simpa using hb
    rcases e' with z | z
    · subst z
      exact ⟨_, he, fun v q => nomatch q⟩
    · exact ⟨o, by rw [z]; exact ho, fun v q => by rw [hd] at q; cases q⟩
  keep := fun i h h' ⟨⟨old, he⟩, hi, hne⟩ k => ⟨⟨old, k e (by simp) _ he⟩, hi.at fun o q => k it (by simp) o q, hne⟩
  item := by
    intro X hP hw hK hc i pins s σ H E I hf ⟨⟨old, he⟩, hit, hne⟩ ⟨xs, x, hq, hx⟩
    subst hP hw hK
    obtain ⟨its, rv, p, hz⟩ := I.tuple hq
    obtain ⟨u, hu, ru⟩ := rv.get hx
    have hel : e < s.heap.objs.size := Heap.lt_size he
    have hil : it < s.heap.objs.size := by obtain ⟨_, q, _⟩ := hit; exact Heap.lt_size q
    have hlt : i < its.toArray.size := by
      have := (List.getElem?_eq_some_iff.mp hu).1
      simpa using this
    have hat : a ≠ it := fun z => by
      obtain ⟨o, ho, hc2, _⟩ := hit
      obtain ⟨o2, ho2, hc3, _⟩ := p
      rw [z, ho] at ho2
      cases ho2
      rw [hc2] at hc3
      exact absurd hc3 (by intro z; injection z with z; exact absurd z (by decide))
    have hae : e ≠ a := fun z => by
      obtain ⟨o2, ho2, hc3, _⟩ := p
      have he' : s.heap.get? e = some _ := he
      rw [z, ho2] at he'
      cases he'
      exact absurd hc3 (by intro z; injection z with z; exact absurd z (by decide))
    have D := Draws.tuple (prog := X.prog) (w := X.w) (A := X.A.in1) (I.ok.hd hc) it a hat its.toArray
    refine wpAny_pyNext_enum_itemD D he ⟨hit, p⟩ hlt hne (by simp only [List.mem_cons, List.not_mem_nil, or_false, not_or]; exact ⟨hne, hae⟩) fun y h' tk hP ho hst hT hsz hk => ?_
    have ey : y = u := by
      have h1 : its.toArray[i]? = some y := hP
      rw [show its.toArray[i]? = some u by simpa using hu] at h1
      exact (Option.some.inj h1).symm
    subst ey
    refine ⟨_, rfl, wpAny_letOwnedTupleGo_enum (s := { s with heap := h', toks := tk + 1 }) ho fun h'' he' sb => ?_⟩
    have hT2 : h''.get? s.heap.objs.size = some { cls := .type "tuple", data := .seq #[.int i tk, y] } := (sb.2 _ (Nat.ne_of_gt hel)).trans hT
    have new : ObjOk X.prog X.w (upd H s.heap.objs.size (.tup [.int (i : Nat), x])) h'' s.heap.objs.size (.tup [.int (i : Nat), x]) :=
      ⟨by show 2 ≤ sizeLine; decide, [.int i tk, y], .cons ⟨_, rfl⟩ (.cons ru .nil), ⟨_, hT2, rfl, _, rfl⟩⟩
    have I1 : L2.Inv X pins σ (upd H s.heap.objs.size (.tup [.int (i : Nat), x])) { s with heap := h'', toks := tk + 1 } :=
      I.turnedNew (ch := [e, it]) (fun b ob hb q => (sb.2 b (fun z => hb (by simp [z]))).trans (hk b ob (fun z => hb (by simp [z])) (fun z => hb (by simp [z])) q)) hf (Nat.le_refl _) new
    refine ⟨.ref s.heap.objs.size, _, I1, rfl, ⟨_, x, rfl, I.hok.fresh (Nat.le_refl _), rfl, fun ys hy => by rw [I.tuple_inj hy hq]; exact hx⟩, ⟨⟨y, ?_⟩, hst.1.at fun o q => (sb.2 it (Ne.symm hne)).trans q, hne⟩, fun b hb => ?_⟩
    · rw [show ((i + 1 : Nat) : Int) = (i : Int) + 1 by omega]
      exact he'
    · have e' : b = e ∨ b = it := by simpa using hb
      rw [upd_ne (Nat.ne_of_lt (by rcases e' with z | z <;> (rw [z]; assumption)))]
      exact (hf b hb).1
  done := by
    intro X hP hw hK hc i pins s σ H E I hf ⟨⟨old, he⟩, hit, hne⟩ ⟨xs, hq, hx⟩
    subst hP hw hK
    obtain ⟨its, rv, p, hz⟩ := I.tuple hq
    obtain ⟨f0, f1, f2, f3, f4, f5⟩ := hf it (by simp)
    have hl := rv.length
    have hT : s.TypeIs (.ref e) "enumerate" := ⟨_, he, rfl⟩
    unfold pyNext
    refine wpAny_bind (wpAny_attempt (wpAny_callSpecial?_slot (name := Str.ofString "__next__") hT F.slot_enumerate_next (wpAny_call_entry F.slot_enumerate_next hT F.entry_enumerate_next ?_ (F.args_enumerate_next_1 _))))
    show wpAny _ _ (field (.ref e) 2 >>= _) _ _ _
    refine wpAny_bind (wpAny_field he rfl (x := .ref it) rfl ?_)
    refine wpAny_bind (wpAny_nextOf_tuple_end (I.ok.hd hc) hit p (by simp; omega) fun h' y hk hy => ?_)
    obtain ⟨o, ho, hcl⟩ := hy
    refine wpAny_bind (wpAny_isInstance (T := "StopIteration") (b := true) ⟨o, ho, hcl⟩ isSubtype_stop ?_)
    exact wpAny_pure ⟨rfl, I.turned (t' := s.toks) (fun b o hb q => hk b o hb q) f0 f1 f3 f4 f5⟩
  self := fun A i s Q E ⟨⟨_, he⟩, _⟩ h => wpAny_pyIter_enum he h
section
variable {X : Cx} {tg : Expr} {c : Cd X.K} {vs : List Nat}
def iEnA (K : PySem.W.Frag) (ta : TA) : TI := fun σ H R => ta σ H fun us H1 => ∃ a xs, us = [.ref a] ∧ ((SqL K H1 a xs ∧ R (Ite K a) H1) ∨ (SqT K H1 a xs ∧ R (IteT K a) H1))
theorem pi_en {e : Expr} {ta : TA} {p pos tpos : Pos} {elts : List Expr} {kk : Nat} (hg : Gl X "enumerate") (hm : X.mg "enumerate" = none) (ha : PA X [e] ta) (hs : starEach [e] X.env = [(false, eval e X.env)] := by rfl) :
    PI X (.Tuple elts kk tpos) (.Call (.Name "enumerate" p) [e] [] pos) (iEnA X.K ta) := by
  refine ⟨fun pins s σ H R I h => PyProof.Rows.Call_ (ld_blt I hg hm PyProof.Rows.boot_enumerate (PyProof.Rows.callWith_type1 (thn (ha.run pos pins s σ H _ I h) fun us s1 ⟨vs, H1, I1, r1, a, xs, ex, q1⟩ => ?_) hs rfl))⟩
  subst ex
  cases r1 with
  | cons r rr =>
    cases rr
    cases r
    have fin : ∀ b, b ∈ [s1.heap.objs.size + 1, s1.heap.objs.size] → FpOk X pins H1 b := fun b hb => by
      have hle : s1.heap.objs.size ≤ b := by
        have e' : b = s1.heap.objs.size + 1 ∨ b = s1.heap.objs.size := by simpa using hb
        omega
      exact I1.fpOk hle (I1.hok.fresh hle)
    rcases q1 with ⟨hq, q⟩ | ⟨hq, q⟩
    · obtain ⟨its, rv, p', hz⟩ := I1.list hq
      refine call_enumerate_list p'.isList fun h' he hit hsz hk => wpAny_pyIter_enum he ?_
      exact ⟨s1.heap.objs.size + 1, [s1.heap.objs.size + 1, s1.heap.objs.size], _, _, H1, rfl, I1.kept (t' := s1.toks) hk, turn_enum a _ _, ⟨⟨.none, he⟩, hit, Nat.succ_ne_self _⟩, fin, q⟩
    · obtain ⟨its, rv, p', hz⟩ := I1.tuple hq
      refine call_en1_tuple p' fun h' he hit hk => wpAny_pyIter_enum he ?_
      exact ⟨s1.heap.objs.size + 1, [s1.heap.objs.size + 1, s1.heap.objs.size], _, _, H1, rfl, I1.kept (t' := s1.toks) hk, turn_enT a _ _, ⟨⟨.none, he⟩, hit, Nat.succ_ne_self _⟩, fin, q⟩
/-- a list or a tuple -/
def iSeq (K : PySem.W.Frag) (tl : TE) : TI := fun σ H R => tl σ H fun x H1 => ∃ a xs, x = .ref a ∧ ((SqL K H1 a xs ∧ R (Itl K a) H1) ∨ (SqT K H1 a xs ∧ R (Itt K a) H1))
theorem pi_seq {l : Expr} {tl : TE} (hl : PE X l tl) : PI X tg l (iSeq X.K tl) := by
  refine ⟨fun pins s σ H R I h => thn (hl.run pins s σ H _ I h) fun v s1 ⟨x, H1, I1, r1, a, xs, ex, q⟩ => ?_⟩
  subst ex
  cases r1
  have fin : ∀ b ∈ [s1.heap.objs.size], FpOk X pins H1 b := fun b hb => by
    rw [List.mem_singleton.mp hb]
    exact I1.fpOk (Nat.le_refl _) (I1.hok.fresh (Nat.le_refl _))
  rcases q with ⟨hq, q⟩ | ⟨hq, q⟩
  · obtain ⟨its, rv, p, hz⟩ := I1.list hq
    exact wpAny_pyIter_list p.isList ⟨_, [s1.heap.objs.size], _, _, H1, rfl, I1.kept (t' := s1.toks) fun b o e => Heap.get?_push_of_some _ e, turn_list a _, ⟨_, Heap.get?_push_size _ rfl, rfl, rfl⟩, fin, q⟩
  · obtain ⟨its, rv, p, hz⟩ := I1.tuple hq
    exact wpAny_pyIter_tuple (show s1.heap.IsTuple a its.toArray from p) ⟨_, [s1.heap.objs.size], _, _, H1, rfl, I1.kept (t' := s1.toks) fun b o e => Heap.get?_push_of_some _ e, turn_tuple a _, ⟨_, Heap.get?_push_size _ rfl, rfl, rfl⟩, fin, q⟩
theorem pi_wk {it : Expr} {t t' : TI} (h : PI X tg it t) (k : ∀ σ H R, t' σ H R → t σ H R) : PI X tg it t' := ⟨fun pins s σ H R I q => h.run pins s σ H R I (k σ H R q)⟩
/-! ### what is walked, by data -/
def seqOf : D → Option (List D)
  | .lst ds => some ds
  | .frz ds => some ds
  | .tup ds => some ds
  | _ => none
def fSeq (f : Env → W D) : Env → W (List D) := fun δ => bd (f δ) fun d => opt (seqOf d) fun ds => chk (D.imms ds = true) (pu ds)
theorem Hs.sqL {F : List Addr} {H1 H : Hp} {a : Addr} {xs : List V} (h : Hs F H1 H) (r : H1 a = some (.lst xs)) (ha : a ∈ F) : SqL X.K H a xs := .inl (.inl (h a _ r (.inr ha)))
theorem Hs.sqT {F : List Addr} {H1 H : Hp} {a : Addr} {xs : List V} (h : Hs F H1 H) (r : SqT X.K H1 a xs) : SqT X.K H a xs := by
  rcases r with (r | ⟨o, r⟩) | r
  · exact .inl (.inl (h _ _ r (.inl fun z => z)))
  · exact .inl (.inr ⟨o, h _ _ r (.inl fun z => z)⟩)
  · exact .inr r
theorem Hs.item {F : List Addr} {H1 H : Hp} {xs : List V} {ds : List D} (h : Hs F H1 H) {m0 : Nat} (ok : c.G.ok H1 m0) (r : RpA c.G H1 xs ds []) {i : Nat} (hi : i < ds.length) : ∃ x d, xs[i]? = some x ∧ ds[i]? = some d ∧ Rp c.G H x d [] := by
  obtain ⟨v, F', e, rv, s⟩ := r.get (List.getElem?_eq_getElem hi)
  have e0 : F' = [] := List.eq_nil_iff_forall_not_mem.mpr fun a z => nomatch s a z
  subst e0
  exact ⟨v, _, e, List.getElem?_eq_getElem hi, Rp.hd _ _ _ rv ⟨⟨_, ok⟩, fun b o q m => h b o q (.inl m), fun _ _ _ z => nomatch z⟩⟩
theorem it_list {F : List Addr} {H1 : Hp} {a : Addr} {xs : List V} {ds : List D} {m0 : Nat} (ok : c.G.ok H1 m0) (st : ∀ H, Hs F H1 H → SqL X.K H a xs) (r : RpA c.G H1 xs ds []) : ItOk c.G (Itl X.K a) ds F H1 where
  go := fun i H h hi => let ⟨x, _, e, _⟩ := h.item ok r hi; ⟨xs, x, st H h, e⟩
  stop := fun H h => ⟨xs, st H h, Nat.le_of_eq r.length⟩
  yld := fun i H x H' h okH hi ⟨e, y⟩ => by
    subst e
    obtain ⟨x', d, e1, e2, rx⟩ := h.item ok r hi
    have := y xs (st _ h)
    rw [e1] at this
    cases this
    exact ⟨Kp.refl okH, d, e2, rx⟩
theorem it_tup {F : List Addr} {H1 : Hp} {a : Addr} {xs : List V} {ds : List D} {m0 : Nat} (ok : c.G.ok H1 m0) (st : SqT X.K H1 a xs) (r : RpA c.G H1 xs ds []) : ItOk c.G (Itt X.K a) ds F H1 where
  go := fun i H h hi => let ⟨x, _, e, _⟩ := h.item ok r hi; ⟨xs, x, h.sqT st, e⟩
  stop := fun H h => ⟨xs, h.sqT st, Nat.le_of_eq r.length⟩
  yld := fun i H x H' h okH hi ⟨e, y⟩ => by
    subst e
    obtain ⟨x', d, e1, e2, rx⟩ := h.item ok r hi
    have := y xs (h.sqT st)
    rw [e1] at this
    cases this
    exact ⟨Kp.refl okH, d, e2, rx⟩
theorem id_seq {l : Expr} {fa : Env → W D} (h : PE X l (tD c vs fa)) : PI X tg l (tI c vs (fSeq fa)) := pi_wk (pi_seq h) fun σ H R ⟨_, fp, δ, Qd, e, hf, k⟩ => by
  refine ⟨_, fp, δ, fun d => opt (seqOf d) (fun ds => chk (D.imms ds = true) (pu ds)) Qd c.xq, e, hf, fun d ⟨ds, hs, im, q⟩ v H' F p r => ?_⟩
  cases r with
  | @lst a xs _ F' ex ax =>
    cases hs
    have e0 := RpA.imm_nil _ _ _ ax im
    subst e0
    exact ⟨a, xs, rfl, .inl ⟨.inl (.inl ex), k _ q _ _ _ p (it_list p.kp.ok (fun H h => h.sqL ex (by simp)) ax)⟩⟩
  | @frz a xs _ ex ax =>
    cases hs
    exact ⟨a, xs, rfl, .inl ⟨ex.sq, k _ q _ _ _ p (it_list p.kp.ok (fun H h => (ex.mono fun b o z m => h b o z (.inl m)).sq) ax)⟩⟩
  | @tup a xs _ F' ex ax =>
    cases hs
    have e0 := RpA.imm_nil _ _ _ ax im
    subst e0
    exact ⟨a, xs, rfl, .inr ⟨ex, k _ q _ _ _ p (it_tup p.kp.ok ex ax)⟩⟩
  | _ => cases hs
/-- range(n), range(a, b) -/
def ints1 : List D → Option Int
  | [.int i] => some i
  | _ => none
def ints2 : List D → Option (Int × Int)
  | [.int i, .int j] => some (i, j)
  | _ => none
theorem ints1_eq {ds : List D} {i : Int} (h : ints1 ds = some i) : ds = [.int i] := by
  unfold ints1 at h
  split at h
  · cases h; rfl
  · cases h
theorem ints2_eq {ds : List D} {i j : Int} (h : ints2 ds = some (i, j)) : ds = [.int i, .int j] := by
  unfold ints2 at h
  split at h
  · cases h; rfl
  · cases h
def rngD (lo : Int) (n : Nat) : List D := (List.range n).map fun k => .int (lo + (k : Nat))
theorem it_rng {F : List Addr} {H1 : Hp} {lo : Int} {n : Nat} : ItOk c.G (Itr lo n) (rngD lo n) F H1 where
  go := fun i H h hi => by
    have q : i < n := by simpa [rngD] using hi
    exact q
  stop := fun H h => Nat.le_of_eq (by simp [rngD])
  yld := fun i H x H' h okH hi ⟨e, y⟩ => by
    subst e y
    have hi' : i < n := by simpa [rngD] using hi
    exact ⟨Kp.refl okH, .int (lo + (i : Nat)), by simp [rngD, hi'], .int _⟩
def fRng1 (fs : Env → W (List D)) : Env → W (List D) := fun δ => bd (fs δ) fun ds => opt (ints1 ds) fun j => chk (-(2 ^ 62) ≤ j ∧ j < 2 ^ 62) (pu (rngD 0 j.toNat))
def fRng2 (fs : Env → W (List D)) : Env → W (List D) := fun δ => bd (fs δ) fun ds => opt (ints2 ds) fun ij => chk (-(2 ^ 62) ≤ ij.1 ∧ ij.1 < 2 ^ 62 ∧ -(2 ^ 62) ≤ ij.2 ∧ ij.2 < 2 ^ 62) (pu (rngD ij.1 (ij.2 - ij.1).toNat))
variable {fs : Env → W (List D)}
theorem id_rng1 {a : Expr} {p pos : Pos} (hg : Gl X "range") (hm : X.mg "range" = none) (ha : PA X [a] (tA c vs fs)) (hs : starEach [a] X.env = [(false, eval a X.env)] := by rfl) : PI X tg (.Call (.Name "range" p) [a] [] pos) (tI c [] (fRng1 fs)) := pi_wk (pi_range1 hg hm ha hs) fun σ H R ⟨_, fp, δ, Qd, e, hf, k⟩ => by
  refine ⟨_, fp, δ, fun ds => opt (ints1 ds) (fun j => chk (-(2 ^ 62) ≤ j ∧ j < 2 ^ 62) (pu (rngD 0 j.toNat))) Qd c.xq, e, hf, fun ds ⟨j, hj, ⟨h1, h2⟩, q⟩ us H' F p r => ?_⟩
  rw [ints1_eq hj] at r
  obtain ⟨v, rfl, rv⟩ := r.one
  obtain ⟨rfl, _⟩ := rv.intI
  exact ⟨j, rfl, h1, h2, k _ q _ _ [] (.kpnil p.kp) it_rng⟩
theorem id_rng2 {a b : Expr} {p pos : Pos} (hg : Gl X "range") (hm : X.mg "range" = none) (ha : PA X [a, b] (tA c vs fs)) (hs : starEach [a, b] X.env = [(false, eval a X.env), (false, eval b X.env)] := by rfl) (hs2 : starEach [b] X.env = [(false, eval b X.env)] := by rfl) : PI X tg (.Call (.Name "range" p) [a, b] [] pos) (tI c [] (fRng2 fs)) := pi_wk (pi_range2 hg hm ha hs hs2) fun σ H R ⟨_, fp, δ, Qd, e, hf, k⟩ => by
  refine ⟨_, fp, δ, fun ds => opt (ints2 ds) (fun ij => chk (-(2 ^ 62) ≤ ij.1 ∧ ij.1 < 2 ^ 62 ∧ -(2 ^ 62) ≤ ij.2 ∧ ij.2 < 2 ^ 62) (pu (rngD ij.1 (ij.2 - ij.1).toNat))) Qd c.xq, e, hf, fun ds ⟨⟨i, j⟩, hj, ⟨h1, h2, h3, h4⟩, q⟩ us H' F p r => ?_⟩
  rw [ints2_eq hj] at r
  obtain ⟨v, v', F1, F2, rfl, r1, r2, _⟩ := r.two
  obtain ⟨rfl, _⟩ := r1.intI
  obtain ⟨rfl, _⟩ := r2.intI
  exact ⟨i, j, rfl, ⟨h1, h2, h3, h4⟩, k _ q _ _ [] (.kpnil p.kp) it_rng⟩
/-- enumerate(xs) -/
def enD (n : Nat) : List D → List D
  | [] => []
  | d :: ds => .tup [.int (n : Nat), d] :: enD (n + 1) ds
theorem enD_len : ∀ (ds : List D) (n : Nat), (enD n ds).length = ds.length
  | [], _ => rfl
  | d :: ds, n => by simp [enD, enD_len ds]
theorem enD_get : ∀ (ds : List D) (n i : Nat) (d : D), ds[i]? = some d → (enD n ds)[i]? = some (.tup [.int ((n + i : Nat) : Nat), d])
  | [], _, _, _, h => by simp at h
  | d' :: ds, n, 0, d, h => by simp at h; subst h; simp [enD]
  | d' :: ds, n, i + 1, d, h => by
    have q := enD_get ds (n + 1) i d (by simpa using h)
    rw [show n + 1 + i = n + (i + 1) by omega] at q
    simpa only [enD, List.getElem?_cons_succ] using q
def one1 : List D → Option D
  | [d] => some d
  | _ => none
theorem one1_eq {ds : List D} {d : D} (h : one1 ds = some d) : ds = [d] := by
  unfold one1 at h
  split at h
  · cases h; rfl
  · cases h
def fEn (fs : Env → W (List D)) : Env → W (List D) := fun δ => bd (fs δ) fun ds => opt ((one1 ds).bind seqOf) fun es => chk (D.imms es = true) (pu (enD 0 es))
theorem it_pair {F : List Addr} {H1 : Hp} {J : It} {ds : List D} {n : Nat} (hn : ds.length = n) (go : ∀ i H, Hs F H1 H → i < n → J.go i H) (stop : ∀ H, Hs F H1 H → J.stop n H)
    (yld : ∀ {m0 : Nat} i H v H', Hs F H1 H → c.G.ok H m0 → i < n → J.yld i H v H' → ∃ T x y, v = .ref T ∧ H T = none ∧ H' = upd H T (.tup [x, y]) ∧ ∃ d d', ds[i]? = some (.tup [d, d']) ∧ Rp c.G H x d [] ∧ Rp c.G H y d' []) : ItOk c.G J ds F H1 where
  go := fun i H h hi => go i H h (hn ▸ hi)
  stop := fun H h => hn ▸ stop H h
  yld := fun i H v H' h ok hi y => by
    obtain ⟨T, x, y, rfl, hT, rfl, d, d', e, r1, r2⟩ := yld i H v H' h ok (hn ▸ hi) y
    exact ⟨Kp.laid ok hT _, _, e, .tup (SqT.of upd_same) (.cons (r1.laid ok (fun _ z => nomatch z) hT _) (.cons (r2.laid ok (fun _ z => nomatch z) hT _) .nil))⟩
theorem id_en {e : Expr} {p pos tpos : Pos} {elts : List Expr} {kk : Nat} (hg : Gl X "enumerate") (hm : X.mg "enumerate" = none) (ha : PA X [e] (tA c vs fs)) (hs : starEach [e] X.env = [(false, eval e X.env)] := by rfl) :
    PI X (.Tuple elts kk tpos) (.Call (.Name "enumerate" p) [e] [] pos) (tI c vs (fEn fs)) := pi_wk (pi_en hg hm ha hs) fun σ H R ⟨_, fp, δ, Qd, e, hf, k⟩ => by
  refine ⟨_, fp, δ, fun ds => opt ((one1 ds).bind seqOf) (fun es => chk (D.imms es = true) (pu (enD 0 es))) Qd c.xq, e, hf, fun ds ⟨es, he, im, q⟩ us H' F p r => ?_⟩
  obtain ⟨d, hd, he⟩ : ∃ d, one1 ds = some d ∧ seqOf d = some es := by
    cases z : one1 ds with
    | none => rw [z] at he; cases he
    | some d => exact ⟨d, rfl, by rw [z] at he; exact he⟩
  rw [one1_eq hd] at r
  obtain ⟨v, rfl, rv⟩ := r.one
  have row : ∀ {H : Hp} {xs : List V} {i : Nat}, Hs F H' H → RpA c.G H' xs es [] → i < es.length → ∃ x d, xs[i]? = some x ∧ (enD 0 es)[i]? = some (.tup [.int (i : Nat), d]) ∧ Rp c.G H x d [] := fun {H xs i} h ax hi => by
    obtain ⟨x, d, e1, e2, rx⟩ := h.item p.kp.ok ax hi
    have q := enD_get es 0 i d e2
    rw [Nat.zero_add] at q
    exact ⟨x, d, e1, q, rx⟩
  have lists : ∀ {a : Addr} {xs : List V}, (∀ H, Hs F H' H → SqL X.K H a xs) → RpA c.G H' xs es [] → ItOk c.G (Ite X.K a) (enD 0 es) F H' := fun {a xs} st ax =>
    it_pair (enD_len es 0) (fun i H h hi => let ⟨x, _, e, _⟩ := row h ax hi; ⟨xs, x, st H h, e⟩) (fun H h => ⟨xs, st H h, Nat.le_of_eq ax.length⟩) fun i H v H2 h ok hi ⟨T, x, e1, e2, e3, y⟩ => by
      obtain ⟨x', d, e4, e5, rx⟩ := row h ax hi
      have := y xs (st H h)
      rw [e4] at this
      cases this
      exact ⟨T, _, _, e1, e2, e3, _, _, e5, .int _, rx⟩
  cases rv with
  | @lst a xs _ F' ex ax =>
    cases he
    have e0 := RpA.imm_nil _ _ _ ax im
    subst e0
    exact ⟨a, xs, rfl, .inl ⟨.inl (.inl ex), k _ q _ _ _ p (lists (fun H h => h.sqL ex (by simp)) ax)⟩⟩
  | @frz a xs _ ex ax =>
    cases he
    exact ⟨a, xs, rfl, .inl ⟨ex.sq, k _ q _ _ _ p (lists (fun H h => (ex.mono fun b o z m => h b o z (.inl m)).sq) ax)⟩⟩
  | @tup a xs _ F' ex ax =>
    cases he
    have e0 := RpA.imm_nil _ _ _ ax im
    subst e0
    refine ⟨a, xs, rfl, .inr ⟨ex, k _ q _ _ _ p (it_pair (enD_len es 0) (fun i H h hi => let ⟨x, _, e, _⟩ := row h ax hi; ⟨xs, x, h.sqT ex, e⟩) (fun H h => ⟨xs, h.sqT ex, Nat.le_of_eq ax.length⟩) fun i H v H2 h ok hi ⟨T, x, e1, e2, e3, y⟩ => ?_)⟩⟩
    obtain ⟨x', d, e4, e5, rx⟩ := row h ax hi
    have := y xs (h.sqT ex)
    rw [e4] at this
    cases this
    exact ⟨T, _, _, e1, e2, e3, _, _, e5, .int _, rx⟩
  | _ => cases he
/-- zip(xs, ys), two lists or two tuples -/
def zipD : List D → List D → List D
  | d :: ds, e :: es => .tup [d, e] :: zipD ds es
  | _, _ => []
theorem zipD_len : ∀ (ds es : List D), (zipD ds es).length = min ds.length es.length
  | [], es => by simp [zipD]
  | d :: ds, [] => by simp [zipD]
  | d :: ds, e :: es => by
    simp only [zipD, List.length_cons, zipD_len ds es]
    omega
theorem zipD_get : ∀ (ds es : List D) (i : Nat) (d e : D), ds[i]? = some d → es[i]? = some e → (zipD ds es)[i]? = some (.tup [d, e])
  | [], _, _, _, _, h, _ => by simp at h
  | _ :: _, [], _, _, _, _, h => by simp at h
  | d' :: ds, e' :: es, 0, d, e, h, h' => by simp at h h'; subst h h'; simp [zipD]
  | d' :: ds, e' :: es, i + 1, d, e, h, h' => by
    have := zipD_get ds es i d e (by simpa using h) (by simpa using h')
    simpa [zipD] using this
def zip2 : List D → Option (List D × List D)
  | [.tup ds, .tup es] => some (ds, es)
  | [.lst ds, .lst es] => some (ds, es)
  | _ => none
def fZip (fs : Env → W (List D)) : Env → W (List D) := fun δ => bd (fs δ) fun ds => opt (zip2 ds) fun p => chk (D.imms p.1 = true ∧ D.imms p.2 = true) (pu (zipD p.1 p.2))
theorem id_zip {e e2 : Expr} {p pos tpos : Pos} {elts : List Expr} {kk : Nat} (hg : Gl X "zip") (hm : X.mg "zip" = none) (ha : PA X [e, e2] (tA c vs fs)) (hs : starEach [e, e2] X.env = (false, eval e X.env) :: starEach [e2] X.env := by rfl) (hpl : (backTo pos (starEach [e2] X.env)).any (·.1) = false := by rfl) :
    PI X (.Tuple elts kk tpos) (.Call (.Name "zip" p) [e, e2] [] pos) (tI c vs (fZip fs)) := pi_wk (RZ.pi_zipA hg hm ha hs hpl) fun σ H R ⟨_, fp, δ, Qd, e, hf, k⟩ => by
  refine ⟨_, fp, δ, fun ds => opt (zip2 ds) (fun p => chk (D.imms p.1 = true ∧ D.imms p.2 = true) (pu (zipD p.1 p.2))) Qd c.xq, e, hf, fun ds ⟨⟨as, bs⟩, hz, ⟨im, im'⟩, q⟩ us H' F p r => ?_⟩
  unfold zip2 at hz
  split at hz
  · cases hz
    obtain ⟨v, v', F1, F2, rfl, r1, r2, eF⟩ := r.two
    obtain ⟨a, xs, rfl, sx, ax⟩ := r1.tupI
    obtain ⟨b, ys, rfl, sy, ay⟩ := r2.tupI
    have e1 := RpA.imm_nil _ _ _ ax im
    have e2 := RpA.imm_nil _ _ _ ay im'
    subst e1 e2
    refine ⟨a, b, xs, ys, rfl, .inr ⟨sx, sy, k _ q _ _ _ p (it_pair (zipD_len as bs) (fun i H h hi => ?_) (fun H h => ⟨xs, ys, h.sqT sx, h.sqT sy, by rw [ax.length, ay.length]; omega⟩) fun i H v H2 h ok hi ⟨T, x, y, e1, e2, e3, y1, y2⟩ => ?_)⟩⟩
    · obtain ⟨x, _, e1, _⟩ := h.item p.kp.ok ax (i := i) (by omega)
      obtain ⟨y, _, e2, _⟩ := h.item p.kp.ok ay (i := i) (by omega)
      exact ⟨xs, ys, x, y, h.sqT sx, h.sqT sy, e1, e2⟩
    · obtain ⟨x', d, e4, e5, rx⟩ := h.item p.kp.ok ax (i := i) (by omega)
      obtain ⟨y', d', e6, e7, ry⟩ := h.item p.kp.ok ay (i := i) (by omega)
      have h1 := y1 xs (h.sqT sx)
      have h2 := y2 ys (h.sqT sy)
      rw [e4] at h1; cases h1
      rw [e6] at h2; cases h2
      exact ⟨T, _, _, e1, e2, e3, _, _, zipD_get _ _ _ _ _ e5 e7, rx, ry⟩
  · cases hz
    obtain ⟨v, v', F1, F2, rfl, r1, r2, eF⟩ := r.two
    cases r1 with
    | @lst a xs _ F3 sx ax =>
      cases r2 with
      | @lst b ys _ F4 sy ay =>
        have e1 := RpA.imm_nil _ _ _ ax im
        have e2 := RpA.imm_nil _ _ _ ay im'
        subst e1 e2
        have ia : a ∈ F := by rw [eF]; simp
        have ib : b ∈ F := by rw [eF]; simp
        refine ⟨a, b, xs, ys, rfl, .inl ⟨.inl (.inl sx), .inl (.inl sy), k _ q _ _ _ p (it_pair (zipD_len as bs) (fun i H h hi => ?_) (fun H h => ⟨xs, ys, h.sqL sx ia, h.sqL sy ib, by rw [ax.length, ay.length]; omega⟩) fun i H v H2 h ok hi ⟨T, x, y, e1, e2, e3, y1, y2⟩ => ?_)⟩⟩
        · obtain ⟨x, _, e1, _⟩ := h.item p.kp.ok ax (i := i) (by omega)
          obtain ⟨y, _, e2, _⟩ := h.item p.kp.ok ay (i := i) (by omega)
          exact ⟨xs, ys, x, y, h.sqL sx ia, h.sqL sy ib, e1, e2⟩
        · obtain ⟨x', d, e4, e5, rx⟩ := h.item p.kp.ok ax (i := i) (by omega)
          obtain ⟨y', d', e6, e7, ry⟩ := h.item p.kp.ok ay (i := i) (by omega)
          have h1 := y1 xs (h.sqL sx ia)
          have h2 := y2 ys (h.sqL sy ib)
          rw [e4] at h1; cases h1
          rw [e6] at h2; cases h2
          exact ⟨T, _, _, e1, e2, e3, _, _, zipD_get _ _ _ _ _ e5 e7, rx, ry⟩
  · cases hz
end
end DL
namespace DL
open PySem L2
/-! ### comprehensions -/
def wipeE (δ : Env) : List Nat → Env
  | [] => δ
  | v :: vs => (wipeE δ vs).set v none
theorem wipeE_len (δ : Env) : ∀ vs, (wipeE δ vs).length = δ.length
  | [] => rfl
  | v :: vs => by unfold wipeE; rw [List.length_set, wipeE_len δ vs]
theorem wipe_get (σ : St) (j : Nat) : ∀ vs : List Nat, (wipe σ vs)[j]? = if j ∈ vs then (if j < σ.length then some none else none) else σ[j]?
  | [] => by simp [wipe]
  | v :: vs => by
    unfold wipe
    by_cases h : j = v
    · subst h
      rw [if_pos (by simp)]
      by_cases hl : j < σ.length
      · rw [if_pos hl, List.getElem?_set_self (by rw [wipe_length]; exact hl)]
      · rw [if_neg hl]
        exact List.getElem?_eq_none_iff.mpr (by rw [List.length_set, wipe_length]; omega)
    · rw [List.getElem?_set_ne (fun z => h z.symm), wipe_get σ j vs]
      simp [h]
theorem gt_wipe (δ : Env) (j : Nat) : ∀ vs : List Nat, gt (wipeE δ vs) j = if j ∈ vs then none else gt δ j
  | [] => by simp [wipeE]
  | v :: vs => by
    unfold wipeE
    by_cases hl : v < (wipeE δ vs).length
    · rw [gt_set hl, gt_wipe δ j vs]
      by_cases h : j = v
      · simp [h]
      · simp [h]
    · have e : (wipeE δ vs).set v none = wipeE δ vs := List.set_eq_of_length_le (by omega)
      rw [e, gt_wipe δ j vs]
      by_cases h : j = v
      · subst h
        rw [if_pos (show j ∈ j :: vs by simp)]
        split
        · rfl
        · unfold gt
          rw [List.getElem?_eq_none_iff.mpr (by rw [wipeE_len] at hl; omega)]
          rfl
      · simp [h]
section
variable {X : Cx} {c : Cd X.K} {vs : List Nat}
theorem EnvOk.wipe {fp : Nat → List Addr} {H : Hp} {σ : St} {δ : Env} {m0 : Nat} (e : EnvOk c fp H σ δ m0) (vs : List Nat) : EnvOk c (fun j => if j ∈ vs then [] else fp j) H (L2.wipe σ vs) (wipeE δ vs) m0 where
  ok := e.ok
  len := by rw [wipe_length, wipeE_len]; exact e.len
  rep := fun j d q => by
    rw [gt_wipe] at q
    by_cases h : j ∈ vs
    · rw [if_pos h] at q; cases q
    · rw [if_neg h] at q
      obtain ⟨v, hv, r⟩ := e.rep j d q
      exact ⟨v, by rw [wipe_get, if_neg h]; exact hv, by rw [if_neg h]; exact r⟩
  emp := fun j q => by
    by_cases h : j ∈ vs
    · rw [if_pos h]
    · rw [if_neg h]; rw [gt_wipe, if_neg h] at q; exact e.emp j q
  nos := fun j a ha => by
    by_cases h : j ∈ vs
    · rw [if_pos h] at ha; cases ha
    · rw [if_neg h] at ha; exact e.nos j a ha
  frs := fun j ho a ha => by
    by_cases h : j ∈ vs
    · rw [if_pos h] at ha; cases ha
    · rw [if_neg h] at ha; exact e.frs j ho a ha
  ndp := fun j ho => by
    by_cases h : j ∈ vs
    · rw [if_pos h]; exact List.nodup_nil
    · rw [if_neg h]; exact e.ndp j ho
  sep := fun j ho l hl a ha => by
    by_cases h : j ∈ vs
    · rw [if_pos h] at ha; cases ha
    · rw [if_neg h] at ha
      by_cases h2 : l ∈ vs
      · rw [if_pos h2]; exact fun z => nomatch z
      · rw [if_neg h2]; exact e.sep j ho l hl a ha
  frm := e.frm
def lcW (h : D → Env → W Env) (t : Env → W Bool) (f : Env → W D) (δ : Env) : List D → List D → W (List D)
  | [], acc => pu acc
  | d :: ds, acc => bd (h d δ) fun δ1 => bd (t δ1) fun b => if b = true then bd (f δ1) fun e => chk (e.imm = true ∧ acc.length < sizeLine) (lcW h t f δ ds (acc ++ [e])) else lcW h t f δ ds acc
theorem lcW_step (h : D → Env → W Env) (t : Env → W Bool) (f : Env → W D) (δ : Env) (d : D) (ds acc : List D) (k : List D → W D) : bd (lcW h t f δ (d :: ds) acc) k =
    bd (h d δ) fun δ1 => bd (t δ1) fun b => if b = true then bd (f δ1) fun e => chk (e.imm = true ∧ acc.length < sizeLine) (bd (lcW h t f δ ds (acc ++ [e])) k) else bd (lcW h t f δ ds acc) k := by
  show (bd (h d δ) fun δ1 => bd (bd (t δ1) _) k) = _
  congr 1
  funext δ1
  rw [bd_bd]
  congr 1
  funext b
  cases b <;> rfl
def dLc (vs : List Nat) (fi : Env → W (List D)) (h : D → Env → W Env) (t : Env → W Bool) (f : Env → W D) : Env → W D := fun δ => bd (fi δ) fun ds => bd (lcW h t f (wipeE δ vs) ds []) fun es => pu (.lst es)
def dYes : Env → W Bool := fun _ => pu true
theorem tLc_of {wv : List Nat} {vi : List Nat} {fi : Env → W (List D)} {h : D → Env → W Env} {t : Env → W Bool} {f : Env → W D} (hw : ∀ i ∈ wv, i ∈ vs) {σ : St} {H : Hp} {Q : VK} (hq : tN c (dLc vs fi h t f) σ H Q) :
    tLc (tI c vi fi) (tG c wv h) (tT c t) (tD c va f) vs σ H Q := by
  obtain ⟨_, fp, δ, Qd, e, hf, k⟩ := hq
  refine ⟨_, fp, δ, fun ds => bd (lcW h t f (wipeE δ vs) ds []) (fun es => pu (D.lst es)) Qd c.xq, e, hf, fun ds qds J H1 F p it Dn hD => ?_⟩
  have e1 := e.kp p.kp
  have DS := notS0 p.kp.ok hD
  -- the state behind i turns
  have start : Kp c.G H1 (upd H1 Dn (.lst [])) _ := Kp.laid p.kp.ok hD _
  refine ⟨fun i m H' => m = ds.length - i ∧ i ≤ ds.length ∧ ∃ k1 acc av, H' Dn = some (.lst av) ∧ RpA c.G H' av acc [] ∧ Kp c.G H1 H' k1 ∧ bd (lcW h t f (wipeE δ vs) (ds.drop i) acc) (fun es => pu (D.lst es)) Qd c.xq k1,
    ⟨ds.length, rfl, Nat.zero_le _, _, [], [], upd_same, .nil, start, qds⟩, ?_⟩
  rintro i m H' ⟨rfl, hi, _, acc, av, hav, ra, kp, q⟩
  have st : Hs F H1 H' := fun b o z mm => by
    refine kp.kp b o z ?_
    rcases mm with mm | mm
    · exact notS p.kp.ok z mm
    · exact p.nos b mm
  by_cases hlt : i < ds.length
  · refine .inr ⟨it.go i H' st hlt, fun H2 => ∃ k1 acc av, H2 Dn = some (.lst av) ∧ RpA c.G H2 av acc [] ∧ Kp c.G H1 H2 k1 ∧ bd (lcW h t f (wipeE δ vs) (ds.drop (i + 1)) acc) (fun es => pu (D.lst es)) Qd c.xq k1, fun H2 z => ⟨ds.length - (i + 1), by omega, rfl, hlt, z⟩, fun x H2 y => ?_⟩
    obtain ⟨kp2, d, hd', r⟩ := it.yld i H' x H2 st kp.ok hlt y
    have ed : ds.drop i = d :: ds.drop (i + 1) := by
      rw [List.drop_eq_getElem_cons hlt]
      congr 1
      rw [List.getElem?_eq_getElem hlt] at hd'
      exact Option.some.inj hd'
    rw [ed] at q
    have k12 := kp.trans kp2
    have ew := (e1.kp k12).wipe vs
    have hav2 := kp2.kp _ _ hav DS
    have ra2 := ra.kp kp2 (fun _ z => nomatch z)
    refine ⟨_, _, wipeE δ vs, d, [], fun δ1 => bd (t δ1) (fun b => if b = true then bd (f δ1) fun e => chk (e.imm = true ∧ acc.length < sizeLine) (bd (lcW h t f (wipeE δ vs) (ds.drop (i + 1)) (acc ++ [e])) fun es => pu (D.lst es)) else bd (lcW h t f (wipeE δ vs) (ds.drop (i + 1)) acc) fun es => pu (D.lst es)) Qd c.xq, ew, r, ?_, fun δ1 q1 fp1 σ1 e2 s2 => ?_⟩
    · rw [lcW_step] at q
      exact q
    · have hwe : L2.wipe σ1 vs = L2.wipe σ vs := by
        refine List.ext_getElem? fun j => ?_
        have ln : σ1.length = σ.length := s2.ln.trans (wipe_length _ _)
        rw [wipe_get, wipe_get, ln]
        by_cases hj : j ∈ vs
        · rw [if_pos hj, if_pos hj]
        · rw [if_neg hj, if_neg hj, (s2.sl j fun z => hj (hw j z)).1, wipe_get, if_neg hj]
      refine ⟨hwe, _, fp1, δ1, fun b => (if b = true then bd (f δ1) fun e => chk (e.imm = true ∧ acc.length < sizeLine) (bd (lcW h t f (wipeE δ vs) (ds.drop (i + 1)) (acc ++ [e])) fun es => pu (D.lst es)) else bd (lcW h t f (wipeE δ vs) (ds.drop (i + 1)) acc) fun es => pu (D.lst es)) Qd c.xq, e2, q1, fun b qb H3 kp3 => ?_⟩
      have k13 := k12.trans kp3
      have hav3 := kp3.kp _ _ hav2 DS
      have ra3 := ra2.kp kp3 (fun _ z => nomatch z)
      cases b with
      | false => exact ⟨_, acc, av, hav3, ra3, k13, qb⟩
      | true =>
        refine ⟨_, fp1, δ1, fun e => chk (e.imm = true ∧ acc.length < sizeLine) (bd (lcW h t f (wipeE δ vs) (ds.drop (i + 1)) (acc ++ [e])) fun es => pu (D.lst es)) Qd c.xq, e2.kp kp3, qb, fun d2 ⟨⟨im, sz⟩, q4⟩ y H4 F4 p4 r4 => ?_⟩
        have e0 := Rp.imm_nil _ _ _ r4 im
        subst e0
        have hav4 := p4.kp.kp _ _ hav3 DS
        have ra4 := ra3.kp p4.kp (fun _ z => nomatch z)
        refine ⟨av, hav4, by rw [ra4.length]; exact sz, _, acc ++ [d2], av ++ [y], upd_same, ?_, ?_, q4⟩
        · have hd4 : Hd c.G [] H4 (upd H4 Dn (.lst (av ++ [y]))) := ⟨⟨_, p4.kp.ok⟩, fun b o z m => by rw [upd_ne (fun w : b = Dn => m (by rw [w, hav4] at z; cases z; trivial))]; exact z, fun _ _ _ z => nomatch z⟩
          have r5 := ra4.append (.cons r4 .nil)
          exact RpA.hd _ _ _ (by simpa using r5) hd4
        · have k14 := k13.trans p4.kp
          exact ⟨fun b o z n => by rw [upd_ne (fun w : b = Dn => by rw [w, hD] at z; cases z)]; exact k14.kp b o z n, fun b z => by
            by_cases w : b = Dn
            · rw [w, upd_same]; exact fun z => nomatch z
            · rw [upd_ne w]; exact k14.dm b z, k14.ok0, c.G.loc H4 _ _ k14.ok (fun b hb => upd_ne fun w => DS (w ▸ hb)) fun b o q m => by rw [upd_ne (fun w : b = Dn => m (by rw [w, hav4] at q; cases q; trivial))]; exact q⟩
  · have ei : i = ds.length := by omega
    subst ei
    rw [List.drop_length] at q
    exact .inl ⟨it.stop H' st, k _ q _ H' [Dn] (p.kp.trans kp) (.lst hav ra) (fun a z => by rw [List.mem_singleton.mp z]; exact p.kp.free hD) (by simp)⟩
/-- no test -/
theorem pts0 : PTs X [] (tT c dYes) := by
  refine ⟨fun pins s σ H Q I h => ?_⟩
  obtain ⟨_, fp, δ, Qd, e, hf, k⟩ := h
  exact pts_nil.run pins s σ H Q I (k true hf H (Kp.refl e.ok))
variable {elt tg iter : Expr} {ifs : List Expr} {scope : Scope} {own : List (Str × Nat)} {pos : Pos} {wv vi va : List Nat} {fi : Env → W (List D)} {h : D → Env → W Env} {t : Env → W Bool} {f : Env → W D}
theorem pn_lc (hc : X.calm = true) (hN : X.N.Nodup) (hi : PI X tg iter (tI c vi fi)) (ok : BlkOk X.N X.env.scope scope own)
    (hg : ∀ (s : Shared) (H : Hp) (C : Addr) (cl : List (Str × Addr)) (fp : List Addr), PG (X.blk s H scope (compEnvC scope cl C X.env) fp) tg (tG (X := X.blk s H scope (compEnvC scope cl C X.env) fp) c wv h))
    (ht : ∀ (s : Shared) (H : Hp) (C : Addr) (cl : List (Str × Addr)) (fp : List Addr), PTs (X.blk s H scope (compEnvC scope cl C X.env) fp) ifs (tT c t))
    (he : ∀ (s : Shared) (H : Hp) (C : Addr) (cl : List (Str × Addr)) (fp : List Addr), PE (X.blk s H scope (compEnvC scope cl C X.env) fp) elt (tD c va f))
    (hw : ∀ i ∈ wv, i ∈ own.map (·.2)) (hs : ∀ x, foldedSetIterable iter X.env x = pure x := by intro _; rfl) : PE X (.ListComp elt [⟨tg, iter, ifs, 0⟩] scope pos) (tN c (dLc (own.map (·.2)) fi h t f)) :=
  (pe_lc hc hN hi ok hg ht he hs).wk fun σ H Q q => tLc_of hw q
theorem sd_setLc {i : Nat} {y : Str} {py spos : Pos} (hc : X.calm = true) (hN : X.N.Nodup) (hy : X.N[i]? = some y) (hyl : X.env.scope.names.lookup y = some .local) (hsw : swapsWith (.ListComp elt [⟨tg, iter, ifs, 0⟩] scope pos) (some (.Name y py)) spos.line X.env = pure true)
    (hi : PI X tg iter (tI c vi fi)) (ok : BlkOk X.N X.env.scope scope own)
    (hg : ∀ (s : Shared) (H : Hp) (C : Addr) (cl : List (Str × Addr)) (fp : List Addr), PG (X.blk s H scope (compEnvC scope cl C X.env) fp) tg (tG (X := X.blk s H scope (compEnvC scope cl C X.env) fp) c wv h))
    (ht : ∀ (s : Shared) (H : Hp) (C : Addr) (cl : List (Str × Addr)) (fp : List Addr), PTs (X.blk s H scope (compEnvC scope cl C X.env) fp) ifs (tT c t))
    (he : ∀ (s : Shared) (H : Hp) (C : Addr) (cl : List (Str × Addr)) (fp : List Addr), PE (X.blk s H scope (compEnvC scope cl C X.env) fp) elt (tD c va f))
    (hw : ∀ i ∈ wv, i ∈ own.map (·.2)) (hs : ∀ x, foldedSetIterable iter X.env x = pure x := by intro _; rfl) : PS X (.Assign [.Name y py] (.ListComp elt [⟨tg, iter, ifs, 0⟩] scope pos) spos) (tS c [i] (sSetN i (dLc (own.map (·.2)) fi h t f))) :=
  (ps_setLc hc hN hy hyl hsw hi ok hg ht he hs).wk fun Dn σ H q => by
    have q2 := tAsg_setN Dn σ H q
    exact tLc_of hw q2
/-- list(range(..)) -/
def listRng (fs : Env → W (List D)) : Env → W D := fun δ => bd (fs δ) fun ds => opt (ints1 ds) fun j => chk (j ≤ 16777216 ∧ 0 ≤ j) (pu (.lst (rngD 0 j.toNat)))
theorem rngA (lo : Int) (n : Nat) (G : Gx X.K) (H : Hp) : RpA G H ((List.range n).map fun i => V.int (lo + (i : Nat))) (rngD lo n) [] := by
  have e : rngD lo n = ((List.range n).map fun i => lo + ((i : Nat) : Int)).map D.int := by simp [rngD, Function.comp_def]
  have e2 : ((List.range n).map fun i => V.int (lo + (i : Nat))) = ((List.range n).map fun i => lo + ((i : Nat) : Int)).map V.int := by simp [Function.comp_def]
  rw [e, e2]
  exact .of_ints
theorem pn_listRng {a : Expr} {p p2 pos2 : Pos} {vs : List Nat} {fa : Env → W D} (hc : X.calm = true) (hg : Gl X "list") (hm : X.mg "list" = none) (hg2 : Gl X "range") (hm2 : X.mg "range" = none) (ha : PE X a (tD c vs fa)) (na : starEach [a] X.env = (false, eval a X.env) :: starEach [] X.env := by rfl)
    (na2 : starEach [.Call (.Name "range" p2) [a] [] pos2] X.env = (false, eval (.Call (.Name "range" p2) [a] [] pos2) X.env) :: starEach [] X.env := by rfl) : PE X (.Call (.Name "list" p) [.Call (.Name "range" p2) [a] [] pos2] [] pos) (tN c (listRng (dCons fa dNil))) :=
  (pe_listRg hc hg hm (prg_1 hg2 hm2 ha na) na2).wk fun σ H Q ⟨_, fp, δ, Qd, e, hf, k⟩ => by
    refine ⟨_, fp, δ, fun d => opt (ints1 [d]) (fun j => chk (j ≤ 16777216 ∧ 0 ≤ j) (pu (D.lst (rngD 0 j.toNat)))) Qd c.xq, e, hf, fun d ⟨j, hj, ⟨h1, h0⟩, q⟩ v H' F p r => ?_⟩
    have ed := ints1_eq hj
    cases ed
    obtain ⟨rfl, _⟩ := r.intI
    refine ⟨j, rfl, .of_le (Int.le_refl 0) h1 (by decide) h0, fun l hl => ?_⟩
    have e2 : rgV 0 j = (List.range j.toNat).map fun i => V.int (0 + (i : Nat)) := by unfold rgV; rw [Int.sub_zero]
    rw [e2]
    exact k _ q _ _ [l] (p.kp.trans (Kp.laid p.kp.ok hl _)) (.lst upd_same (rngA 0 j.toNat _ _)) (fun a z => by rw [List.mem_singleton.mp z]; exact p.kp.free hl) (by simp)
end

/-! ### a def -/
def env0 (N : Nat) (ds : List D) : Env := ds.map some ++ List.replicate (N - ds.length) none
def resD : Fl × Env → W D
  | (.rt d, _) => pu d
  | (.nx, _) => pu .non
  | _ => fl
def bodyD (n N : Nat) (g : Env → W (Fl × Env)) : List D → W D := fun ds => chk (ds.length = n) (bd (g (env0 N ds)) resD)
theorem bodyD_len (n N : Nat) (g : Env → W (Fl × Env)) : Ln n (bodyD n N g) := fun _ _ _ _ h => h.1
theorem RpA.fps {K : PySem.W.Frag} {G : Gx K} {H : Hp} : ∀ {ds : List D} {vs : List V} {F : List Addr}, RpA G H vs ds F → ∃ fp : Nat → List Addr, (∀ i d, ds[i]? = some d → ∃ v, vs[i]? = some v ∧ Rp G H v d (fp i)) ∧ (∀ i, ds.length ≤ i → fp i = []) ∧ ∀ i, ∀ a ∈ fp i, a ∈ F
  | [], _, _, h => ⟨fun _ => [], fun _ _ e => by simp at e, fun _ _ => rfl, fun _ _ z => nomatch z⟩
  | d :: ds, _, _, h => by
    cases h with
    | @cons v _ F1 vs _ F2 h1 h2 =>
      obtain ⟨fp, a, b, s⟩ := RpA.fps h2
      refine ⟨fun i => match i with
        | 0 => F1
        | i + 1 => fp i, fun i d' e => ?_, fun i hi => ?_, fun i a z => ?_⟩
      · cases i with
        | zero => simp at e; subst e; exact ⟨v, rfl, h1⟩
        | succ i =>
          obtain ⟨u, hu, r⟩ := a i d' (by simpa using e)
          exact ⟨u, by simpa using hu, r⟩
      · cases i with
        | zero => simp at hi
        | succ i => exact b i (by simpa using hi)
      · cases i with
        | zero => exact List.mem_append_left _ z
        | succ i => exact List.mem_append_right _ (s i a z)
theorem gt_env0 {N : Nat} {ds : List D} (i : Nat) : gt (env0 N ds) i = ds[i]? := by
  unfold gt env0
  by_cases h : i < ds.length
  · rw [List.getElem?_append_left (by simpa using h), List.getElem?_map]
    cases ds[i]? <;> rfl
  · rw [List.getElem?_append_right (by simpa using h), List.getElem?_replicate]
    rw [List.getElem?_eq_none_iff.mpr (by omega)]
    split <;> rfl
theorem env_start {K : PySem.W.Frag} {G : Gx K} {H : Hp} {N : List Str} {ds : List D} {vs : List V} {F : List Addr} {own : List Nat} {xq : Ex → Nat → Prop} {m0 : Nat} (ok : G.ok H m0) (nF : ∀ a ∈ F, a ∉ G.S) (r : RpA G H vs ds F) (hN : ds.length ≤ N.length) (ho : ∀ i ∈ own, ds.length ≤ i) :
    ∃ fp, EnvOk ⟨G, H, own, xq⟩ fp H (L2.start N vs) (env0 N.length ds) m0 := by
  obtain ⟨fp, a, b, s⟩ := r.fps
  refine ⟨fp, ok, ?_, fun i d q => ?_, fun i q => ?_, fun i x z => nF x (s i x z), fun i hi x z => ?_, fun i hi => ?_, fun i hi j hj x z => ?_, fun _ _ e _ => e⟩
  · unfold L2.start env0
    rw [List.length_append, List.length_append, List.length_map, List.length_map, List.length_replicate, List.length_replicate, r.length]
  · rw [gt_env0] at q
    obtain ⟨v, hv, rv⟩ := a i d q
    refine ⟨v, ?_, rv⟩
    unfold L2.start
    have hl : i < vs.length := (List.getElem?_eq_some_iff.mp hv).1
    rw [List.getElem?_append_left (by simpa using hl), List.getElem?_map, hv]
    rfl
  · rw [gt_env0] at q
    exact b i (List.getElem?_eq_none_iff.mp q)
  · rw [b i (ho i hi)] at z; cases z
  · rw [b i (ho i hi)]; exact List.nodup_nil
  · rw [b i (ho i hi)] at z; cases z
section
variable {P : Program} {w : World} {K : PySem.W.Frag} {mg : Str → Option Value} {base : Heap}
/-- THE RULE for a def whose body is read by data -/
theorem fnD {x qual : Str} {st : Stmt} {f : Addr} {fd : FuncData} {N ps : List Str} {k n : Nat} {own wr : List Nat} {g : Env → DL.W (Fl × Env)} (F : L2.Fun K x qual st f fd) (S : FnScope N ps (defScope st)) (hn : ps.length = n) (hN : n ≤ N.length) (ho : ∀ i ∈ own, n ≤ i)
    (hbody : ∀ (cdv : Value) (A : Around) (outer : List PySem.Env) (s : Shared) (H : Hp) (E : XK), Room k (A.deeper (PyProof.Rows.envOfC qual (defScope st) s.heap.objs.size f cdv)) → (A.deeper (PyProof.Rows.envOfC qual (defScope st) s.heap.objs.size f cdv)).guards = some [] → ∀ (G : Gx K) (H0 : Hp) (xq : Ex → Nat → Prop),
      PSs (cxOf CX0 P w K mg base N qual (defScope st) f cdv A outer s H E).nox (defBody st) (tS ⟨G, H0, own, xq⟩ wr g)) : FnG P w K mg base CX0 (k + 1) f fd ps (spD (K := K) (bodyD n N.length g)) := by
  obtain ⟨oc, od, kV, doc, pm, an, cdv, ct, osl, rfl, lk, hcd⟩ := F.ex
  refine fnG_of lk hcd S (spD_len (bodyD_len n N.length g) hn) fun A outer s H vs Q E hr gd ⟨_, G, ds, Fp, Qd, Xq, ok, nF, r, ⟨hl, hf⟩, kq⟩ => ?_
  refine ⟨_, (hbody cdv A outer s H E hr (deep_guards gd) G H Xq).nox, ?_⟩
  obtain ⟨fp, e⟩ := env_start (N := N) (own := own) (xq := Xq) ok nF r (by rw [hl]; exact hN) (fun i hi => by rw [hl]; exact ho i hi)
  refine ⟨_, fp, _, fun r => resD r Qd Xq, e, hf, fun f δ' q => ?_⟩
  have kp_of : ∀ {H' : Hp} {m1 : Nat}, G.ok H' m1 → (∀ b o, H b = some o → b ∉ G.S → H' b = some o) → Kp G H H' m1 := fun {H' m1} ok' fr => by
    refine ⟨fr, fun b z => ?_, ⟨_, ok⟩, ok'⟩
    by_cases hb : b ∈ G.S
    · intro z2
      have m := G.mu H' _ ok' b hb
      rw [z2] at m
      exact m
    · cases q : H b with
      | none => exact absurd q z
      | some o => rw [fr b o q hb]; exact fun z => nomatch z
  cases f with
  | rt d => exact fun v F H' ok' rv fr nd fm => kq d q v H' F (kp_of ok' fm) rv (fun a z => (fr a z).1) nd
  | nx => exact fun fp' H' σ' e' s' => kq .non q .non H' [] (kp_of e'.ok e'.frm) .non (fun _ z => nomatch z) List.nodup_nil
  | bk => exact q.elim
  | ct => exact q.elim
end
end DL
namespace DL
open PySem PySem.Spec PyProof.Rows L2
section
variable {X : Cx} {c : Cd X.K} {e a b : Expr} {es : List Expr} {pos p : Pos} {x : Str} {vs va vb vc : List Nat} {fs : Env → W (List D)} {fa fb fc : Env → W D} {r : List V → Hp → VK → Prop} {op : List D → W D} {T : String}
/-! ### calls of built-in types -/
theorem pd_callTy (hc : CallR X (.type T) r) (hd : CallD c r op) (hg : Gl X x) (hm : X.mg x = none) (hv : bootBuiltins x = some (.type T)) (ha : PA X (e :: es) (tA c vs fs)) (hn : x ≠ "__name__" := by decide) (hdb : (x == ("__debug__" : Str)) = false := by decide)
    (he : starEach (e :: es) X.env = (false, eval e X.env) :: starEach es X.env := by rfl) (hpl : (backTo pos (starEach es X.env)).any (·.1) = false := by rfl) : PE X (.Call (.Name x p) (e :: es) [] pos) (tD c vs (dCB op fs)) :=
  (pe_callTy hc hg hm hv ha hn hdb he hpl).wk (tCB_of hd)
theorem pn_callTy (hc : CallR X (.type T) r) (hd : CallN c r op) (hg : Gl X x) (hm : X.mg x = none) (hv : bootBuiltins x = some (.type T)) (ha : PA X (e :: es) (tA c vs fs)) (hn : x ≠ "__name__" := by decide) (hdb : (x == ("__debug__" : Str)) = false := by decide)
    (he : starEach (e :: es) X.env = (false, eval e X.env) :: starEach es X.env := by rfl) (hpl : (backTo pos (starEach es X.env)).any (·.1) = false := by rfl) : PE X (.Call (.Name x p) (e :: es) [] pos) (tN c (dCB op fs)) :=
  (pe_callTy hc hg hm hv ha hn hdb he hpl).wk (tCB_ofN hd)
/-- the name of a built-in type, as a value -/
theorem pd_ty (hg : Gl X x) (hm : X.mg x = none) (hv : bootBuiltins x = some (.type T)) (hn : x ≠ "__name__" := by decide) (hdb : (x == ("__debug__" : Str)) = false := by decide) : PE X (.Name x p) (tD c [] (dC (.ty T))) :=
  pd_c (v := .ty T) ⟨fun pins s σ H Q I h => ld_blt I hg hm hv ⟨.ty T, H, I, rfl, h⟩ hn hdb⟩ fun _ => .ty T
/-! ### a < b < c as a test -/
theorem pt_ch {op op' : CmpOp} {r r' : R2} {o o' : D → D → W D} {ec : Expr} (ho : OpR X (compareOp op) r) (ho' : OpR X (compareOp op') r') (hd : OpD c r o) (hd' : OpD c r' o') (ha : PE X a (tD c va fa)) (hb : PE X b (tD c vb fb)) (hc : PE X ec (tD c vc fc))
    (hm : lastMarks [op, op'] [b, ec] = false := by with_unfolding_all rfl) : PT X (.Compare a [op, op'] [b, ec] pos) (tT c (dB (dChain o o' fa fb fc))) := (pt_chain ho ho' ha hb hc hm).wk fun σ H Q h => by
  obtain ⟨_, fp, δ, Qd, e, hf, k⟩ := h
  refine tChain_of (va := va) (vb := vb) (vc := vc) hd hd' σ H _ ⟨_, fp, δ, fun d => asB d Qd c.xq, e, hf, fun d qd v H' F p r => ?_⟩
  cases r with
  | bl b => exact ⟨b, rfl, k b qd H' p.kp⟩
  | _ => exact qd.elim
/-! ### a rest that is read with data of its own -/
theorem pss_ex {sts : List Stmt} {w : List Nat} {g : Env → W (Fl × Env)} (h : ∀ c : Cd X.K, PSs X sts (tS c w g)) : PSs X sts (fun Dn σ H => ∃ c : Cd X.K, tS c w g Dn σ H) := ⟨fun pins s σ H Dn I ⟨c, q⟩ => (h c).run pins s σ H Dn I q⟩
end
/-! ### what a call binds -/
theorem kb_of {K : PySem.W.Frag} {x qual : Str} {st : Stmt} {f : Addr} {fd : FuncData} {ps ks : List Str} {n : Nat} {π : List Nat} (F : L2.Fun K x qual st f fd)
    (h : ∀ (kV doc pm : Value) (an : Option Addr) (cdv ct : Value) (us ws : List Value), us.length = n → ws.length = ks.length → bindArgs (PySem.W.fnOf x qual (defArgs st) (defBody st) (defScope st) .none kV doc pm an cdv ct) ⟨us, ks.zip ws⟩ = pure (ps.zip (pick π (us ++ ws)))) : KB K fd ps n ks π := by
  obtain ⟨oc, od, kV, doc, pm, an, cdv, ct, osl, rfl, lk, hcd⟩ := F.ex
  exact ⟨fun s us ws _ h1 h2 => .of_eq (h kV doc pm an cdv ct us ws h1 h2)⟩
end DL
namespace DL
open PySem L2
/-! ### comprehensions whose items are new -/
def lcWN (h : D → Env → W Env) (t : Env → W Bool) (f : Env → W D) (δ : Env) : List D → List D → W (List D)
  | [], acc => pu acc
  | d :: ds, acc => bd (h d δ) fun δ1 => bd (t δ1) fun b => if b = true then bd (f δ1) fun e => chk (acc.length < sizeLine) (lcWN h t f δ ds (acc ++ [e])) else lcWN h t f δ ds acc
theorem lcWN_step (h : D → Env → W Env) (t : Env → W Bool) (f : Env → W D) (δ : Env) (d : D) (ds acc : List D) (k : List D → W D) : bd (lcWN h t f δ (d :: ds) acc) k =
    bd (h d δ) fun δ1 => bd (t δ1) fun b => if b = true then bd (f δ1) fun e => chk (acc.length < sizeLine) (bd (lcWN h t f δ ds (acc ++ [e])) k) else bd (lcWN h t f δ ds acc) k := by
  show (bd (h d δ) fun δ1 => bd (bd (t δ1) _) k) = _
  congr 1
  funext δ1
  rw [bd_bd]
  congr 1
  funext b
  cases b <;> rfl
def dLcN (vs : List Nat) (fi : Env → W (List D)) (h : D → Env → W Env) (t : Env → W Bool) (f : Env → W D) : Env → W D := fun δ => bd (fi δ) fun ds => bd (lcWN h t f (wipeE δ vs) ds []) fun es => pu (.lst es)
section
variable {X : Cx} {c : Cd X.K} {vs : List Nat}
theorem tLcN_of {wv : List Nat} {vi : List Nat} {fi : Env → W (List D)} {h : D → Env → W Env} {t : Env → W Bool} {f : Env → W D} (hw : ∀ i ∈ wv, i ∈ vs) {σ : St} {H : Hp} {Q : VK} (hq : tN c (dLcN vs fi h t f) σ H Q) :
    tLc (tI c vi fi) (tG c wv h) (tT c t) (tN c f) vs σ H Q := by
  obtain ⟨_, fp, δ, Qd, e, hf, k⟩ := hq
  refine ⟨_, fp, δ, fun ds => bd (lcWN h t f (wipeE δ vs) ds []) (fun es => pu (D.lst es)) Qd c.xq, e, hf, fun ds qds J H1 F p it Dn hD => ?_⟩
  have e1 := e.kp p.kp
  have DS := notS0 p.kp.ok hD
  have start : Kp c.G H1 (upd H1 Dn (.lst [])) _ := Kp.laid p.kp.ok hD _
  refine ⟨fun i m H' => m = ds.length - i ∧ i ≤ ds.length ∧ ∃ k1 acc av Fa, H' Dn = some (.lst av) ∧ RpA c.G H' av acc Fa ∧ Fa.Nodup ∧ (∀ a ∈ Fa, a ≠ Dn ∧ H1 a = none) ∧ Kp c.G H1 H' k1 ∧ bd (lcWN h t f (wipeE δ vs) (ds.drop i) acc) (fun es => pu (D.lst es)) Qd c.xq k1,
    ⟨ds.length, rfl, Nat.zero_le _, _, [], [], [], upd_same, .nil, List.nodup_nil, (fun _ z => nomatch z), start, qds⟩, ?_⟩
  rintro i m H' ⟨rfl, hi, _, acc, av, Fa, hav, ra, na, fa, kp, q⟩
  have st : Hs F H1 H' := fun b o z mm => by
    refine kp.kp b o z ?_
    rcases mm with mm | mm
    · exact notS p.kp.ok z mm
    · exact p.nos b mm
  have nS : ∀ a ∈ Fa, a ∉ c.G.S := fun a z => notS0 p.kp.ok (fa a z).2
  by_cases hlt : i < ds.length
  · refine .inr ⟨it.go i H' st hlt, fun H2 => ∃ k1 acc av Fa, H2 Dn = some (.lst av) ∧ RpA c.G H2 av acc Fa ∧ Fa.Nodup ∧ (∀ a ∈ Fa, a ≠ Dn ∧ H1 a = none) ∧ Kp c.G H1 H2 k1 ∧ bd (lcWN h t f (wipeE δ vs) (ds.drop (i + 1)) acc) (fun es => pu (D.lst es)) Qd c.xq k1, fun H2 z => ⟨ds.length - (i + 1), by omega, rfl, hlt, z⟩, fun x H2 y => ?_⟩
    obtain ⟨kp2, d, hd', r⟩ := it.yld i H' x H2 st kp.ok hlt y
    have ed : ds.drop i = d :: ds.drop (i + 1) := by
      rw [List.drop_eq_getElem_cons hlt]
      congr 1
      rw [List.getElem?_eq_getElem hlt] at hd'
      exact Option.some.inj hd'
    rw [ed] at q
    have k12 := kp.trans kp2
    have ew := (e1.kp k12).wipe vs
    have hav2 := kp2.kp _ _ hav DS
    have ra2 := ra.kp kp2 nS
    refine ⟨_, _, wipeE δ vs, d, [], fun δ1 => bd (t δ1) (fun b => if b = true then bd (f δ1) fun e => chk (acc.length < sizeLine) (bd (lcWN h t f (wipeE δ vs) (ds.drop (i + 1)) (acc ++ [e])) fun es => pu (D.lst es)) else bd (lcWN h t f (wipeE δ vs) (ds.drop (i + 1)) acc) fun es => pu (D.lst es)) Qd c.xq, ew, r, ?_, fun δ1 q1 fp1 σ1 e2 s2 => ?_⟩
    · rw [lcWN_step] at q
      exact q
    · have hwe : L2.wipe σ1 vs = L2.wipe σ vs := by
        refine List.ext_getElem? fun j => ?_
        have ln : σ1.length = σ.length := s2.ln.trans (wipe_length _ _)
        rw [wipe_get, wipe_get, ln]
        by_cases hj : j ∈ vs
        · rw [if_pos hj, if_pos hj]
        · rw [if_neg hj, if_neg hj, (s2.sl j fun z => hj (hw j z)).1, wipe_get, if_neg hj]
      refine ⟨hwe, _, fp1, δ1, fun b => (if b = true then bd (f δ1) fun e => chk (acc.length < sizeLine) (bd (lcWN h t f (wipeE δ vs) (ds.drop (i + 1)) (acc ++ [e])) fun es => pu (D.lst es)) else bd (lcWN h t f (wipeE δ vs) (ds.drop (i + 1)) acc) fun es => pu (D.lst es)) Qd c.xq, e2, q1, fun b qb H3 kp3 => ?_⟩
      have k13 := k12.trans kp3
      have hav3 := kp3.kp _ _ hav2 DS
      have ra3 := ra2.kp kp3 nS
      cases b with
      | false => exact ⟨_, acc, av, Fa, hav3, ra3, na, fa, k13, qb⟩
      | true =>
        refine ⟨_, fp1, δ1, fun e => chk (acc.length < sizeLine) (bd (lcWN h t f (wipeE δ vs) (ds.drop (i + 1)) (acc ++ [e])) fun es => pu (D.lst es)) Qd c.xq, e2.kp kp3, qb, fun d2 ⟨sz, q4⟩ y H4 F4 kp4 r4 fr4 nd4 => ?_⟩
        have hav4 := kp4.kp _ _ hav3 DS
        have ra4 := ra3.kp kp4 nS
        have k14 := k13.trans kp4
        have nDn : ∀ a ∈ F4, a ≠ Dn := fun a z w => by
          have := fr4 a z
          rw [w, hav3] at this
          cases this
        refine ⟨av, hav4, by rw [ra4.length]; exact sz, _, acc ++ [d2], av ++ [y], Fa ++ F4, upd_same, ?_, ?_, ?_, ?_, q4⟩
        · have hd4 : Hd c.G (Fa ++ F4) H4 (upd H4 Dn (.lst (av ++ [y]))) := ⟨⟨_, kp4.ok⟩, fun b o z m => by rw [upd_ne (fun w : b = Dn => m (by rw [w, hav4] at z; cases z; trivial))]; exact z, fun b o z hb => by
            rw [upd_ne (fun w : b = Dn => by
              rcases List.mem_append.mp hb with hb | hb
              · exact (fa b hb).1 w
              · exact nDn b hb w)]
            exact z⟩
          have r5 := ra4.append (.cons r4 .nil)
          exact RpA.hd _ _ _ (by simpa using r5) hd4
        · rw [List.nodup_append]
          refine ⟨na, nd4, fun a z b w hab => ?_⟩
          subst hab
          exact RpA.dom _ _ _ ra3 a z (fr4 a w)
        · intro a z
          rcases List.mem_append.mp z with z | z
          · exact fa a z
          · exact ⟨nDn a z, k13.free (fr4 a z)⟩
        · exact ⟨fun b o z n => by rw [upd_ne (fun w : b = Dn => by rw [w, hD] at z; cases z)]; exact k14.kp b o z n, fun b z => by
            by_cases w : b = Dn
            · rw [w, upd_same]; exact fun z => nomatch z
            · rw [upd_ne w]; exact k14.dm b z, k14.ok0, c.G.loc H4 _ _ k14.ok (fun b hb => upd_ne fun w => DS (w ▸ hb)) fun b o q m => by rw [upd_ne (fun w : b = Dn => m (by rw [w, hav4] at q; cases q; trivial))]; exact q⟩
  · have ei : i = ds.length := by omega
    subst ei
    rw [List.drop_length] at q
    refine .inl ⟨it.stop H' st, k _ q _ H' (Dn :: Fa) (p.kp.trans kp) (.lst hav ra) (fun a z => ?_) ?_⟩
    · rcases List.mem_cons.mp z with z | z
      · rw [z]; exact p.kp.free hD
      · exact p.kp.free (fa a z).2
    · exact List.nodup_cons.mpr ⟨fun z => (fa _ z).1 rfl, na⟩
variable {elt tg iter : Expr} {ifs : List Expr} {scope : Scope} {own : List (Str × Nat)} {pos : Pos} {wv vi va : List Nat} {fi : Env → W (List D)} {h : D → Env → W Env} {t : Env → W Bool} {f : Env → W D}
theorem pn_lcN (hc : X.calm = true) (hN : X.N.Nodup) (hi : PI X tg iter (tI c vi fi)) (ok : BlkOk X.N X.env.scope scope own)
    (hg : ∀ (s : Shared) (H : Hp) (C : Addr) (cl : List (Str × Addr)) (fp : List Addr), PG (X.blk s H scope (compEnvC scope cl C X.env) fp) tg (tG (X := X.blk s H scope (compEnvC scope cl C X.env) fp) c wv h))
    (ht : ∀ (s : Shared) (H : Hp) (C : Addr) (cl : List (Str × Addr)) (fp : List Addr), PTs (X.blk s H scope (compEnvC scope cl C X.env) fp) ifs (tT c t))
    (he : ∀ (s : Shared) (H : Hp) (C : Addr) (cl : List (Str × Addr)) (fp : List Addr), PE (X.blk s H scope (compEnvC scope cl C X.env) fp) elt (tN c f))
    (hw : ∀ i ∈ wv, i ∈ own.map (·.2)) (hs : ∀ x, foldedSetIterable iter X.env x = pure x := by intro _; rfl) : PE X (.ListComp elt [⟨tg, iter, ifs, 0⟩] scope pos) (tN c (dLcN (own.map (·.2)) fi h t f)) :=
  (pe_lc hc hN hi ok hg ht he hs).wk fun σ H Q q => tLcN_of hw q
theorem sd_setLcN {i : Nat} {y : Str} {py spos : Pos} (hc : X.calm = true) (hN : X.N.Nodup) (hy : X.N[i]? = some y) (hyl : X.env.scope.names.lookup y = some .local) (hsw : swapsWith (.ListComp elt [⟨tg, iter, ifs, 0⟩] scope pos) (some (.Name y py)) spos.line X.env = pure true)
    (hi : PI X tg iter (tI c vi fi)) (ok : BlkOk X.N X.env.scope scope own)
    (hg : ∀ (s : Shared) (H : Hp) (C : Addr) (cl : List (Str × Addr)) (fp : List Addr), PG (X.blk s H scope (compEnvC scope cl C X.env) fp) tg (tG (X := X.blk s H scope (compEnvC scope cl C X.env) fp) c wv h))
    (ht : ∀ (s : Shared) (H : Hp) (C : Addr) (cl : List (Str × Addr)) (fp : List Addr), PTs (X.blk s H scope (compEnvC scope cl C X.env) fp) ifs (tT c t))
    (he : ∀ (s : Shared) (H : Hp) (C : Addr) (cl : List (Str × Addr)) (fp : List Addr), PE (X.blk s H scope (compEnvC scope cl C X.env) fp) elt (tN c f))
    (hw : ∀ i ∈ wv, i ∈ own.map (·.2)) (hs : ∀ x, foldedSetIterable iter X.env x = pure x := by intro _; rfl) : PS X (.Assign [.Name y py] (.ListComp elt [⟨tg, iter, ifs, 0⟩] scope pos) spos) (tS c [i] (sSetN i (dLcN (own.map (·.2)) fi h t f))) :=
  (ps_setLc hc hN hy hyl hsw hi ok hg ht he hs).wk fun Dn σ H q => by
    have q2 := tAsg_setN Dn σ H q
    exact tLcN_of hw q2
/-! ### xs[k].append(e), the items of xs lists of its own -/
theorem RpA.inner {G : Gx X.K} {H : Hp} {m0 : Nat} (ok : G.ok H m0) : ∀ (j : Nat) {ds : List D} {xs : List V} {F : List Addr} {es : List D}, RpA G H xs ds F → F.Nodup → ds[j]? = some (.lst es) → D.imms es = true →
    ∃ m ys, xs[j]? = some (.ref m) ∧ H m = some (.lst ys) ∧ RpA G H ys es [] ∧ m ∈ F ∧ ∀ ys' es', RpA G H ys' es' [] → RpA G (upd H m (.lst ys')) xs (ds.set j (.lst es')) F
  | _, [], _, _, _, h, _, q, _ => by simp at q
  | 0, d :: ds, _, _, es, h, nd, q, im => by
    cases h with
    | @cons v _ F1 vs _ F2 h1 h2 =>
      have ed : d = .lst es := by simpa using q
      subst ed
      cases h1 with
      | @lst m ys _ F' hm ra =>
        have e0 := RpA.imm_nil _ _ _ ra im
        subst e0
        rw [List.nodup_append] at nd
        have hd : ∀ (F : List Addr) ys', m ∉ F → Hd G F H (upd H m (.lst ys')) := fun F ys' n => ⟨⟨_, ok⟩, fun b o z k => by rw [upd_ne (fun w : b = m => k (by rw [w, hm] at z; cases z; trivial))]; exact z, fun b o z hb => by rw [upd_ne (fun w : b = m => n (w ▸ hb))]; exact z⟩
        refine ⟨m, ys, rfl, hm, ra, by simp, fun ys' es' r => ?_⟩
        show RpA G _ _ (.lst es' :: ds) _
        exact .cons (.lst upd_same (RpA.hd _ _ _ r (hd _ _ fun z => nomatch z))) (RpA.hd _ _ _ h2 (hd _ _ fun z => nd.2.2 m (by simp) m z rfl))
  | j + 1, d :: ds, _, _, es, h, nd, q, im => by
    cases h with
    | @cons v _ F1 vs _ F2 h1 h2 =>
      rw [List.nodup_append] at nd
      obtain ⟨m, ys, e1, hm, ra, mf, k⟩ := RpA.inner ok j h2 nd.2.1 (by simpa using q) im
      refine ⟨m, ys, by simpa using e1, hm, ra, List.mem_append_right _ mf, fun ys' es' r => ?_⟩
      have hd : Hd G F1 H (upd H m (.lst ys')) := ⟨⟨_, ok⟩, fun b o z k => by rw [upd_ne (fun w : b = m => k (by rw [w, hm] at z; cases z; trivial))]; exact z, fun b o z hb => by rw [upd_ne (fun w : b = m => nd.2.2 m (w ▸ hb) m mf rfl)]; exact z⟩
      show RpA G _ _ (d :: ds.set j (.lst es')) _
      exact .cons (Rp.hd _ _ _ h1 hd) (k ys' es' r)
variable {o b a : Expr} {va vb : List Nat} {fa fb : Env → W D} {cpos apos spos : Pos} {i : Nat}
/-- a store to what hangs below a slot of its own -/
theorem EnvOk.wrIn {fp : Nat → List Addr} {H : Hp} {σ : St} {δ : Env} {l m : Addr} {xs ys' : List V} {ys : List V} {ds ds' : List D} {F : List Addr} {m0 : Nat} (e : EnvOk c fp H σ δ m0) (ho : i ∈ c.own) (hg : lsA δ i = some ds) (hσ : σ[i]? = some (some (.ref l))) (hl : H l = some (.lst xs)) (hf : fp i = l :: F) (hm : H m = some (.lst ys)) (mf : m ∈ F)
    (r : RpA c.G (upd H m (.lst ys')) xs ds' F) : EnvOk c fp (upd H m (.lst ys')) σ (δ.set i (some (.lst ds'))) m0 ∧ Step c [i] fp H σ fp (upd H m (.lst ys')) σ := by
  have mi : m ∈ fp i := by rw [hf]; simp [mf]
  have mS := e.nos i m mi
  have nlm : l ≠ m := fun z => by
    have := e.ndp i ho
    rw [hf] at this
    exact (List.nodup_cons.mp this).1 (z ▸ mf)
  have hi : i < δ.length := by
    rw [← e.len]
    exact (List.getElem?_eq_some_iff.mp hσ).1
  have hd : ∀ {F : List Addr}, m ∉ F → Hd c.G F H (upd H m (.lst ys')) := fun {F} n => ⟨⟨_, e.ok⟩, fun b o q k => by
    rw [upd_ne (fun z => k (by rw [z, hm] at q; cases q; trivial))]; exact q, fun b o q hb => by rw [upd_ne (fun z : b = m => n (by rw [← z]; exact hb))]; exact q⟩
  have okl : c.G.ok (upd H m (.lst ys')) m0 := c.G.loc H _ _ e.ok (fun b hb => upd_ne fun z => mS (z ▸ hb)) fun b o q k => by rw [upd_ne (fun z => k (by rw [z, hm] at q; cases q; trivial))]; exact q
  refine ⟨⟨okl, by rw [List.length_set]; exact e.len, fun j d q => ?_, fun j q => ?_, e.nos, e.frs, e.ndp, e.sep, fun b o q n => ?_⟩, ⟨fun _ _ => ⟨rfl, rfl⟩, fun b o q n hb => ?_, fun j hj ho a ha => .inr ⟨j, hj, ho, ha⟩, fun b q => ?_, rfl⟩⟩
  · rw [gt_set hi] at q
    by_cases h : j = i
    · subst h
      rw [if_pos rfl] at q
      cases q
      refine ⟨_, hσ, ?_⟩
      rw [hf]
      exact .lst (by rw [upd_ne nlm]; exact hl) r
    · rw [if_neg h] at q
      obtain ⟨v, hv, rv⟩ := e.rep j d q
      exact ⟨v, hv, Rp.hd _ _ _ rv (hd (e.sep i ho j h m mi))⟩
  · rw [gt_set hi] at q
    by_cases h : j = i
    · rw [if_pos h] at q; cases q
    · rw [if_neg h] at q; exact e.emp j q
  · rw [upd_ne fun z => by
      have := e.frs i ho m mi
      rw [z, this] at q
      cases q]
    exact e.frm b o q n
  · rw [upd_ne (fun z : b = m => hb i (by simp) ho (by rw [z]; exact mi))]
    exact q
  · by_cases h : b = m
    · rw [h, upd_same]; exact fun z => nomatch z
    · rw [upd_ne h]; exact q
def sAppIx (i : Nat) (fk f : Env → W D) : Env → W (Fl × Env) := fun δ => opt (lsA δ i) fun ds => bd (fk δ) fun kd => bd (asI kd) fun k => opt (ixN ds.length k) fun j => opt (ds[j]?.bind lsD) fun es => bd (f δ) fun d => chk (D.imms es = true ∧ d.imm = true ∧ es.length < sizeLine) (pu (.nx, δ.set i (some (.lst (ds.set j (.lst (es ++ [d])))))))
theorem sd_appIx (i : Nat) (ho : i ∈ c.own) (hv : PE X o (tVar i)) (hk : PE X b (tD c vb fb)) (ha : PE X a (tD c va fa)) (hs : PlainIx b) {ipos : Pos} (hbase : attributeBase (.Subscript o b ipos) "append" X.env (eval (.Subscript o b ipos) X.env) = eval (.Subscript o b ipos) X.env := by rfl)
    (hfew : ((backTo cpos (starEach (a :: []) X.env)).all (fun x => !x.1) && (backToKw cpos (keywordEach [] X.env)).all (fun x => x.1.isSome) && decide ((a :: ([] : List Expr)).length + ([] : List Keyword).length + (if ([] : List Keyword).isEmpty then 0 else 1) < 30)) = true := by rfl)
    (hline : (apos.endLine == cpos.line) = true := by rfl) (hs1 : starEach (a :: []) X.env = (false, eval a X.env) :: starEach [] X.env := by rfl) (hpl : (backTo cpos (starEach ([] : List Expr) X.env)).any (·.1) = false := by rfl)
    (hsw : swapsWith (.Call (.Attribute (.Subscript o b ipos) "append" apos) [a] [] cpos) none pos.line X.env = pure false := by rfl) : PS X (.Expr (.Call (.Attribute (.Subscript o b ipos) "append" apos) [a] [] cpos) pos) (tS c [i] (sAppIx i fb fa)) :=
  (ps_expr (pe_bm PySem.F.plainAttrs_list PySem.F.slot_list_append PySem.F.type_list_append mt_append (pe_ix xr_ix hv hk hs) (pa_cons ha pa_nil hs1) hbase hfew hline hs1 hpl) hsw).wk fun Dn σ H ⟨_, fp, δ, Qd, e, ⟨ds, hds, hf⟩, k⟩ => by
    obtain ⟨v, hv, r⟩ := e.rep i _ (lsA_eq hds)
    refine ⟨v, hv, _, fp, δ, fun kd => bd (asI kd) (fun k => opt (ixN ds.length k) fun j => opt (ds[j]?.bind lsD) fun es => bd (fa δ) fun d => chk (D.imms es = true ∧ d.imm = true ∧ es.length < sizeLine) (pu (Fl.nx, δ.set i (some (.lst (ds.set j (.lst (es ++ [d])))))))) Qd c.xq, e, hf, fun kd qk y H1 F1 p1 r1 => ?_⟩
    cases r1 with
    | int n =>
      obtain ⟨j, hj, es, hes, q⟩ := qk
      have hes2 : ds[j]? = some (.lst es) := by
        cases z : ds[j]? with
        | none => rw [z] at hes; cases hes
        | some d0 =>
          rw [z] at hes
          have z2 : lsD d0 = some es := hes
          unfold lsD at z2
          split at z2
          · cases z2; rfl
          · cases z2
      have e1 := e.kp p1.kp
      obtain ⟨v', hv', r'⟩ := e1.rep i _ (lsA_eq hds)
      have ev : v' = v := by rw [hv] at hv'; cases hv'; rfl
      subst ev
      generalize hF : fp i = F at r'
      cases r' with
      | @lst l xs _ F' hl ax =>
        have nd := e1.ndp i ho
        rw [hF] at nd
        have nd' := (List.nodup_cons.mp nd).2
        obtain ⟨v2, F2, e2, r2, _⟩ := ax.get hes2
        refine .inl ⟨l, xs, _, v2, rfl, rfl, SqL.of hl, by unfold L2.atI; rw [ax.length, hj]; exact e2, ?_⟩
        obtain ⟨m, ys, rfl, hm, ra⟩ : ∃ m ys, v2 = .ref m ∧ H1 m = some (.lst ys) ∧ True := by
          cases r2 with
          | lst a b => exact ⟨_, _, rfl, a, trivial⟩
        refine ⟨.inl ⟨rfl, _, SqL.of hm⟩, _, fp, δ, fun d => chk (D.imms es = true ∧ d.imm = true ∧ es.length < sizeLine) (pu (Fl.nx, δ.set i (some (.lst (ds.set j (.lst (es ++ [d]))))))) Qd c.xq, e1, q, fun d ⟨⟨im, imd, sz⟩, q⟩ u H2 F3 p2 r3 => ?_⟩
        have e0 := Rp.imm_nil _ _ _ r3 imd
        subst e0
        have e2' := e1.kp p2.kp
        have ax2 := ax.kp p2.kp fun a z => e1.nos i a (by rw [hF]; simp [z])
        have hl2 := p2.kp.kp _ _ hl (e1.nos i l (by rw [hF]; simp))
        obtain ⟨m2, ys2, em, hm2, ra2, mf2, kk⟩ := RpA.inner p2.kp.ok j ax2 nd' hes2 im
        have em2 : m2 = m := by rw [e2] at em; cases em; rfl
        subst em2
        refine ⟨m2, ys2, u, rfl, rfl, hm2, by rw [ra2.length]; exact sz, ?_⟩
        have ra3 : RpA c.G H2 (ys2 ++ [u]) (es ++ [d]) [] := by simpa using ra2.append (.cons r3 .nil)
        obtain ⟨e4, s4⟩ := e2'.wrIn ho hds hv hl2 hF hm2 mf2 (kk _ _ ra3)
        exact k _ _ q _ _ _ e4 ((Step.of_kp (p1.kp.trans p2.kp)).trans s4)
    | _ => exact qk.elim
end
end DL
namespace DL
open PySem PySem.Spec PyProof.Rows L2
/-! ### the law -/
/-- the promise of a law's def: a script of at most 63 whole numbers, and True -/
def spLaw (K : PySem.W.Frag) : Sp := fun vs H Q _ => ∃ (a : Addr) (ns : List Int), vs = [.ref a] ∧ Frz K H a (ns.map V.int) ∧ ns.length ≤ 63 ∧ ∀ H', Q (.bl true) H'
/-- what is tracked at a law's start: the script, where it is no object of the module -/
def scr (K : PySem.W.Frag) (a : Addr) (o : Obj) (ns : List Int) : Hp := fun b => if b = a ∧ K.lookup a = none then some (.frz o (.lst (ns.map V.int))) else none
theorem scr_some {K : PySem.W.Frag} {a b : Addr} {o : Obj} {ns : List Int} {u : HO} (h : scr K a o ns b = some u) : b = a ∧ K.lookup a = none ∧ u = .frz o (.lst (ns.map V.int)) := by
  unfold scr at h
  by_cases q : b = a ∧ K.lookup a = none
  · rw [if_pos q] at h
    exact ⟨q.1, q.2, (Option.some.inj h).symm⟩
  · rw [if_neg q] at h
    cases h
theorem walkG {l : PySem.W.OpenLaw} {k : Nat} {q : Program} {loose : List Str} {XP : (Str → Option Value) → Heap → Prop} {YP : World → Heap → Prop} {d : DefRec} {K : Params → PySem.W.Frag} {x : Str}
    (hn : l.most = some 63) (hdf : d.params.defaults = []) (hr : Room k callerA) (hY : ∀ (w : World) (h : Heap), YP w h → (K w.params).In h)
    (F : ∀ (w : World) (mg : Str → Option Value) (fa : Addr) (h : Heap), (K w.params).In h → h.Ns mainGlobals mg → mg d.name = some (.ref fa) →
      ∃ fd : FuncData, (∀ (s : Shared) (u : Value), BindsTo s fd ⟨[u], []⟩ [(x, u)]) ∧ ∀ base : Heap, (K w.params).In base → base.Ns mainGlobals mg → FnG l.prog w (K w.params) mg base CX0 k fa fd [x] (spLaw (K w.params))) :
    PySem.W.WalkO q loose XP YP l.row.toRowW d [] (fun f vs => PySem.call f vs) := by
  refine Att.attach_call hn hdf fun w s₀ s₁ mg mb fa o pm cd doc a vs ns G Y ho hd hcd hmg hobj hints hlen hg => ?_
  have KX := hY w _ Y
  obtain ⟨fd, hb, hF⟩ := F w mg fa _ KX G.T.g hmg
  have rv : Vals (ns.map V.int) vs := vals_ints hints
  have small : ns.length ≤ sizeLine := Nat.le_trans hlen (by decide)
  let H := scr (K w.params) a { cls := .type "list", data := .seq vs.toArray } ns
  have here : ∀ {b : Addr} {u : HO}, H b = some u → b = a ∧ (K w.params).lookup a = none ∧ u = _ := fun z => scr_some z
  have off : ∀ {b : Addr}, b ≠ a → H b = none := fun {b} n => if_neg fun z => n z.1
  -- names of the module are no lists
  have nsOff : ∀ {b : Addr} {m : Str → Option Value}, s₁.heap.Ns b m → (hidT s₁.heap H).Ns b m := fun {b m} ⟨ob, es, ep, e, dd, r⟩ => by
    refine ⟨ob, es, ep, hidT_get e (off fun z => ?_), dd, r⟩
    rw [z, hobj] at e
    cases e
    cases dd
  have inK : (K w.params).In (hidT s₁.heap H) := fun b ob e => hidT_get (KX b ob e) (by
    cases z : H b with
    | none => rfl
    | some u =>
      obtain ⟨rfl, z2, _⟩ := here z
      rw [z2] at e
      cases e)
  have hok : HOk l.prog w H s₁.heap := fun b u z => by
    obtain ⟨rfl, _, rfl⟩ := here z
    exact ⟨hobj, by rw [List.length_map]; exact small, vs, _, rv, hobj⟩
  have fz : Frz (K w.params) H a (ns.map V.int) := by
    cases z : (K w.params).lookup a with
    | none => exact .inl ⟨_, if_pos ⟨rfl, z⟩⟩
    | some ob =>
      have e := KX a ob z
      rw [hobj] at e
      cases e
      exact .inr ⟨_, vs.toArray, _, z, rfl, rfl, rfl, by rw [List.size_toArray, hints.length]; exact small, by simpa using rv⟩
  have e0 : Env0 l.prog w (K w.params) mg (hidT s₁.heap H) callerA [] s₁ H :=
    ⟨rfl, ⟨inK, nsOff G.T.g, ⟨mb, nsOff G.T.b, G.T.builtins⟩, let ⟨mc, h1, h2⟩ := G.T.nolimit; ⟨mc, nsOff h1, h2⟩⟩, fun b ob e => of_hidT e, Nat.le_of_eq (hidT_size _ _), trivial, fun b hb => (nomatch hb), hok, .of_eq hg⟩
  refine codeAny_mono ((hF _ inK (nsOff G.T.g)).run callerA [] s₁ H ⟨[.ref a], []⟩ [.ref a] [.ref a] (fun v _ => v = .bl true) (fun _ _ _ => False) hr rfl e0 (hb s₁ (.ref a)) (.cons rfl .nil) ⟨a, ns, rfl, fz, hlen, fun _ => rfl⟩) fun r s' z => ?_
  cases r with
  | error e => exact z.elim
  | ok fl =>
    cases fl with
    | next => exact False.elim z
    | brk => exact False.elim z
    | cont => exact False.elim z
    | ret u =>
      obtain ⟨v, H', os, bare, un, hok', r', q⟩ := z
      have q2 : v = .bl true := q
      subst q2
      have r2 : u = Value.bool true := r'
      subst r2
      refine ⟨rfl, OldK.of_keep fun b ob e => ?_, os, bare⟩
      cases z : H b with
      | none => exact un.keep b ob e z (fun z => nomatch z) (by simp)
      | some u =>
        obtain ⟨rfl, _, rfl⟩ := here z
        have z2 := un.frzs _ _ _ z
        have e2 := (hok' _ _ z2).1
        rw [hobj] at e
        cases e
        exact e2
end DL
namespace DL
open PySem PySem.Spec PyProof.Rows L2
theorem hu65 {k : Nat} {A : Around} (r : Room k A) : A.units + 65 < cLine := by have := r.un; omega
/-! ### sorted, tuples of whole numbers -/
def intsT : D → Option (List Int)
  | .tup ds => intsD ds
  | _ => none
def intsTs : List D → Option (List (List Int))
  | [] => some []
  | d :: ds => (intsT d).bind fun n => (intsTs ds).map (n :: ·)
/-- before or alike, as tuples stand -/
def leT : List Int → List Int → Prop
  | [], _ => True
  | _ :: _, [] => False
  | x :: xs, y :: ys => x < y ∨ (x = y ∧ leT xs ys)
def rSortedT (K : PySem.W.Frag) : List V → Hp → VK → Prop := fun vs H Q => ∃ (a : Addr) (xs : List V) (key : V → List Int), vs = [V.ref a] ∧ SqL K H a xs ∧ (∀ x ∈ xs, key x ≠ [] ∧ ∃ t, x = .ref t ∧ SqT K H t ((key x).map V.int)) ∧
  ∀ (ys : List V) (p : Addr), ys.Perm xs → ys.Pairwise (fun x y => leT (key x) (key y)) → H p = none → Q (.ref p) (upd H p (.lst ys))
def lTups : D → Option (List (List Int))
  | .lst ds => intsTs ds
  | .frz ds => intsTs ds
  | _ => none
def sortTD (d : D) : W D := opt (lTups d) fun ns => chk (∀ n ∈ ns, n ≠ []) fun Q _ n => ∀ ms : List (List Int), ms.Perm ns → ms.Pairwise leT → Q (.lst (ms.map fun m => .tup (m.map D.int))) n
theorem lex_leT : ∀ (a b : List Int), PyProof.Rows.lexLt PyProof.Rows.itemOrd (b.map Sum.inl) (a.map Sum.inl) = false → leT a b
  | [], _, _ => trivial
  | x :: xs, [], h => by simp [PyProof.Rows.lexLt] at h
  | x :: xs, y :: ys, h => by
    rw [List.map_cons, List.map_cons, PyProof.Rows.lex_cons] at h
    have e1 : PyProof.Rows.itemOrd.blt (Sum.inl y) (Sum.inl x) = decide (y < x) := rfl
    have e2 : PyProof.Rows.itemOrd.blt (Sum.inl x) (Sum.inl y) = decide (x < y) := rfl
    rw [e1, e2] at h
    by_cases h1 : y < x
    · simp [h1] at h
    · by_cases h2 : x < y
      · exact .inl h2
      · refine .inr ⟨by omega, lex_leT xs ys ?_⟩
        simpa [h1, h2] using h
theorem tups_of {h : Heap} {sh : Nat → Bool} : ∀ {vs : List Value}, (∀ v ∈ vs, ∃ f, PyProof.Rows.TupOf h sh v f) → ∃ fs, PyProof.Rows.TupsOf h sh vs fs
  | [], _ => ⟨[], .nil⟩
  | v :: vs, H => by
    obtain ⟨f, hf⟩ := H v List.mem_cons_self
    obtain ⟨fs, hfs⟩ := tups_of (vs := vs) fun v hv => H v (List.mem_cons_of_mem _ hv)
    exact ⟨f :: fs, .cons hf hfs⟩
theorem items_of : ∀ {vs : List Value} {ns : List Int} (i : Nat), IntsAre vs ns → PyProof.Rows.tupItems (fun _ => false) i vs = some (ns.map Sum.inl)
  | _, _, _, .nil => rfl
  | _, _, i, .cons n t h => by
    show (if false = true then none else (PyProof.Rows.tupItems (fun _ => false) (i + 1) _).map (Sum.inl n :: ·)) = _
    rw [if_neg Bool.false_ne_true, items_of (i + 1) h]
    rfl
section
variable {X : Cx} {c : Cd X.K}
theorem cr_sortedT : CallR X (.builtin "sorted") (rSortedT X.K) := by
  intro pins s σ H vs us Q I r h
  obtain ⟨a, xs, key, rfl, hs, hx, q⟩ := h
  obtain ⟨its, rv, hl, hz⟩ := I.list hs
  rw [Vals.ref1 r]
  obtain ⟨e1, e2⟩ := bkV_refs rv fun x m => by
    obtain ⟨_, t, e, _⟩ := hx x m
    exact ⟨t, e⟩
  have raw : ∀ v ∈ its, key (bkV v) ≠ [] ∧ ∃ t xs, v = .ref t ∧ s.heap.IsTuple t xs ∧ IntsAre xs.toList (key (bkV v)) := fun v hv => by
    obtain ⟨t, rfl⟩ := e2 v hv
    have hm : V.ref t ∈ xs := by
      rw [e1]
      exact List.mem_map.mpr ⟨_, hv, rfl⟩
    obtain ⟨h0, t', e, ht⟩ := hx _ hm
    cases e
    obtain ⟨t2, xs2, e2, hT, hi⟩ := tupI_raw I ht
    exact ⟨h0, t2, xs2, e2, hT, hi⟩
  have keyed : ∀ v ∈ its, PyProof.Rows.G.tupKeyC s.heap (fun _ => false) v = some ((key (bkV v)).map Sum.inl) := fun v hv => by
    obtain ⟨_, t, zs, rfl, ⟨o, ho, hc, n, hd⟩, hi⟩ := raw v hv
    unfold PyProof.Rows.G.tupKeyC
    have e1 : PyProof.Rows.G.isTupObj s.heap (.ref t) = true := by simp [PyProof.Rows.G.isTupObj, ho, hc]
    rw [if_pos e1]
    simp only [PyProof.Rows.tupKey, ho, hd]
    exact items_of 0 hi
  obtain ⟨fs, hfs⟩ := tups_of (h := s.heap) (sh := fun _ => false) (vs := its) fun v hv => by
    obtain ⟨h0, t, zs, rfl, ⟨o, ho, hc, n, hd⟩, hi⟩ := raw v hv
    generalize hk : key (bkV (.ref t)) = ks at h0 hi
    generalize hz : zs.toList = zl at hi
    cases hi with
    | nil => exact absurd rfl h0
    | cons m tk rest =>
      exact ⟨_, t, o, zs, n, rfl, ho, hc, hd, by rw [← Array.getElem?_toList, hz]; rfl, (fun _ => ⟨_, _, rfl⟩), (fun z => nomatch z)⟩
  have hz' : its.length ≤ sizeLine := by rw [← rv.length]; exact hz
  refine PyProof.Rows.G.sorted_tups (fs := fs) hl.isList hfs (fun v hv => ⟨_, keyed v hv⟩) hz' fun st' hp hs hst => ?_
  obtain ⟨ep, he'⟩ := PyProof.Rows.sortedAll_at s.heap its ((PyProof.Rows.arrOf st').map (·.2))
  have hpl : (PyProof.Rows.arrOf st').toList.Perm (its.zip its) := by
    have := Array.perm_iff_toList_perm.mp hp
    rw [PyProof.Rows.pairsOf_toList] at this
    exact this
  have hmem : ∀ p ∈ (PyProof.Rows.arrOf st').toList, p.1 = p.2 ∧ p.1 ∈ its := fun p hp' => PyProof.Rows.mem_zip_self (hpl.mem_iff.mp hp')
  have hout : ((PyProof.Rows.arrOf st').map (·.2)).toList.Perm its := by
    rw [Array.toList_map]
    have := hpl.map (·.2)
    rwa [List.map_snd_zip (Nat.le_refl _)] at this
  have h3 : ∀ u ∈ ((PyProof.Rows.arrOf st').map (·.2)).toList, ∃ a, u = Value.ref a := fun u hu => e2 u (hout.mem_iff.mp hu)
  have hp2 : (((PyProof.Rows.arrOf st').map (·.2)).toList.map bkV).Perm xs := by
    rw [e1]
    exact hout.map bkV
  have hlen : (((PyProof.Rows.arrOf st').map (·.2)).toList.map bkV).length ≤ sizeLine := by
    rw [hp2.length_eq]
    exact hz
  refine ⟨.ref _, upd H (s.heap.objs.size + 1) (.lst (((PyProof.Rows.arrOf st').map (·.2)).toList.map bkV)), I.laid (t' := s.toks) (fun _ _ => PyProof.Rows.sortedAll_old) (Nat.le_succ _) ⟨hlen, _, ep, bkV_vals h3, he'⟩, rfl, q _ _ hp2 ?_ (I.hok.fresh (Nat.le_succ _))⟩
  rw [Array.toList_map, List.pairwise_map, List.pairwise_map]
  refine List.pairwise_iff_getElem.mpr fun i j hi hj hij => ?_
  have sz : (PyProof.Rows.arrOf st').toList.length = its.length := by rw [hpl.length_eq, List.length_zip, Nat.min_self]
  have hkk := hs i j (Nat.le_of_lt hij) (by rw [PyProof.Rows.pairsOf_size, ← sz]; exact hj)
  have kk : ∀ (m : Nat) (hm : m < (PyProof.Rows.arrOf st').toList.length), PyProof.Rows.KK (PyProof.Rows.G.tupKindC s.heap fun _ => false) (PyProof.Rows.arrOf st') m = (key (bkV (PyProof.Rows.arrOf st').toList[m].2)).map Sum.inl := fun m hm => by
    unfold PyProof.Rows.KK
    rw [← Array.getElem?_toList, List.getElem?_eq_getElem hm]
    obtain ⟨h1, h2⟩ := hmem _ (List.getElem_mem hm)
    show (PyProof.Rows.G.tupKeyC s.heap (fun _ => false) (PyProof.Rows.arrOf st').toList[m].1).getD [] = _
    rw [keyed _ h2, h1]
    rfl
  rw [kk i hi, kk j hj] at hkk
  exact lex_leT _ _ hkk
theorem intsTs_get : ∀ {ds : List D} {ns : List (List Int)}, intsTs ds = some ns → ds = ns.map fun n => D.tup (n.map D.int)
  | [], _, h => by cases h; rfl
  | d :: ds, ns, h => by
    unfold intsTs at h
    obtain ⟨n, h1, h2⟩ := Option.bind_eq_some_iff.mp h
    obtain ⟨ms, h3, rfl⟩ := Option.map_eq_some_iff.mp h2
    cases d with
    | tup es =>
      have h1' : intsD es = some n := h1
      rw [List.map_cons, ← intsTs_get h3, ← intsD_eq h1']
    | _ => cases h1
theorem rp_tups {G : Gx X.K} {H : Hp} : ∀ {ns : List (List Int)} {xs : List V} {F : List Addr}, RpA G H xs (ns.map fun n => D.tup (n.map D.int)) F → F = [] ∧ xs.length = ns.length ∧ ∀ i (hi : i < xs.length) (hn : i < ns.length), ∃ t, xs[i] = .ref t ∧ SqT X.K H t (ns[i].map V.int)
  | [], _, _, h => by cases h; exact ⟨rfl, rfl, fun i hi => absurd hi (Nat.not_lt_zero i)⟩
  | n :: ns, _, _, h => by
    rw [List.map_cons] at h
    cases h with
    | cons h1 h2 =>
      obtain ⟨rfl, l, k⟩ := rp_tups h2
      obtain ⟨t, zs, rfl, sx, ax⟩ := h1.tupI
      obtain ⟨rfl, rfl⟩ := ax.ints
      refine ⟨rfl, by rw [List.length_cons, List.length_cons, l], fun i hi hn => ?_⟩
      cases i with
      | zero => exact ⟨t, rfl, sx⟩
      | succ i => exact k i (by simpa using hi) (by simpa using hn)
/-- by places -/
def rSortedP (K : PySem.W.Frag) : List V → Hp → VK → Prop := fun vs H Q => ∃ (a : Addr) (xs : List V) (ns : List (List Int)), vs = [V.ref a] ∧ SqL K H a xs ∧ (∀ n ∈ ns, n ≠ []) ∧ xs.length = ns.length ∧ (∀ i (hi : i < xs.length) (hn : i < ns.length), ∃ t, xs[i] = .ref t ∧ SqT K H t (ns[i].map V.int)) ∧
  ∀ (ys : List V) (ms : List (List Int)) (p : Addr), ys.length = ms.length → (∀ i (hi : i < ys.length) (hn : i < ms.length), ∃ t, ys[i] = .ref t ∧ SqT K H t (ms[i].map V.int)) → ms.Perm ns → ms.Pairwise leT → H p = none → Q (.ref p) (upd H p (.lst ys))
theorem cr_sortedP : CallR X (.builtin "sorted") (rSortedP X.K) := by
  intro pins s σ H vs us Q I r h
  obtain ⟨a, xs, ns, rfl, hs, hne, hl, hx, q⟩ := h
  let key : V → List Int := fun x => match x with
    | .ref t => TS.intsOf s.heap (.ref t)
    | _ => []
  have kx : ∀ i (hi : i < xs.length) (hn : i < ns.length), key xs[i] = ns[i] := fun i hi hn => by
    obtain ⟨t, e, ht⟩ := hx i hi hn
    rw [e]
    exact (tupI_raw I ht).ints
  have km : xs.map key = ns := by
    refine List.ext_getElem (by rw [List.length_map, hl]) fun i h1 h2 => ?_
    rw [List.getElem_map]
    exact kx i (by simpa using h1) h2
  have kt : ∀ x ∈ xs, ∃ t, x = .ref t ∧ SqT X.K H t ((key x).map V.int) := fun x m => by
    obtain ⟨i, hi, rfl⟩ := List.mem_iff_getElem.mp m
    have hn : i < ns.length := hl ▸ hi
    obtain ⟨t, e, ht⟩ := hx i hi hn
    exact ⟨t, e, by rw [kx i hi hn]; exact ht⟩
  refine cr_sortedT pins s σ H _ us Q I r ⟨a, xs, key, rfl, hs, fun x m => ⟨?_, kt x m⟩, fun ys p hp hsrt hn => q ys (ys.map key) p (by rw [List.length_map]) (fun i hi hm => ?_) ?_ (List.pairwise_map.mpr hsrt) hn⟩
  · exact hne _ (km ▸ List.mem_map.mpr ⟨x, m, rfl⟩)
  · rw [List.getElem_map]
    exact kt _ (hp.mem_iff.mp (List.getElem_mem hi))
  · have := hp.map key
    rwa [km] at this
theorem of_tups {G : Gx X.K} {H : Hp} : ∀ {ns : List (List Int)} {xs : List V}, xs.length = ns.length → (∀ i (hi : i < xs.length) (hn : i < ns.length), ∃ t, xs[i] = .ref t ∧ SqT X.K H t (ns[i].map V.int)) → RpA G H xs (ns.map fun n => D.tup (n.map D.int)) []
  | [], [], _, _ => .nil
  | [], _ :: _, h, _ => by simp at h
  | _ :: _, [], h, _ => by simp at h
  | n :: ns, x :: xs, h, k => by
    obtain ⟨t, rfl, ht⟩ := k 0 (Nat.succ_pos _) (Nat.succ_pos _)
    have := of_tups (G := G) (ns := ns) (xs := xs) (by simpa using h) fun i hi hn => k (i + 1) (by simpa using hi) (by simpa using hn)
    have h0 := RpA.cons (Rp.tup (G := G) ht .of_ints) this
    simpa using h0
theorem cn_sortT : CallN c (rSortedP X.K) (a1 sortTD) := by
  intro n H us ds F Qd Q ok ns r q k
  unfold a1 at q
  split at q
  · obtain ⟨v, rfl, r0⟩ := r.one
    obtain ⟨ms, e, hne, q⟩ := q
    obtain ⟨a, xs, es, F', rfl, sx, ax, he⟩ : ∃ a xs es F', v = .ref a ∧ SqL X.K H a xs ∧ RpA c.G H xs es F' ∧ intsTs es = some ms := by
      rename_i d
      cases d with
      | lst es =>
        obtain ⟨a, xs, F', rfl, sx, ax, _⟩ := r0.lstI
        exact ⟨a, xs, es, F', rfl, sx, ax, e⟩
      | frz es =>
        obtain ⟨a, xs, rfl, sx, ax, _⟩ := r0.frzI
        exact ⟨a, xs, es, [], rfl, sx, ax, e⟩
      | _ => cases e
    rw [intsTs_get he] at ax
    obtain ⟨rfl, hl, hx⟩ := rp_tups ax
    refine ⟨a, xs, ms, rfl, sx, hne, hl, hx, fun ys zs p hyz hy hp hsrt hn => ?_⟩
    have := of_tups (G := c.G) hyz hy
    exact k _ (q zs hp hsrt) _ _ [p] (Kp.laid ok hn _) (.lst upd_same (this.laid ok (fun _ z => nomatch z) hn _)) (fun a z => by rw [List.mem_singleton.mp z]; exact hn) (by simp)
  · exact q.elim
end
/-! ### rules in bundles -/
section
variable {X : Cx} {c : Cd X.K} {e a b : Expr} {es : List Expr} {pos p : Pos} {x : Str} {vs va vb vc : List Nat} {fs : Env → W (List D)} {fa fb fc : Env → W D} {op : List D → W D} {T id : String} {o o' : D → D → W D} {f : Value → Value → Sem Value}
def OO (X : Cx) (c : Cd X.K) (f : Value → Value → Sem Value) (o : D → D → W D) : Prop := ∃ r, OpR X f r ∧ OpD c r o
def CCD (X : Cx) (c : Cd X.K) (f : Value) (o : List D → W D) : Prop := ∃ r, CallR X f r ∧ CallD c r o
def CCN (X : Cx) (c : Cd X.K) (f : Value) (o : List D → W D) : Prop := ∃ r, CallR X f r ∧ CallN c r o
theorem oo_add : OO X c (binaryOp .Add) addD := ⟨_, or_add, od_add⟩
theorem oo_sub : OO X c (binaryOp .Sub) subD := ⟨_, op_sub, od_sub⟩
theorem oo_mul : OO X c (binaryOp .Mult) mulD := ⟨_, or_mul, od_mul⟩
theorem oo_mod : OO X c (binaryOp .Mod) modD := ⟨_, op_mod, od_mod⟩
theorem oo_fdiv : OO X c (binaryOp .FloorDiv) fdivD := ⟨_, op_fdivW, od_fdiv⟩
theorem oo_pow : OO X c (binaryOp .Pow) powD := ⟨_, op_pow, od_pow⟩
theorem oo_lt : OO X c (compareOp .Lt) ltD := ⟨_, op_lt, od_lt⟩
theorem oo_gt : OO X c (compareOp .Gt) gtD := ⟨_, op_gt, od_gt⟩
theorem oo_ge : OO X c (compareOp .GtE) geD := ⟨_, op_ge, od_ge⟩
theorem oo_le {k : Nat} (hr : Room k X.A) : OO X c (compareOp .LtE) leD := ⟨_, or_le hr.units0, od_le⟩
/-- texts are alike, whatever they hold -/
def eqS : D → D → W D
  | .str a, .str b => pu (.bl (decide (a = b)))
  | x, y => eqD x y
def neS : D → D → W D
  | .str a, .str b => pu (.bl (!decide (a = b)))
  | x, y => neD x y
theorem dec_strV (a b : Str) : decide (V.str a = V.str b) = decide (a = b) := by
  rw [Bool.eq_iff_iff]
  simp
theorem od_eqS : OpD c (fun x y H Q => rEq x y H Q ∨ rEqD X.K x y H Q) eqS := fun H x y dx dy Fx Fy Qd Q ok n1 n2 rx ry q k => by
  unfold eqS at q
  split at q
  · obtain ⟨rfl, _⟩ := rx.strI
    obtain ⟨rfl, _⟩ := ry.strI
    exact .inl ⟨rfl, k _ q _ H [] (Kp.refl ok) (by rw [dec_strV]; exact .bl _) fun _ z => nomatch z⟩
  · exact .inr (od_eq H x y _ _ Fx Fy Qd Q ok n1 n2 rx ry q k)
theorem od_neS : OpD c (fun x y H Q => rNe x y H Q ∨ rNeD X.K x y H Q) neS := fun H x y dx dy Fx Fy Qd Q ok n1 n2 rx ry q k => by
  unfold neS at q
  split at q
  · obtain ⟨rfl, _⟩ := rx.strI
    obtain ⟨rfl, _⟩ := ry.strI
    exact .inl ⟨rfl, k _ q _ H [] (Kp.refl ok) (by rw [dec_strV]; exact .bl _) fun _ z => nomatch z⟩
  · exact .inr (od_ne H x y _ _ Fx Fy Qd Q ok n1 n2 rx ry q k)
theorem oo_eq {k : Nat} (hr : Room k X.A) : OO X c (compareOp .Eq) eqS := ⟨_, OpR.or op_eq (op_eqD hr.units), od_eqS⟩
theorem oo_ne {k : Nat} (hr : Room k X.A) : OO X c (compareOp .NotEq) neS := ⟨_, OpR.or op_ne (op_neD hr.units), od_neS⟩
theorem oo_in {k : Nat} (hr : Room k X.A) : OO X c (compareOp .In) inLD := ⟨_, OpR.or (op_inD (hu65 hr)) (op_inT (hu65 hr)), od_in⟩
theorem oo_nin {k : Nat} (hr : Room k X.A) : OO X c (compareOp .NotIn) ninLD := ⟨_, OpR.or (op_notInD (hu65 hr)) (op_notInT (hu65 hr)), od_nin⟩
theorem oo_is : OO X c (compareOp .Is) isND := ⟨_, op_isN, od_isN⟩
theorem oo_isn : OO X c (compareOp .IsNot) isnND := ⟨_, op_notN, od_isnN⟩
theorem qd_op {op : Operator} (h : OO X c (binaryOp op) o) (ha : PE X a (tD c va fa)) (hb : PE X b (tD c vb fb)) : PE X (.BinOp a op b pos) (tD c (va ++ vb) (dOp o fa fb)) := let ⟨_, h1, h2⟩ := h; pd_op h1 h2 ha hb
theorem qd_cmp {op : CmpOp} (h : OO X c (compareOp op) o) (ha : PE X a (tD c va fa)) (hb : PE X b (tD c vb fb)) (hm : behindInMarks op b = false) : PE X (.Compare a [op] [b] pos) (tD c (va ++ vb) (dOp o fa fb)) := let ⟨_, h1, h2⟩ := h; pd_cmp h1 h2 ha hb hm
theorem qt_c {op : CmpOp} (h : OO X c (compareOp op) o) (ha : PE X a (tD c va fa)) (hb : PE X b (tD c vb fb)) (hm : behindInMarks op b = false) : PT X (.Compare a [op] [b] pos) (tT c (dB (dOp o fa fb))) := let ⟨_, h1, h2⟩ := h; pt_c h1 h2 ha hb hm
theorem qd_chain {op op' : CmpOp} {ec : Expr} (h : OO X c (compareOp op) o) (h' : OO X c (compareOp op') o') (ha : PE X a (tD c va fa)) (hb : PE X b (tD c vb fb)) (hc : PE X ec (tD c vc fc)) (hm : lastMarks [op, op'] [b, ec] = false := by with_unfolding_all rfl) :
    PE X (.Compare a [op, op'] [b, ec] pos) (tD c (va ++ (vb ++ vc)) (dChain o o' fa fb fc)) := let ⟨_, h1, h2⟩ := h; let ⟨_, h3, h4⟩ := h'; pd_chain h1 h3 h2 h4 ha hb hc hm
theorem qt_ch {op op' : CmpOp} {ec : Expr} (h : OO X c (compareOp op) o) (h' : OO X c (compareOp op') o') (ha : PE X a (tD c va fa)) (hb : PE X b (tD c vb fb)) (hc : PE X ec (tD c vc fc)) (hm : lastMarks [op, op'] [b, ec] = false := by with_unfolding_all rfl) :
    PT X (.Compare a [op, op'] [b, ec] pos) (tT c (dB (dChain o o' fa fb fc))) := let ⟨_, h1, h2⟩ := h; let ⟨_, h3, h4⟩ := h'; pt_ch h1 h3 h2 h4 ha hb hc hm
theorem qd_ix (ha : PE X a (tD c va fa)) (hb : PE X b (tD c vb fb)) (hs : PlainIx b) : PE X (.Subscript a b pos) (tD c (va ++ vb) (dOp idxD fa fb)) := pd_ix xr_ix od_ix ha hb hs
theorem cc_len : CCD X c (.builtin "len") (a1 lenD) := ⟨_, call_len_seq, cd_len⟩
theorem cc_isi : CCD X c (.builtin "isinstance") (a2 isiD) := ⟨_, call_isi, cd_isi⟩
theorem cc_all (hc : X.calm = true) : CCD X c (.builtin "all") (a1 allD) := ⟨_, cr_all hc, cd_all⟩
theorem cc_sum (hc : X.calm = true) : CCD X c (.builtin "sum") (a1 sumD) := ⟨_, cr_sum hc, cd_sum⟩
theorem cc_abs : CCD X c (.builtin "abs") (a1 absD) := ⟨_, call_abs, cd_abs⟩
theorem cc_max2 (hc : X.calm = true) : CCD X c (.builtin "max") (a2 max2D) := ⟨_, call_max2 hc, cd_max2⟩
theorem cc_min2 (hc : X.calm = true) : CCD X c (.builtin "min") (a2 min2D) := ⟨_, call_min2 hc, cd_min2⟩
theorem cc_maxL (hc : X.calm = true) : CCD X c (.builtin "max") (a1 maxLD) := ⟨_, cr_max hc, cd_maxL⟩
theorem cc_minL (hc : X.calm = true) : CCD X c (.builtin "min") (a1 minLD) := ⟨_, cr_min hc, cd_minL⟩
theorem cc_tuple : CCD X c (.type "tuple") (a1 tupleD) := ⟨_, call_tuple_of, cd_tuple⟩
theorem cc_int : CCD X c (.type "int") (a1 int1D) := ⟨_, call_int1, cd_int⟩
theorem cc_list : CCN X c (.type "list") (a1 listD) := ⟨_, call_list_of, cn_list⟩
theorem cc_repr {k : Nat} (gd : X.A.guards = some []) (hr : Room k X.A) : CCD X c (.builtin "repr") (a1 reprD) := ⟨_, cr_repr gd hr.units, cd_repr⟩
theorem cc_sortI : CCN X c (.builtin "sorted") (a1 sortID) := ⟨_, cr_sortedI, cn_sortI⟩
theorem cc_sortT : CCN X c (.builtin "sorted") (a1 sortTD) := ⟨_, cr_sortedP, cn_sortT⟩
theorem qd_callB (h : CCD X c (.builtin id) op) (hv : bootBuiltins x = some (.builtin id)) (hg : Gl X x) (hm : X.mg x = none) (ha : PA X (e :: es) (tA c vs fs)) (hn : x ≠ "__name__" := by decide) (hdb : (x == ("__debug__" : Str)) = false := by decide)
    (he : starEach (e :: es) X.env = (false, eval e X.env) :: starEach es X.env := by rfl) (hpl : (backTo pos (starEach es X.env)).any (·.1) = false := by rfl) : PE X (.Call (.Name x p) (e :: es) [] pos) (tD c vs (dCB op fs)) := let ⟨_, h1, h2⟩ := h; pd_callB h1 h2 hg hm hv ha hn hdb he hpl
theorem qn_callB (h : CCN X c (.builtin id) op) (hv : bootBuiltins x = some (.builtin id)) (hg : Gl X x) (hm : X.mg x = none) (ha : PA X (e :: es) (tA c vs fs)) (hn : x ≠ "__name__" := by decide) (hdb : (x == ("__debug__" : Str)) = false := by decide)
    (he : starEach (e :: es) X.env = (false, eval e X.env) :: starEach es X.env := by rfl) (hpl : (backTo pos (starEach es X.env)).any (·.1) = false := by rfl) : PE X (.Call (.Name x p) (e :: es) [] pos) (tN c (dCB op fs)) := let ⟨_, h1, h2⟩ := h; pn_callB h1 h2 hg hm hv ha hn hdb he hpl
theorem qd_callTy (h : CCD X c (.type T) op) (hv : bootBuiltins x = some (.type T)) (hg : Gl X x) (hm : X.mg x = none) (ha : PA X (e :: es) (tA c vs fs)) (hn : x ≠ "__name__" := by decide) (hdb : (x == ("__debug__" : Str)) = false := by decide)
    (he : starEach (e :: es) X.env = (false, eval e X.env) :: starEach es X.env := by rfl) (hpl : (backTo pos (starEach es X.env)).any (·.1) = false := by rfl) : PE X (.Call (.Name x p) (e :: es) [] pos) (tD c vs (dCB op fs)) := let ⟨_, h1, h2⟩ := h; pd_callTy h1 h2 hg hm hv ha hn hdb he hpl
theorem qn_callTy (h : CCN X c (.type T) op) (hv : bootBuiltins x = some (.type T)) (hg : Gl X x) (hm : X.mg x = none) (ha : PA X (e :: es) (tA c vs fs)) (hn : x ≠ "__name__" := by decide) (hdb : (x == ("__debug__" : Str)) = false := by decide)
    (he : starEach (e :: es) X.env = (false, eval e X.env) :: starEach es X.env := by rfl) (hpl : (backTo pos (starEach es X.env)).any (·.1) = false := by rfl) : PE X (.Call (.Name x p) (e :: es) [] pos) (tN c (dCB op fs)) := let ⟨_, h1, h2⟩ := h; pn_callTy h1 h2 hg hm hv ha hn hdb he hpl
end
end DL
namespace DL
open PySem L2
/-! ### a law that makes the source first (family C: the dice) -/
def gOf (K : PySem.W.Frag) (d : Addr) (S : List Addr) : Gx K where
  rt := some d
  S := S
  ok := Fam K d S
  loc := Fam.loc
  mu := Fam.mu
  fam := fun a h H n => by cases h; exact Iff.rfl
/-- what makes the source: from the script -/
def spState (K : PySem.W.Frag) : Sp := fun vs H Q _ => ∃ (a : Addr) (ns : List Int), vs = [.ref a] ∧ Frz K H a (ns.map V.int) ∧ ns.length ≤ 63 ∧ ∀ d S H', Fam K d S H' 0 → (∀ b o, H b = some o → H' b = some o) → Q (.ref d) H'
theorem spState_len {K : PySem.W.Frag} : ∀ vs H Q E, spState K vs H Q E → vs.length = ["script"].length := fun vs H Q E ⟨a, ns, h, _⟩ => by rw [h]; rfl
def tFst (K : PySem.W.Frag) : TS := tAsg (tCallG 1 0 (List.range 1) (spState K) L2.E0 (tCons (tVar 0) tNil) tNil) (gName 1)
def tRest (K : PySem.W.Frag) (own wr : List Nat) (g : Env → W (Fl × Env)) : TS := fun Dn σ H => ∃ (G : Gx K) (H0 : Hp) (xq : Ex → Nat → Prop), tS (K := K) ⟨G, H0, own, xq⟩ wr g Dn σ H
theorem pss_ex2 {X : Cx} {sts : List Stmt} {own w : List Nat} {g : Env → W (Fl × Env)} (h : ∀ (G : Gx X.K) (H0 : Hp) (xq : Ex → Nat → Prop), PSs X sts (tS ⟨G, H0, own, xq⟩ w g)) : PSs X sts (tRest X.K own w g) := ⟨fun pins s σ H Dn I ⟨G, H0, xq, q⟩ => (h G H0 xq).run pins s σ H Dn I q⟩
section
variable {P : Program} {w : World} {K : PySem.W.Frag} {mg : Str → Option Value} {base : Heap}
theorem lawD {x qual : Str} {st : Stmt} {f : Addr} {fd : FuncData} {N : List Str} {k : Nat} {own wr : List Nat} {g : Env → DL.W (Fl × Env)} (F : L2.Fun K x qual st f fd) (S : FnScope N ["script"] (defScope st)) (hN : 2 ≤ N.length) (ho : ∀ i ∈ own, 2 ≤ i)
    (hg : ∀ ns : List Int, ns.length ≤ 63 → ∀ X, g (env0 N.length [.frz (ns.map D.int), .src]) (fun r _ => r.1 = .rt (.bl true)) X 0)
    (hbody : ∀ (cdv : Value) (A : Around) (outer : List PySem.Env) (s : Shared) (H : Hp) (E : XK), Room k (A.deeper (PyProof.Rows.envOfC qual (defScope st) s.heap.objs.size f cdv)) → (A.deeper (PyProof.Rows.envOfC qual (defScope st) s.heap.objs.size f cdv)).guards = some [] →
      PSs (cxOf CX0 P w K mg base N qual (defScope st) f cdv A outer s H E).nox (defBody st) (tSeq (tFst K) (tRest K own wr g))) : FnG P w K mg base CX0 (k + 1) f fd ["script"] (spLaw K) := by
  obtain ⟨oc, od, kV, doc, pm, an, cdv, ct, osl, rfl, lk, hcd⟩ := F.ex
  refine fnG_of lk hcd S (fun vs H Q E ⟨a, ns, h, _⟩ => by rw [h]; rfl) fun A outer s H vs Q E hr gd ⟨a, ns, hv, fz, h63, kq⟩ => ?_
  subst hv
  refine ⟨_, (hbody cdv A outer s H E hr (deep_guards gd)).nox, ?_⟩
  have s0 : (L2.start N [.ref a])[0]? = some (some (.ref a)) := rfl
  refine ⟨.ref a, s0, rfl, rfl, a, ns, rfl, fz, h63, fun d S' H' fam same => ?_⟩
  have fz' : Frz K H' a (ns.map V.int) := fz.mono fun b o e _ => same b o e
  have len : (L2.start N [.ref a]).length = N.length := by
    unfold L2.start
    rw [List.length_append, List.length_map, List.length_replicate]
    show 1 + (N.length - 1) = N.length
    omega
  refine ⟨gOf K d S', H', fun _ _ => False, 0, fun _ => [], env0 N.length [.frz (ns.map D.int), .src], fun r _ => r.1 = .rt (.bl true), ?_, hg ns h63 _, fun f δ' q => ?_⟩
  · refine ⟨fam, ?_, fun i dd q => ?_, (fun _ _ => rfl), (fun _ _ z => nomatch z), (fun _ _ _ z => nomatch z), (fun _ _ => List.nodup_nil), (fun _ _ _ _ _ z => nomatch z), (fun _ _ e _ => e)⟩
    · rw [List.length_set, len]
      unfold env0
      rw [List.length_append, List.length_map, List.length_replicate]
      show N.length = 2 + (N.length - 2)
      omega
    · rw [gt_env0] at q
      match i, q with
      | 0, q =>
        cases q
        exact ⟨.ref a, by rw [List.getElem?_set_ne (by omega)]; exact s0, .frz fz' .of_ints⟩
      | 1, q =>
        cases q
        exact ⟨.ref d, List.getElem?_set_self (by rw [len]; omega), .src rfl⟩
  · have q' : f = .rt (.bl true) := q
    subst q'
    exact fun v F' H2 ok' rv fr nd fm => by
      obtain ⟨rfl, _⟩ := rv.blI
      exact kq H2
end
end DL
namespace DL
open PySem L2
section
variable {X : Cx} {c : Cd X.K} {e a b ec : Expr} {es : List Expr} {pos p : Pos} {x : Str} {vs va vb vc : List Nat} {fs : Env → W (List D)} {fa fb fc : Env → W D}
/-! ### truth of anything -/
def trD : D → W Bool
  | .non => pu false
  | .bl b => pu b
  | .int i => pu (i != 0)
  | .str s => chk (s.length ≤ sizeLine) (pu ((s.length : Int) != 0))
  | .lst ds => pu (!ds.isEmpty)
  | .frz ds => pu (!ds.isEmpty)
  | .tup ds => pu (!ds.isEmpty)
  | .dic ks _ => pu (!ks.isEmpty)
  | _ => fl
def dTr (f : Env → W D) : Env → W Bool := fun δ => bd (f δ) trD
theorem emp_len {α β : Type} {xs : List α} {ys : List β} (h : xs.length = ys.length) : (!ys.isEmpty) = !xs.isEmpty := by
  cases xs <;> cases ys <;> simp_all
theorem pt_tr (h : PE X e (tD c va fa)) (he : ∀ whole, isTrue e X.env whole = (do let v ← whole; standAt e.pos; holding [v] (truthy v)) := by intro _; rfl) : PT X e (tT c (dTr fa)) := (pt_truth h he).wk fun σ H Q ⟨_, fp, δ, Qd, e, hf, k⟩ => by
  refine ⟨_, fp, δ, fun d => trD d Qd c.xq, e, hf, fun d qd v H' F p r => ?_⟩
  cases r with
  | non => exact ⟨_, rfl, k _ qd H' p.kp⟩
  | bl b => exact ⟨_, rfl, k _ qd H' p.kp⟩
  | int i => exact ⟨_, rfl, k _ qd H' p.kp⟩
  | str s => exact ⟨_, ⟨qd.1, rfl⟩, k _ qd.2 H' p.kp⟩
  | lst hl ax => exact ⟨_, .inl ⟨_, SqL.of hl, emp_len ax.length⟩, k _ qd H' p.kp⟩
  | frz hl ax => exact ⟨_, .inl ⟨_, hl.sq, emp_len ax.length⟩, k _ qd H' p.kp⟩
  | tup hl ax => exact ⟨_, .inr (.inl ⟨_, hl, emp_len ax.length⟩), k _ qd H' p.kp⟩
  | dic hl ax => exact ⟨_, .inr (.inr ⟨_, hl, emp_len (by rw [List.length_map])⟩), k _ qd H' p.kp⟩
  | _ => exact qd.elim
/-! ### x, y, z = a, b, c -/
def sPar3 (i j l : Nat) (f f' f'' : Env → W D) : Env → W (Fl × Env) := fun δ => bd (f δ) fun d => bd (f' δ) fun d' => bd (f'' δ) fun d'' => chk (i < δ.length ∧ j < δ.length ∧ l < δ.length) (pu (.nx, ((δ.set i (some d)).set j (some d')).set l (some d'')))
theorem sd_par3 {i j l : Nat} {y z : Str} {px py pz pt : Pos} {kt k2 pt2} (hc : X.calm = true) (hN : X.N.Nodup) (hi : X.N[i]? = some x) (hj : X.N[j]? = some y) (hl : X.N[l]? = some z) (hij : i ≠ j) (hil : i ≠ l) (hjl : j ≠ l)
    (hx : X.env.scope.names.lookup x = some .local) (hy : X.env.scope.names.lookup y = some .local) (hz : X.env.scope.names.lookup z = some .local) (ha : PE X a (tN c fa)) (hb : PE X b (tN c fb)) (hcc : PE X ec (tN c fc))
    (hw : swappedStores [.Tuple [.Name x px, .Name y py, .Name z pz] kt pt] (.Tuple [a, b, ec] k2 pt2) X.env = pure (some [x, y, z])) (hs : swapsWithSole [.Tuple [.Name x px, .Name y py, .Name z pz] kt pt] (.Tuple [a, b, ec] k2 pt2) pos.line X.env = pure false := by rfl)
    (hs1 : starEach (a :: [b, ec]) X.env = (false, eval a X.env) :: starEach [b, ec] X.env := by rfl) (hs2 : starEach (b :: [ec]) X.env = (false, eval b X.env) :: starEach [ec] X.env := by rfl) (hs3 : starEach (ec :: []) X.env = (false, eval ec X.env) :: starEach [] X.env := by rfl) :
    PS X (.Assign [.Tuple [.Name x px, .Name y py, .Name z pz] kt pt] (.Tuple [a, b, ec] k2 pt2) pos) (tS c [i, j, l] (sPar3 i j l fa fb fc)) := (ps_par3 hc hN hi hj hl hij hil hjl hx hy hz (pa_cons ha (pa_cons hb (pa_cons hcc pa_nil hs3) hs2) hs1) hw hs).wk fun Dn σ H h => by
  obtain ⟨_, fp, δ, Qd, e, hf, k⟩ := h
  refine ⟨_, fp, δ, fun d => bd (fb δ) (fun d' => bd (fc δ) fun d'' => chk (i < δ.length ∧ j < δ.length ∧ l < δ.length) (pu (Fl.nx, ((δ.set i (some d)).set j (some d')).set l (some d'')))) Qd c.xq, e, hf, fun d qd v H1 F1 kp1 r1 fr1 nd1 => ?_⟩
  refine ⟨_, fp, δ, fun d' => bd (fc δ) (fun d'' => chk (i < δ.length ∧ j < δ.length ∧ l < δ.length) (pu (Fl.nx, ((δ.set i (some d)).set j (some d')).set l (some d'')))) Qd c.xq, e.kp kp1, qd, fun d' qd' v' H2 F2 kp2 r2 fr2 nd2 => ?_⟩
  refine ⟨_, fp, δ, fun d'' => chk (i < δ.length ∧ j < δ.length ∧ l < δ.length) (pu (Fl.nx, ((δ.set i (some d)).set j (some d')).set l (some d''))) Qd c.xq, e.kp (kp1.trans kp2), qd', fun d'' ⟨⟨hi, hj, hl⟩, q⟩ v'' H3 F3 kp3 r3 fr3 nd3 => ?_⟩
  refine ⟨v, v', v'', rfl, ?_⟩
  have e1 := e.setN kp1 hi r1 fr1 nd1
  have hj' : j < (δ.set i (some d)).length := by rw [List.length_set]; exact hj
  have e2 := e1.setN kp2 hj' r2 fr2 nd2
  have hl' : l < ((δ.set i (some d)).set j (some d')).length := by rw [List.length_set, List.length_set]; exact hl
  have e3 := e2.setN kp3 hl' r3 fr3 nd3
  refine k _ _ q _ H3 _ e3 ?_
  exact (((Step.setN kp1 fr1).wk fun l z => by simp [List.mem_singleton.mp z]).trans ((Step.setN kp2 fr2).wk fun l z => by simp [List.mem_singleton.mp z])).trans ((Step.setN kp3 fr3).wk fun l z => by simp [List.mem_singleton.mp z])
/-! ### tuple(range(..)) -/
def tupRng (fs : Env → W (List D)) : Env → W D := fun δ => bd (fs δ) fun ds => opt (ints1 ds) fun j => chk (j ≤ 16777216 ∧ 0 ≤ j) (pu (.tup (rngD 0 j.toNat)))
theorem pn_tupRng {p2 pos2 : Pos} (hc : X.calm = true) (hg : Gl X "tuple") (hm : X.mg "tuple" = none) (hg2 : Gl X "range") (hm2 : X.mg "range" = none) (ha : PE X a (tD c vs fa)) (na : starEach [a] X.env = (false, eval a X.env) :: starEach [] X.env := by rfl)
    (na2 : starEach [.Call (.Name "range" p2) [a] [] pos2] X.env = (false, eval (.Call (.Name "range" p2) [a] [] pos2) X.env) :: starEach [] X.env := by rfl) : PE X (.Call (.Name "tuple" p) [.Call (.Name "range" p2) [a] [] pos2] [] pos) (tN c (tupRng (dCons fa dNil))) :=
  (pe_tupRg hc hg hm (prg_1 hg2 hm2 ha na) na2).wk fun σ H Q ⟨_, fp, δ, Qd, e, hf, k⟩ => by
    refine ⟨_, fp, δ, fun d => opt (ints1 [d]) (fun j => chk (j ≤ 16777216 ∧ 0 ≤ j) (pu (D.tup (rngD 0 j.toNat)))) Qd c.xq, e, hf, fun d ⟨j, hj, ⟨h1, h0⟩, q⟩ v H' F p r => ?_⟩
    have ed := ints1_eq hj
    cases ed
    obtain ⟨rfl, _⟩ := r.intI
    refine ⟨j, rfl, .of_le (Int.le_refl 0) h1 (by decide) h0, fun l hl => ?_⟩
    have e2 : rgV 0 j = (List.range j.toNat).map fun i => V.int (0 + (i : Nat)) := by unfold rgV; rw [Int.sub_zero]
    rw [e2]
    exact k _ q _ _ [] (p.kp.trans (Kp.laid p.kp.ok hl _)) (.tup (SqT.of upd_same) (rngA 0 j.toNat _ _)) (fun _ z => nomatch z) List.nodup_nil
end
end DL
namespace DL
open PySem L2
/-! ### {k: v, ..}, d[k] -/
def asKey : D → Option Key
  | .int i => some (.inl i)
  | .str s => some (.inr s)
  | _ => none
def prs : List D → Option (List (Key × D))
  | [] => some []
  | [_] => none
  | k :: v :: r => (asKey k).bind fun k' => (prs r).map ((k', v) :: ·)
def flat : List (V × V) → List V
  | [] => []
  | p :: ps => p.1 :: p.2 :: flat ps
theorem flat_inj : ∀ {a b : List (V × V)}, flat a = flat b → a = b
  | [], [], _ => rfl
  | [], _ :: _, h => by simp [flat] at h
  | _ :: _, [], h => by simp [flat] at h
  | (x, y) :: a, (x', y') :: b, h => by
    simp only [flat, List.cons.injEq] at h
    rw [h.1, h.2.1, flat_inj h.2.2]
theorem merge_new : ∀ (more kvs : List (Key × V)), ((kvs ++ more).map (·.1)).Nodup → mergeK kvs more = kvs ++ more
  | [], kvs, _ => by rw [List.append_nil]; rfl
  | p :: r, kvs, h => by
    have n : ∀ q ∈ kvs, q.1 ≠ p.1 := fun q hq e => by
      rw [List.map_append, List.nodup_append] at h
      exact h.2.2 q.1 (List.mem_map.mpr ⟨q, hq, rfl⟩) p.1 (by simp) e
    have e : putK kvs p.1 p.2 = kvs ++ [p] := by
      unfold putK
      rw [if_neg]
      simp only [List.any_eq_true, decide_eq_true_eq, not_exists, not_and]
      exact n
    show mergeK (putK kvs p.1 p.2) r = _
    rw [e, merge_new r (kvs ++ [p]) (by simpa using h)]
    simp
def dicK (ps : List (Key × D)) : W D := chk (ps.length ≤ 15 ∧ (ps.map (·.1)).Nodup ∧ D.imms (ps.map (·.2)) = true) (pu (.dic (ps.map (·.1)) (ps.map (·.2))))
def dDic (fs : Env → W (List D)) : Env → W D := fun δ => bd (fs δ) fun l => opt (prs l) dicK
theorem prs_rp {K : PySem.W.Frag} {G : Gx K} {H : Hp} : ∀ {l : List D} {ps : List (Key × D)} {us : List V} {F : List Addr}, prs l = some ps → RpA G H us l F → D.imms (ps.map (·.2)) = true →
    ∃ kvs : List (Key × V), us = flat (kvs.map fun kv => (kV kv.1, kv.2)) ∧ kvs.map (·.1) = ps.map (·.1) ∧ RpA G H (kvs.map (·.2)) (ps.map (·.2)) []
  | [], _, _, _, h, r, _ => by
    cases h
    cases r
    exact ⟨[], rfl, rfl, .nil⟩
  | [_], _, _, _, h, _, _ => by cases h
  | k :: v :: l, ps, us, F, h, r, im => by
    unfold prs at h
    obtain ⟨k', h1, h2⟩ := Option.bind_eq_some_iff.mp h
    obtain ⟨qs, h3, rfl⟩ := Option.map_eq_some_iff.mp h2
    simp only [List.map_cons, D.imms, Bool.and_eq_true] at im
    cases r with
    | @cons x _ F1 _ _ F2 r1 r' =>
      cases r' with
      | @cons y _ F3 us' _ F4 r2 r3 =>
        obtain ⟨kvs, e1, e2, e3⟩ := prs_rp h3 r3 im.2
        have e0 := Rp.imm_nil _ _ _ r2 im.1
        subst e0
        have ex : x = kV k' := by
          cases k with
          | int i => cases h1; exact (Rp.intI r1).1
          | str s => cases h1; exact (Rp.strI r1).1
          | _ => cases h1
        refine ⟨(k', y) :: kvs, by rw [ex, e1]; rfl, by simp [e2], ?_⟩
        simpa using RpA.cons r2 e3
section
variable {X : Cx} {c : Cd X.K} {a b : Expr} {pos : Pos} {va vb vs : List Nat} {fa fb : Env → W D} {fs : Env → W (List D)} {keys : List (Option Expr)} {values : List Expr}
theorem tD_mono {σ : St} {H : Hp} {Q Q' : VK} (h : tD c va fa σ H Q) (k : ∀ v H', Q v H' → Q' v H') : tD c va fa σ H Q' := by
  obtain ⟨_, fp, δ, Qd, e, hf, q⟩ := h
  exact ⟨_, fp, δ, Qd, e, hf, fun d qd v H' F p r => k _ _ (q d qd v H' F p r)⟩
theorem tA_cons {σ : St} {H : Hp} {Q : List V → Hp → Prop} (h : tA c (va ++ vb) (dCons fa fs) σ H Q) : tD c va fa σ H fun v H1 => tA c vb fs σ H1 fun us H2 => Q (v :: us) H2 := by
  obtain ⟨_, fp, δ, Qd, e, hf, k⟩ := h
  refine ⟨_, fp, δ, fun d => bd (fs δ) (fun ds => pu (d :: ds)) Qd c.xq, e, hf, fun d qd v H1 F1 p1 r1 => ?_⟩
  refine ⟨_, fp, δ, fun ds => Qd (d :: ds), e.kp p1.kp, qd, fun ds qds us H2 F2 p2 r2 => ?_⟩
  exact k _ qds _ H2 _ ((p1.more p2.kp).join (p2.ahead p1.kp)) (.cons (r1.kp p2.kp p1.nos) r2)
def PPD (X : Cx) (pos : Pos) (keys : List (Option Expr)) (values : List Expr) (c : Cd X.K) (vs : List Nat) (fs : Env → W (List D)) : Prop :=
  ∃ trs, PPs X pos keys values trs ∧ ∀ (σ : St) (H : Hp) (Q : List (V × V) → Hp → Prop), (tA c vs fs σ H fun us H' => ∀ ps, flat ps = us → Q ps H') → tPairs trs σ H Q
theorem ppd_nil : PPD X pos [] [] c [] dNil := ⟨[], pps_nil, fun σ H Q ⟨_, fp, δ, Qd, e, hf, k⟩ => k [] hf [] H [] (.nil e.ok) .nil [] rfl⟩
theorem ppd_cons (ha : PE X a (tD c va fa)) (hb : PE X b (tD c vb fb)) (h : PPD X pos keys values c vs fs) : PPD X pos (some a :: keys) (b :: values) c (va ++ (vb ++ vs)) (dCons fa (dCons fb fs)) := by
  obtain ⟨trs, h1, h2⟩ := h
  refine ⟨_, pps_cons ha hb h1, fun σ H Q q => ?_⟩
  refine tD_mono (tA_cons q) fun x H1 q1 => tD_mono (tA_cons q1) fun y H2 q2 => h2 _ _ _ ?_
  obtain ⟨_, fp, δ, Qd, e, hf, k⟩ := q2
  exact ⟨_, fp, δ, Qd, e, hf, fun ds qd us H' F p r ps hps => k ds qd us H' F p r ((x, y) :: ps) (by rw [← hps]; rfl)⟩
theorem pn_dic (h : PPD X pos keys values c vs fs) (hall : keys.all (·.isSome) = true := by rfl) (hl : keys.length = values.length := by rfl) (h0 : keys ≠ [] := by exact fun z => nomatch z) (h15 : keys.length ≤ 15 := by decide) : PE X (.Dict keys values pos) (tN c (dDic fs)) := by
  obtain ⟨trs, h1, h2⟩ := h
  refine (pe_disp h1 hall hl h0 h15).wk fun σ H Q ⟨_, fp, δ, Qd, e, hf, k⟩ p hp => ?_
  have k1 : Kp c.G H (upd H p (.dK [])) _ := Kp.laid e.ok hp _
  have pS := notS0 e.ok hp
  refine h2 _ _ _ ⟨_, fp, δ, fun l => opt (prs l) dicK Qd c.xq, e.kp k1, hf, fun l ⟨qs, hq, ⟨g1, g2, g3⟩, q⟩ us H2 F p2 r2 ps hps => ?_⟩
  obtain ⟨kvs, e1, e2, e3⟩ := prs_rp hq r2 g3
  have eps := flat_inj (hps.trans e1)
  have hp2 : H2 p = some (.dK []) := p2.kp.kp _ _ upd_same pS
  have em : mergeK [] kvs = kvs := merge_new kvs [] (by rw [List.nil_append, e2]; exact g2)
  refine ⟨hp2, kvs, eps, by have := congrArg List.length e2; simp only [List.length_map] at this; omega, ?_⟩
  rw [em]
  have hd : Hd c.G [] H2 (upd H2 p (.dK kvs)) := ⟨⟨_, p2.kp.ok⟩, fun b o z m => by rw [upd_ne (fun w : b = p => m (by rw [w, hp2] at z; cases z; trivial))]; exact z, fun _ _ _ z => nomatch z⟩
  have kk := k1.trans p2.kp
  refine k _ q (.ref p) _ [p] ⟨fun b o z n => by rw [upd_ne (fun w : b = p => by rw [w, hp] at z; cases z)]; exact kk.kp b o z n, fun b z => by
    by_cases w : b = p
    · rw [w, upd_same]; exact fun z => nomatch z
    · rw [upd_ne w]; exact kk.dm b z, ⟨_, e.ok⟩, c.G.loc H2 _ _ kk.ok (fun b hb => upd_ne fun w => pS (w ▸ hb)) fun b o q m => by rw [upd_ne (fun w : b = p => m (by rw [w, hp2] at q; cases q; trivial))]; exact q⟩ ?_ (fun a z => by rw [List.mem_singleton.mp z]; exact hp) (by simp)
  rw [← e2]
  exact .dic upd_same (RpA.hd _ _ _ e3 hd)
/-! ### d[k] -/
def dicAt : List Key → List D → Key → Option D
  | k :: ks, d :: ds, k' => if k = k' then some d else dicAt ks ds k'
  | _, _, _ => none
def dixD : D → D → W D
  | .dic ks ds, k => opt (asKey k) fun k' => opt (dicAt ks ds k') pu
  | _, _ => fl
theorem dicAt_val {K : PySem.W.Frag} {G : Gx K} {H : Hp} {k : Key} {d : D} : ∀ {kvs : List (Key × V)} {ds : List D} {F : List Addr}, RpA G H (kvs.map (·.2)) ds F → dicAt (kvs.map (·.1)) ds k = some d → ∃ v F', valV kvs k = some v ∧ Rp G H v d F' ∧ ∀ a ∈ F', a ∈ F
  | [], _, _, r, h => by cases r; cases h
  | kv :: kvs, ds, F, r, h => by
    rw [List.map_cons] at r h
    cases r with
    | @cons _ d0 F1 _ ds0 F2 r1 r2 =>
      unfold dicAt at h
      by_cases e : kv.1 = k
      · rw [if_pos e] at h
        cases h
        exact ⟨kv.2, F1, valV_pos e, r1, fun a z => List.mem_append_left _ z⟩
      · rw [if_neg e] at h
        obtain ⟨v, F', h1, h2, h3⟩ := dicAt_val r2 h
        exact ⟨v, F', (valV_neg e).trans h1, h2, fun a z => List.mem_append_right _ (h3 a z)⟩
def rDix : R2 := fun x y H Q => ∃ a v, x = .ref a ∧ DGet H a y (some v) ∧ Q v H
theorem od_dix : OpD c rDix dixD := od_flat fun H x y dx dy Fx Fy Qd Q ok rx ry q k => by
  unfold dixD at q
  split at q
  · rename_i ks ds
    obtain ⟨k', hk, d, hd, q⟩ := q
    cases rx with
    | @dic a kvs _ F hl ax =>
      obtain ⟨v, F', h1, h2, h3⟩ := dicAt_val ax hd
      have ey : y = kV k' := by
        cases dy with
        | int i => cases hk; exact (Rp.intI ry).1
        | str s => cases hk; exact (Rp.strI ry).1
        | _ => cases hk
      exact ⟨a, v, rfl, by rw [ey, ← h1]; exact DGet.k hl, k _ q v F' h2 fun b z => .inl (List.mem_cons_of_mem _ (h3 b z))⟩
  · exact q.elim
theorem qd_dix {k : Nat} (hr : Room k X.A) (ha : PE X a (tD c va fa)) (hb : PE X b (tD c vb fb)) (hs : NoSl b) : PE X (.Subscript a b pos) (tD c (va ++ vb) (dOp dixD fa fb)) := (pe_dget (hu_of hr) ha hb hs).wk (tOp_of (r := rDix) od_dix)
end
end DL
namespace DL
open PySem PySem.Spec PyProof.Rows L2 HT
/-! ### t[::-1] of a tuple -/
section
variable {prog : Program} {w : World} {A : Around} {E : Value → Shared → Prop} {s : Shared}
theorem sliceApplied_rev {sl : Addr} {u : Tok} {n : Nat} {Q : Int × Int × Nat → Shared → Prop} (hs : s.heap.IsSliceOf sl .none .none (.int (-1) u)) (h : Q ((n : Int) - 1, -1, n) s) : wpAny (model prog w) A (Builtin.Slice.sliceApplied (.ref sl) (pure (n : Int))) Q E s := by
  obtain ⟨os, hos, hcs, hds⟩ := id hs
  unfold Builtin.Slice.sliceApplied Builtin.Slice.sliceFields
  refine wpAny_bind (wpAny_bind (wpAny_field hos hds (x := .none) rfl (wpAny_bind (wpAny_field hos hds (x := .none) rfl (wpAny_bind (wpAny_field hos hds (x := .int (-1) u) rfl (wpAny_pure ?_)))))))
  refine wpAny_bind (slicePart_int ?_)
  show wpAny _ _ (if ((-1 : Int) == 0) = true then _ else _) _ _ s
  rw [if_neg (by decide)]
  refine wpAny_bind (slicePart_none (wpAny_bind (slicePart_none (wpAny_bind (wpAny_pure ?_)))))
  have e : Builtin.Slice.slicePlaces ((n : Int) - 1) (-1) (-1) = n := by
    unfold Builtin.Slice.slicePlaces
    have h1 : ¬ ((-1 : Int) > 0) := by omega
    simp only [h1, if_false]
    first
      | (split <;> omega)
      | omega
      | (simp only [Int.neg_neg, Int.ediv_one]; split <;> omega)
  show wpAny _ _ (pure ((n : Int) - 1, (-1 : Int), Builtin.Slice.slicePlaces ((n : Int) - 1) (-1) (-1))) _ _ s
  rw [e]
  exact wpAny_pure h
theorem fm_congr {α β : Type} {f g : α → Option β} : ∀ {l : List α}, (∀ a ∈ l, f a = g a) → l.filterMap f = l.filterMap g
  | [], _ => rfl
  | a :: l, h => by rw [List.filterMap_cons, List.filterMap_cons, h a List.mem_cons_self, fm_congr fun b hb => h b (List.mem_cons_of_mem _ hb)]
theorem pick_rev (xs : Array Value) : ((List.range xs.size).filterMap fun (m : Nat) => xs[(((xs.size : Int) - 1) + (m : Int) * (-1)).toNat]?).toArray = xs.toList.reverse.toArray := by
  congr 1
  have e : (List.range xs.size).filterMap (fun (m : Nat) => xs[(((xs.size : Int) - 1) + (m : Int) * (-1)).toNat]?) = (List.range xs.size).filterMap fun m => xs.toList.reverse[m]? := by
    refine fm_congr fun m hm => ?_
    have hm := List.mem_range.mp hm
    have e1 : (((xs.size : Int) - 1) + (m : Int) * (-1)).toNat = xs.size - 1 - m := by omega
    rw [e1, List.getElem?_reverse (by rw [Array.length_toList]; exact hm), Array.length_toList, Array.getElem?_toList]
  rw [e]
  have key : ∀ l : List Value, (List.range l.length).filterMap (fun m => l[m]?) = l := fun l => by
    induction l with
    | nil => rfl
    | cons a l ih =>
      rw [List.length_cons, List.range_succ_eq_map, List.filterMap_cons]
      simp only [List.getElem?_cons_zero, List.filterMap_map]
      congr 1
  have := key xs.toList.reverse
  rwa [List.length_reverse, Array.length_toList] at this
theorem getItem_tuple_rev {t sl : Addr} {items : Array Value} {u : Tok} {Q : Value → Shared → Prop} (ht : IsTup s.heap t items) (hs : s.heap.IsSliceOf sl .none .none (.int (-1) u))
    (h : Q (.ref s.heap.objs.size) { s with heap := s.heap.push { cls := .type "tuple", data := .seq items.toList.reverse.toArray } }) (hsz : items.size ≤ sizeLine) : wpAny (model prog w) A (getItem (.ref t) (.ref sl)) Q E s := by
  have htake : sizeOk (.seq items.toList.reverse.toArray) := by
    show items.toList.reverse.toArray.size ≤ sizeLine
    rw [List.size_toArray, List.length_reverse, Array.length_toList]
    exact hsz
  obtain ⟨os, hos, hcs, hds⟩ := id hs
  have hTs : s.TypeIs (.ref sl) "slice" := ⟨os, hos, hcs⟩
  unfold getItem
  try with_reducible refine wpAny_holding ?_
  first | refine wpAny_bind (wpAny_pure ?_) | skip
  refine wpAny_bind (wpAny_sequenceKey ht.typeIs (by decide) ?_)
  refine wpAny_bind (wpAny_callSpecial?_slot (name := Str.ofString "__getitem__") ht.typeIs PyProof.Rows.slot_tuple_getitem
    (wpAny_call_entry PyProof.Rows.slot_tuple_getitem ht.typeIs entry_tuple_getitem ?_ (args_tuple_getitem _ _)))
  show wpAny _ _ (Builtin.Tuple.tupleItemsOf (.ref t) >>= _) _ _ s
  refine wpAny_bind (tupleItemsOf_ ht ?_)
  refine wpAny_bind (wpAny_typeOf hTs ?_)
  rw [if_pos (by decide)]
  refine wpAny_bind (sliceApplied_rev hs ?_)
  have hno : ¬ ((((items.size : Int) - 1) == 0 && (-1 : Int) == 1 && items.size == items.size) = true) := by simp
  show wpAny _ _ (if (((items.size : Int) - 1) == 0 && (-1 : Int) == 1 && items.size == items.size) = true then _ else _) _ _ s
  rw [if_neg hno, pick_rev]
  first
    | exact wpAny_bind (m := Builtin.Tuple.tupleExact _) (wpAny_newObj_type (wpAny_pure ⟨_, rfl, wpAny_pure h⟩) htake)
    | exact wpAny_bind (m := Builtin.Tuple.tupleExact _) (wpAny_newObj_type (wpAny_bind (wpAny_pure (wpAny_pure ⟨_, rfl, wpAny_pure h⟩))) htake)
    | exact wpAny_bind (wpAny_bind (m := Builtin.Tuple.tupleExact _) (wpAny_newObj_type (wpAny_pure (wpAny_pure ⟨_, rfl, wpAny_pure h⟩)) htake))
    | exact wpAny_bind (wpAny_bind (m := Builtin.Tuple.tupleExact _) (wpAny_newObj_type (wpAny_pure ⟨_, rfl, wpAny_pure h⟩) htake))
end
section
variable {X : Cx} {c : Cd X.K} {e a b o : Expr} {pos p cpos apos : Pos} {va vb vc vs : List Nat} {fa fb fc : Env → W D} {i : Nat}
def tRevT (K : PySem.W.Frag) (te : TE) : TE := fun σ H Q => te σ H fun x H1 => ∃ a xs, x = .ref a ∧ SqT K H1 a xs ∧ ∀ p, H1 p = none → Q (.ref p) (upd H1 p (.tup xs.reverse))
theorem pe_revT {e : Expr} {te : TE} {k : Nat} {p1 p2 p3 pos : Pos} (he : PE X e te) : PE X (.Subscript e (.Slice none none (some (.UnaryOp .USub (.Constant (.int 1) k p1) p2)) p3) pos) (tRevT X.K te) := by
  refine ⟨fun pins s σ H Q I h => ?_⟩
  refine Subscript_ (thn (he.run pins s σ H _ I h) fun v s1 ⟨x, H1, I1, r1, q1⟩ => ?_)
  obtain ⟨a, xs, ex, hx, q⟩ := q1
  subst ex
  cases r1
  have hst : PO X (some (.UnaryOp .USub (.Constant (.int 1) k p1) p2)) (tPart (tUn (rU fun i => .int (-i)) (tC (.int 1)))) := po_some (pe_un un_neg pe_int)
  refine wpAny_Slice (thn (po_none.run pins s1 σ H1 (fun o H2 => o = none ∧ H2 = H1) I1 ⟨rfl, rfl⟩) fun vl s2 ⟨l, H2, I2, pl, el, e2⟩ => ?_)
  subst el e2
  refine thn (po_none.run pins s2 σ H2 (fun o H3 => o = none ∧ H3 = H2) I2 ⟨rfl, rfl⟩) fun vu s3 ⟨u, H3, I3, pu, eu, e3⟩ => ?_
  subst eu e3
  refine thn (hst.run pins s3 σ H3 (fun o H4 => o = some (-1) ∧ H4 = H3) I3 ⟨1, rfl, -1, rfl, rfl, rfl⟩) fun vs s4 ⟨o, H4, I4, ps, eo, e4⟩ => ?_
  subst eo e4
  have I5 : Inv X pins σ H4 { s4 with heap := s4.heap.push { cls := .type "slice", data := .fields #[vl, vu, vs] } } := I4.kept (t' := s4.toks) fun b ob q => Heap.get?_push_of_some _ q
  obtain ⟨its, r, ht, hz⟩ := I5.tuple hx
  cases pl
  cases pu
  cases ps
  show wpAny (model X.prog X.w) X.A (subscriptTail e (.Slice none none (some (.UnaryOp .USub (.Constant (.int 1) k p1) p2)) p3) (.ref a) (.ref s4.heap.objs.size)) (EP X pins σ Q) X.xe { s4 with heap := s4.heap.push { cls := .type "slice", data := .fields #[_, _, _] } }
  refine tail_any (ops := [.ref a, .ref s4.heap.objs.size]) ht.typeIs (PyProof.Rows.slot_tuple_getitem.lookup) ?_ (by with_unfolding_all rfl)
  refine getItem_tuple_rev ht (Heap.IsSliceOf.new _ _ _ _) ?_ (by rw [List.size_toArray, ← r.length]; exact hz)
  refine ⟨.ref _, _, I5.laid (t' := s4.toks) (o := .tup xs.reverse) (fun b ob q => Heap.get?_push_of_some _ q) (Nat.le_refl _) ?_, rfl, q _ (I5.hok.fresh (Nat.le_refl _))⟩
  exact ⟨by rw [List.length_reverse]; exact hz, _, r.reverse, IsTup.new _ _⟩
/-- t[::-1] -/
def revD : D → W D
  | .tup ds => chk (D.imms ds = true) (pu (.tup ds.reverse))
  | _ => fl
theorem RpA.rev {G : Gx X.K} {H : Hp} : ∀ {ds : List D} {xs : List V}, RpA G H xs ds [] → RpA G H xs.reverse ds.reverse []
  | [], _, h => by cases h; exact .nil
  | d :: ds, _, h => by
    generalize hF : ([] : List Addr) = F at h
    cases h with
    | cons h1 h2 =>
      obtain ⟨e1, e2⟩ := List.append_eq_nil_iff.mp hF.symm
      subst e1 e2
      rw [List.reverse_cons, List.reverse_cons]
      simpa using (RpA.rev h2).append (.cons h1 .nil)
theorem pn_rev {e : Expr} {k : Nat} {p1 p2 p3 pos : Pos} (he : PE X e (tD c va fa)) : PE X (.Subscript e (.Slice none none (some (.UnaryOp .USub (.Constant (.int 1) k p1) p2)) p3) pos) (tN c (dUn revD fa)) := (pe_revT he).wk fun σ H Q ⟨_, fp, δ, Qd, e, hf, k⟩ => by
  refine ⟨_, fp, δ, fun d => revD d Qd c.xq, e, hf, fun d qd v H' F p r => ?_⟩
  cases r with
  | tup sx ax =>
    obtain ⟨im, q⟩ := qd
    have e0 := RpA.imm_nil _ _ _ ax im
    subst e0
    refine ⟨_, _, rfl, sx, fun l hl => ?_⟩
    exact k _ q _ _ [] (p.kp.trans (Kp.laid p.kp.ok hl _)) (.tup (SqT.of upd_same) ((ax.laid p.kp.ok (fun _ z => nomatch z) hl _).rev)) (fun _ z => nomatch z) List.nodup_nil
  | _ => exact qd.elim
end
end DL
namespace DL
open PySem L2
section
variable {X : Cx} {c : Cd X.K} {e a b o : Expr} {pos p cpos apos : Pos} {va vb vc vs : List Nat} {fa fb fc : Env → W D} {i : Nat}
/-! ### writes to an object of its own -/
theorem EnvOk.wrO {fp : Nat → List Addr} {H : Hp} {σ : St} {δ : Env} {l : Addr} {o0 o' : HO} {d : D} {m0 : Nat} (e : EnvOk c fp H σ δ m0) (ho : i ∈ c.own) (hi : i < δ.length) (hσ : σ[i]? = some (some (.ref l))) (hl : H l = some o0) (hm : Mut (some o0)) (hf : fp i = [l])
    (r : Rp c.G (upd H l o') (.ref l) d [l]) : EnvOk c fp (upd H l o') σ (δ.set i (some d)) m0 ∧ Step c [i] fp H σ fp (upd H l o') σ := by
  have li : l ∈ fp i := by rw [hf]; simp
  have lS := e.nos i l li
  have hd : ∀ {F : List Addr}, l ∉ F → Hd c.G F H (upd H l o') := fun {F} n => ⟨⟨_, e.ok⟩, fun b o q m => by
    rw [upd_ne (fun z => m (by rw [z, hl] at q; cases q; exact hm))]; exact q, fun b o q hb => by rw [upd_ne (fun z : b = l => n (by rw [← z]; exact hb))]; exact q⟩
  have okl : c.G.ok (upd H l o') m0 := c.G.loc H _ _ e.ok (fun b hb => upd_ne fun z => lS (z ▸ hb)) fun b o q m => by rw [upd_ne (fun z => m (by rw [z, hl] at q; cases q; exact hm))]; exact q
  refine ⟨⟨okl, by rw [List.length_set]; exact e.len, fun j d q => ?_, fun j q => ?_, e.nos, e.frs, e.ndp, e.sep, fun b o q n => ?_⟩, ⟨fun _ _ => ⟨rfl, rfl⟩, fun b o q n hb => ?_, fun j hj ho a ha => .inr ⟨j, hj, ho, ha⟩, fun b q => ?_, rfl⟩⟩
  · rw [gt_set hi] at q
    by_cases h : j = i
    · subst h
      rw [if_pos rfl] at q
      cases q
      refine ⟨_, hσ, ?_⟩
      rw [hf]
      exact r
    · rw [if_neg h] at q
      obtain ⟨v, hv, rv⟩ := e.rep j d q
      exact ⟨v, hv, Rp.hd _ _ _ rv (hd (e.sep i ho j h l li))⟩
  · rw [gt_set hi] at q
    by_cases h : j = i
    · rw [if_pos h] at q; cases q
    · rw [if_neg h] at q; exact e.emp j q
  · rw [upd_ne fun z => by
      have := e.frs i ho l li
      rw [z, this] at q
      cases q]
    exact e.frm b o q n
  · rw [upd_ne (fun z : b = l => hb i (by simp) ho (by rw [z]; exact li))]
    exact q
  · by_cases h : b = l
    · rw [h, upd_same]; exact fun z => nomatch z
    · rw [upd_ne h]; exact q
/-! ### dicts of one's own -/
def dcA (δ : Env) (i : Nat) : Option (List Key × List D) := match gt δ i with
  | some (.dic ks ds) => some (ks, ds)
  | _ => none
theorem dcA_eq {δ : Env} {ks : List Key} {ds : List D} (h : dcA δ i = some (ks, ds)) : gt δ i = some (.dic ks ds) := by
  unfold dcA at h
  split at h
  · rename_i q
    cases h
    exact q
  · cases h
theorem EnvOk.dic {fp : Nat → List Addr} {H : Hp} {σ : St} {δ : Env} {ks : List Key} {ds : List D} {m0 : Nat} (e : EnvOk c fp H σ δ m0) (h : dcA δ i = some (ks, ds)) (im : D.imms ds = true) :
    ∃ l kvs, σ[i]? = some (some (.ref l)) ∧ H l = some (.dK kvs) ∧ kvs.map (·.1) = ks ∧ RpA c.G H (kvs.map (·.2)) ds [] ∧ fp i = [l] ∧ i < δ.length := by
  have hg := dcA_eq h
  obtain ⟨v, hv, r⟩ := e.rep i _ hg
  have hi : i < δ.length := by
    rw [← e.len]
    exact (List.getElem?_eq_some_iff.mp hv).1
  generalize hF : fp i = F at r
  cases r with
  | dic ex ax =>
    have e0 := RpA.imm_nil _ _ _ ax im
    subst e0
    exact ⟨_, _, hv, ex, rfl, ax, rfl, hi⟩
/-- in its place, or at the end -/
def setAt : List Key → List D → Key → D → List D
  | k' :: ks, d' :: ds, k, d => (if k' = k then d else d') :: setAt ks ds k d
  | _, _, _, _ => []
def dPut (ks : List Key) (ds : List D) (k : Key) (d : D) : D := if (ks.any fun k' => decide (k' = k)) = true then .dic ks (setAt ks ds k d) else .dic (ks ++ [k]) (ds ++ [d])
theorem setAt_rp {G : Gx X.K} {H : Hp} {v : V} {d : D} {k : Key} (r : Rp G H v d []) : ∀ {kvs : List (Key × V)} {ds : List D}, RpA G H (kvs.map (·.2)) ds [] →
    RpA G H ((kvs.map fun kv => if kv.1 = k then (kv.1, v) else kv).map (·.2)) (setAt (kvs.map (·.1)) ds k d) []
  | [], ds, h => by cases h; exact .nil
  | kv :: kvs, ds, h => by
    rw [List.map_cons] at h
    generalize hF : ([] : List Addr) = F at h
    cases h with
    | cons h1 h2 =>
      obtain ⟨e1, e2⟩ := List.append_eq_nil_iff.mp hF.symm
      subst e1 e2
      have ih := setAt_rp (k := k) r h2
      rw [List.map_cons, List.map_cons, List.map_cons]
      unfold setAt
      by_cases e : kv.1 = k
      · rw [if_pos e, if_pos e]
        exact .cons (F := []) (F' := []) r ih
      · rw [if_neg e, if_neg e]
        exact .cons (F := []) (F' := []) h1 ih
theorem dPut_rp {G : Gx X.K} {H : Hp} {l : Addr} {v : V} {d : D} {k : Key} {kvs : List (Key × V)} {ds : List D} (hl : H l = some (.dK (putK kvs k v))) (r : Rp G H v d []) (ax : RpA G H (kvs.map (·.2)) ds []) : Rp G H (.ref l) (dPut (kvs.map (·.1)) ds k d) [l] := by
  unfold dPut
  unfold putK at hl
  have hany : ((kvs.map (·.1)).any fun k' => decide (k' = k)) = kvs.any fun kv => decide (kv.1 = k) := by rw [List.any_map]; rfl
  by_cases ha : (kvs.any fun kv => decide (kv.1 = k)) = true
  · rw [if_pos ha] at hl
    rw [hany, if_pos ha]
    have ek : (kvs.map fun kv => if kv.1 = k then (kv.1, v) else kv).map (·.1) = kvs.map (·.1) := by
      rw [List.map_map]
      refine List.map_congr_left fun kv _ => ?_
      show (if kv.1 = k then (kv.1, v) else kv).1 = kv.1
      split <;> rfl
    have := Rp.dic hl (setAt_rp r ax)
    rwa [ek] at this
  · rw [if_neg ha] at hl
    rw [hany, if_neg ha]
    have ax2 : RpA G H ((kvs ++ [(k, v)]).map (·.2)) (ds ++ [d]) [] := by
      rw [List.map_append]
      simpa using ax.append (.cons r .nil)
    have := Rp.dic hl ax2
    rwa [List.map_append] at this
theorem putK_len (kvs : List (Key × V)) (k : Key) (v : V) : (putK kvs k v).length ≤ kvs.length + 1 := by
  unfold putK
  split
  · rw [List.length_map]; omega
  · rw [List.length_append, List.length_singleton]; exact Nat.le_refl _
/-- {} -/
theorem pn_dic0 : PE X (.Dict [] [] pos) (tN c (fun _ => pu (.dic [] []))) := pe_dnewK.wk fun σ H Q ⟨_, fp, δ, Qd, e, hf, k⟩ p hp =>
  k _ hf (.ref p) _ [p] (Kp.laid e.ok hp _) (Rp.dic (kvs := []) upd_same .nil) (fun a z => by rw [List.mem_singleton.mp z]; exact hp) (by simp)
/-- d[k] = v -/
def sDput (i : Nat) (fk f : Env → W D) : Env → W (Fl × Env) := fun δ => bd (f δ) fun d => opt (dcA δ i) fun p => bd (fk δ) fun kd => opt (asKey kd) fun k => chk (D.imms p.2 = true ∧ d.imm = true ∧ p.1.length < sizeLine) (pu (.nx, δ.set i (some (dPut p.1 p.2 k d))))
theorem asKey_kV {G : Gx X.K} {H : Hp} {y : V} {dy : D} {Fy : List Addr} {k : Key} (ry : Rp G H y dy Fy) (hk : asKey dy = some k) : y = kV k := by
  cases dy with
  | int i => cases hk; exact (Rp.intI ry).1
  | str s => cases hk; exact (Rp.strI ry).1
  | _ => cases hk
theorem sd_dput {m : Nat} (i : Nat) (hr : Room m X.A) (ho : i ∈ c.own) (hv : PE X o (tVar i)) (hk : PE X b (tD c vb fb)) (ha : PE X a (tD c va fa)) (hs : swapsWith a (some (.Subscript o b cpos)) pos.line X.env = pure false := by rfl) :
    PS X (.Assign [.Subscript o b cpos] a pos) (tS c [i] (sDput i fb fa)) := (ps_dput (hu_of hr) hv hk ha hs).wk fun Dn σ H ⟨_, fp, δ, Qd, e, hf, k⟩ => by
  refine ⟨_, fp, δ, fun d => opt (dcA δ i) (fun p => bd (fb δ) fun kd => opt (asKey kd) fun k => chk (D.imms p.2 = true ∧ d.imm = true ∧ p.1.length < sizeLine) (pu (Fl.nx, δ.set i (some (dPut p.1 p.2 k d))))) Qd c.xq, e, hf, fun d ⟨⟨ks, ds⟩, hds, qd⟩ u H1 F1 p1 ru => ?_⟩
  have e1 := e.kp p1.kp
  obtain ⟨v, hv, r⟩ := e1.rep i _ (dcA_eq hds)
  refine ⟨_, hv, _, fp, δ, fun kd => opt (asKey kd) (fun k => chk (D.imms ds = true ∧ d.imm = true ∧ ks.length < sizeLine) (pu (Fl.nx, δ.set i (some (dPut ks ds k d))))) Qd c.xq, e1, qd, fun kd ⟨k', hk', ⟨im, imd, sz⟩, q⟩ y H2 F2 p2 ry => ?_⟩
  have e0 := Rp.imm_nil _ _ _ ru imd
  subst e0
  have e2 := e1.kp p2.kp
  obtain ⟨l, kvs, hσ, hl, ek, ax, hfp, hi⟩ := e2.dic hds im
  have el : v = .ref l := by rw [hσ] at hv; cases hv; rfl
  subst el
  have ey := asKey_kV ry hk'
  subst ey
  have hlen : kvs.length < sizeLine := by rw [← ek, List.length_map] at sz; exact sz
  refine ⟨l, _, rfl, DPut.k hl hlen, ?_⟩
  have hd : Hd c.G [] H2 (upd H2 l (.dK (putK kvs k' u))) := ⟨⟨_, e2.ok⟩, fun b o z m => by rw [upd_ne (fun w : b = l => m (by rw [w, hl] at z; cases z; trivial))]; exact z, fun _ _ _ z => nomatch z⟩
  have rr := dPut_rp (k := k') (G := c.G) (H := upd H2 l (.dK (putK kvs k' u))) (upd_same) (Rp.hd _ _ _ (ru.kp p2.kp (fun _ z => nomatch z)) hd) (RpA.hd _ _ _ ax hd)
  rw [ek] at rr
  obtain ⟨e3, s3⟩ := e2.wrO ho hi hσ hl trivial hfp rr
  exact k _ _ q _ _ _ e3 ((Step.of_kp (p1.kp.trans p2.kp)).trans s3)
/-- d.get(k, x) -/
def dGet2 (fo fk fx : Env → W D) : Env → W D := fun δ => bd (fo δ) fun x => match x with
  | .dic ks ds => bd (fk δ) fun kd => bd (fx δ) fun z => opt (asKey kd) fun k => pu ((dicAt ks ds k).getD z)
  | _ => fl
theorem dicAt_none {kvs : List (Key × V)} {k : Key} : ∀ {ds : List D}, ds.length = kvs.length → dicAt (kvs.map (·.1)) ds k = none → valV kvs k = none := by
  induction kvs with
  | nil => intro ds _ _; rfl
  | cons kv kvs ih =>
    intro ds hl h
    cases ds with
    | nil => cases hl
    | cons d ds =>
      rw [List.map_cons] at h
      unfold dicAt at h
      by_cases e : kv.1 = k
      · rw [if_pos e] at h; cases h
      · rw [if_neg e] at h
        exact (valV_neg e).trans (ih (by simpa using hl) h)
theorem pd_get2 {m : Nat} (hr : Room m X.A) (ho : PE X o (tD c va fa)) (hk : PE X a (tD c vb fb)) (hx : PE X b (tD c vc fc)) (m2 : M2 X o "get" apos a b cpos) : PE X (.Call (.Attribute o "get" apos) [a, b] [] cpos) (tD c (va ++ vc) (dGet2 fa fb fc)) :=
  (pe_dget2 (hu_of hr) ho hk hx m2).wk fun σ H Q ⟨_, fp, δ, Qd, e, hf, k⟩ => by
    refine ⟨_, fp, δ, fun x => (match x with
      | .dic ks ds => bd (fb δ) fun kd => bd (fc δ) fun z => opt (asKey kd) fun k => pu ((dicAt ks ds k).getD z)
      | _ => fl : W D) Qd c.xq, e, hf, fun x qx v H1 F1 p1 r1 => ?_⟩
    cases r1 with
    | @dic a kvs ds F hl ax =>
      refine ⟨a, rfl, .inl ⟨kvs, .inl hl⟩, _, fp, δ, fun kd => bd (fc δ) (fun z => opt (asKey kd) fun k => pu ((dicAt (kvs.map (fun kv : Key × V => kv.1)) ds k).getD z)) Qd c.xq, e.kp p1.kp, qx, fun kd qk y H2 F2 p2 r2 => ?_⟩
      refine ⟨_, fp, δ, fun z => opt (asKey kd) (fun k => pu ((dicAt (kvs.map (fun kv : Key × V => kv.1)) ds k).getD z)) Qd c.xq, e.kp (p1.kp.trans p2.kp), qk, fun z ⟨k', hk', q⟩ w H3 F3 p3 r3 => ?_⟩
      have k13 := p2.kp.trans p3.kp
      have nosA : a ∉ c.G.S := p1.nos a (by simp)
      have hl3 : H3 a = some (.dK kvs) := k13.kp _ _ hl nosA
      have ey := asKey_kV r2 hk'
      subst ey
      refine ⟨_, DGet.k hl3, ?_⟩
      have q : Qd ((dicAt (kvs.map (·.1)) ds k').getD z) _ := q
      cases hd : dicAt (kvs.map (·.1)) ds k' with
      | none =>
        rw [hd] at q
        rw [dicAt_none (by rw [← ax.length, List.length_map]) hd]
        exact k z q w H3 F3 ((p3.ahead (p1.kp.trans p2.kp)).wk fun i z => by simp [z]) r3
      | some d =>
        rw [hd] at q
        obtain ⟨u, F', h1, h2, h3⟩ := dicAt_val ax hd
        rw [h1]
        exact k d q u H3 F' (((p1.more k13).sub fun b z => List.mem_cons_of_mem _ (h3 b z)).wk fun i z => by simp [z]) (h2.kp k13 fun b z => p1.nos b (List.mem_cons_of_mem _ (h3 b z)))
    | _ => exact qx.elim
/-! ### tests that write -/
def tTS (c : Cd X.K) (w : List Nat) (t : Env → W (Bool × Env)) : TT := fun σ H Q => ∃ n fp δ Qd, EnvOk c fp H σ δ n ∧ t δ Qd c.xq n ∧ ∀ {n'} b δ', Qd (b, δ') n' → ∀ fp' H', EnvOk c fp' H' σ δ' n' → Step c w fp H σ fp' H' σ → Q b H'
/-- d.setdefault(k, v) != x -/
def tSdNe (i : Nat) (fk fv fx : Env → W D) : Env → W (Bool × Env) := fun δ => opt (dcA δ i) fun p => bd (fk δ) fun kd => bd (fv δ) fun d => opt (asKey kd) fun k => chk (D.imms p.2 = true ∧ d.imm = true ∧ p.1.length < sizeLine) (match dicAt p.1 p.2 k with
  | some d' => bd (fx δ) fun x => bd (neS d' x) fun b => bd (asB b) fun b => pu (b, δ)
  | none => bd (fx (δ.set i (some (dPut p.1 p.2 k d)))) fun x => bd (neS d x) fun b => bd (asB b) fun b => pu (b, δ.set i (some (dPut p.1 p.2 k d))))
theorem ptS_sdNe {m : Nat} {f : Expr} {pos' : Pos} (i : Nat) (hr : Room m X.A) (ho : i ∈ c.own) (hv : PE X o (tVar i)) (hk : PE X a (tD c va fa)) (hd : PE X b (tD c vb fb)) (hx : PE X f (tD c vc fc)) (m2 : M2 X o "setdefault" apos a b cpos) :
    PT X (.Compare (.Call (.Attribute o "setdefault" apos) [a, b] [] cpos) [.NotEq] [f] pos') (tTS c [i] (tSdNe i fa fb fc)) := by
  obtain ⟨rn, on, dn⟩ := oo_ne (X := X) (c := c) hr
  refine (pt_cmpR on (pe_dsetd hv hk hd m2) hx (nomark _)).wk fun σ H Q ⟨_, fp, δ, Qd, e, ⟨⟨ks, ds⟩, hds, hf⟩, k⟩ => ?_
  obtain ⟨v, hv, r⟩ := e.rep i _ (dcA_eq hds)
  have hd0 : ∃ l kvs, v = .ref l ∧ H l = some (.dK kvs) := by
    generalize fp i = F at r
    cases r with
    | dic hl ax => exact ⟨_, _, rfl, hl⟩
  obtain ⟨l, kvs0, rfl, hl0⟩ := hd0
  refine ⟨_, hv, l, rfl, .inl ⟨kvs0, .inl hl0⟩, ?_⟩
  let kk : D → D → Key → W (Bool × Env) := fun kd d k => chk (D.imms ds = true ∧ d.imm = true ∧ ks.length < sizeLine) (match dicAt ks ds k with
  | some d' => bd (fc δ) fun x => bd (neS d' x) fun b => bd (asB b) fun b => pu (b, δ)
  | none => bd (fc (δ.set i (some (dPut ks ds k d)))) fun x => bd (neS d x) fun b => bd (asB b) fun b => pu (b, δ.set i (some (dPut ks ds k d))))
  refine ⟨_, fp, δ, fun kd => bd (fb δ) (fun d => opt (asKey kd) fun k => kk kd d k) Qd c.xq, e, hf, fun kd qk y H2 F2 p2 ry => ?_⟩
  refine ⟨_, fp, δ, fun d => opt (asKey kd) (fun k => kk kd d k) Qd c.xq, e.kp p2.kp, qk, fun d ⟨k', hk', ⟨im, imd, sz⟩, q⟩ z H3 F3 p3 rz => ?_⟩
  have e0 := Rp.imm_nil _ _ _ rz imd
  subst e0
  have ey := asKey_kV ry hk'
  subst ey
  have e3 := e.kp (p2.kp.trans p3.kp)
  obtain ⟨l', kvs, hσ, hl, ek, ax, hfp, hi⟩ := e3.dic hds im
  have el : l' = l := by rw [hσ] at hv; cases hv; rfl
  subst el
  have hlen : kvs.length < sizeLine := by rw [← ek, List.length_map] at sz; exact sz
  have fin : ∀ (d1 : D) (u : V) (δ1 : Env) (fp1 : Nat → List Addr) (H1 : Hp) (m1 : Nat), EnvOk c fp1 H1 σ δ1 m1 → Step c [i] fp H σ fp1 H1 σ → Rp c.G H1 u d1 [] → bd (fc δ1) (fun x => bd (neS d1 x) fun b => bd (asB b) fun b => pu (b, δ1)) Qd c.xq m1 →
      tD c vc fc σ H1 fun y H2 => rn u y H2 fun x H3 => ∃ k, x = .bl k ∧ Q k H3 := fun d1 u δ1 fp1 H1 m1 e1 s1 r1 q1 => by
    refine ⟨_, fp1, δ1, fun x => bd (neS d1 x) (fun b => bd (asB b) fun b => pu (b, δ1)) Qd c.xq, e1, q1, fun x qx y H2 F2 p2 ry => ?_⟩
    refine dn H2 u y d1 x [] F2 (fun b => bd (asB b) (fun b => pu (b, δ1)) Qd c.xq) _ p2.kp.ok (fun _ z => nomatch z) p2.nos (r1.kp p2.kp (fun _ z => nomatch z)) ry qx fun bD qb v H3 F3 k3 r3 s3 => ?_
    cases r3 with
    | bl b => exact ⟨b, rfl, k b δ1 qb fp1 H3 (e1.kp (p2.kp.trans k3)) (s1.trans (.of_kp (p2.kp.trans k3)))⟩
    | _ => exact qb.elim
  refine ⟨kvs, k', hl, rfl, hlen, fun u hu => ?_, fun hu => ?_⟩
  · cases hd' : dicAt ks ds k' with
    | none =>
      rw [← ek] at hd'
      rw [dicAt_none (by rw [← ax.length, List.length_map]) hd'] at hu
      cases hu
    | some d1 =>
      rw [hd'] at q
      rw [← ek] at hd'
      obtain ⟨u', F', g1, g2, g3⟩ := dicAt_val ax hd'
      rw [hu] at g1
      cases g1
      have eF : F' = [] := List.eq_nil_iff_forall_not_mem.mpr fun a z => nomatch (g3 a z)
      subst eF
      exact fin d1 u δ fp H3 _ e3 (.of_kp (p2.kp.trans p3.kp)) g2 q
  · cases hd' : dicAt ks ds k' with
    | some d1 =>
      rw [← ek] at hd'
      obtain ⟨u', F', g1, g2, g3⟩ := dicAt_val ax hd'
      rw [hu] at g1
      cases g1
    | none =>
      rw [hd'] at q
      have hd : Hd c.G [] H3 (upd H3 l' (.dK (putK kvs k' z))) := ⟨⟨_, e3.ok⟩, fun b o z m => by rw [upd_ne (fun w : b = l' => m (by rw [w, hl] at z; cases z; trivial))]; exact z, fun _ _ _ z => nomatch z⟩
      have rr := dPut_rp (k := k') (G := c.G) (H := upd H3 l' (.dK (putK kvs k' z))) (upd_same) (Rp.hd _ _ _ rz hd) (RpA.hd _ _ _ ax hd)
      rw [ek] at rr
      obtain ⟨e4, s4⟩ := e3.wrO ho hi hσ hl trivial hfp rr
      exact fin d z _ fp _ _ e4 ((Step.of_kp (p2.kp.trans p3.kp)).trans s4) (Rp.hd _ _ _ rz hd) q
variable {w w' : List Nat} {ec : Expr} {t : Env → W (Bool × Env)} {g g' : Env → W (Fl × Env)} {gb : Env → W Bool} {rest : List Expr}
/-- A or B, A a test that writes -/
def tOrS (t : Env → W (Bool × Env)) (u : Env → W Bool) : Env → W (Bool × Env) := fun δ => bd (t δ) fun r => if r.1 = true then pu (true, r.2) else bd (u r.2) fun b => pu (b, r.2)
theorem pwS_or (h : PT X a (tTS c w t)) (h' : PW X (.BoolOp .Or (b :: rest) pos) (tT c gb)) : PW X (.BoolOp .Or (a :: b :: rest) pos) (tTS c w (tOrS t gb)) := (pw_or h h').wk fun σ H Q ⟨_, fp, δ, Qd, e, hf, k⟩ => by
  refine ⟨_, fp, δ, fun r => (if r.1 = true then pu (true, r.2) else bd (gb r.2) fun b => pu (b, r.2)) Qd c.xq, e, hf, fun b δ' qb fp' H' e' s' => ?_⟩
  cases b with
  | true => exact k true δ' qb fp' H' e' s'
  | false => exact ⟨_, fp', δ', fun b => Qd (b, δ'), e', qb, fun b q H2 kp => k b δ' q fp' H2 (e'.kp kp) (s'.trans (.of_kp kp))⟩
def sIfS (t : Env → W (Bool × Env)) (g g' : Env → W (Fl × Env)) : Env → W (Fl × Env) := fun δ => bd (t δ) fun r => if r.1 = true then g r.2 else g' r.2
theorem sd_ifS {w1 w2 : List Nat} {as bs : List Stmt} (hc : PT X ec (tTS c w t)) (ha : PSs X as (tS c w1 g)) (hb : PSs X bs (tS c w2 g')) : PS X (.If ec as bs pos) (tS c (w ++ (w1 ++ w2)) (sIfS t g g')) := (ps_if hc ha hb).wk fun Dn σ H ⟨_, fp, δ, Qd, e, hf, k⟩ => by
  refine ⟨_, fp, δ, fun r => (if r.1 = true then g r.2 else g' r.2) Qd c.xq, e, hf, fun b δ' qb fp' H' e' s' => ?_⟩
  have s2 := s'.wk (w' := w ++ (w1 ++ w2)) fun i z => by simp [z]
  cases b with
  | true => exact ⟨_, fp', δ', Qd, e', qb, fun f δ2 q => ((k f δ2 q).ahead s2).wk fun i z => by simp [z]⟩
  | false => exact ⟨_, fp', δ', Qd, e', qb, fun f δ2 q => ((k f δ2 q).ahead s2).wk fun i z => by simp [z]⟩
end
end DL
namespace DL
open PySem PySem.Spec PyProof.Rows L2 HT
section
variable {X : Cx}
theorem get_list : PGet X (rIxL X.K) := by
  intro pins s σ H x y v u Q I rx ry h
  obtain ⟨p, xs, i, z, rfl, rfl, hq, he, q⟩ := h
  cases rx
  obtain ⟨t, rfl⟩ := ry
  obtain ⟨its, r, pl, hz⟩ := I.list hq
  obtain ⟨j, h1, h2, h3, h4, h5⟩ := atI_get he
  obtain ⟨w, ew, rw'⟩ := r.get h2
  have hl := r.length
  have hn := line63
  have fin : EP X pins σ Q w s := ⟨z, H, I, rw', q⟩
  by_cases h0 : 0 ≤ i
  · have hj : i.toNat = j := by
      rw [seqIndex_of h0 h5] at h1
      exact Option.some.inj h1
    exact wpAny_getItem_list pl.isList h0 (by omega) (by rw [hj]; simpa using ew) fin
  · have hj : (i + (its.toArray.size : Int)).toNat = j := by
      rw [seqIndex_neg (by omega) h4] at h1
      rw [List.size_toArray, ← hl]
      exact Option.some.inj h1
    exact wpAny_getItem_list_neg pl.isList (by omega) (by rw [List.size_toArray] <;> omega) (by omega) (by rw [hj]; simpa using ew) fin
end
end DL
namespace DL
open PySem L2
section
variable {X : Cx} {c : Cd X.K} {e a b o : Expr} {pos p cpos apos tpos : Pos} {va vb vc vs : List Nat} {fa fb fc : Env → W D} {i : Nat}
/-- xs[k] += e, xs[k] -= e -/
def sAugIx (g : Int → Int → Int) (i : Nat) (fk f : Env → W D) : Env → W (Fl × Env) := fun δ => opt (lsA δ i) fun ds => bd (fk δ) fun kd => bd (asI kd) fun k => opt (L2.atI ds k) fun old => bd (asI old) fun x => bd (f δ) fun d => bd (asI d) fun y => opt (ixN ds.length k) fun j => chk (D.imms ds = true) (pu (.nx, δ.set i (some (.lst (ds.set j (.int (g x y)))))))
theorem sd_augIx {op : Operator} {g : Int → Int → Int} (hop : PIp X op (ipI g)) (i : Nat) (ho : i ∈ c.own) (hv : PE X o (tVar i)) (hk : PE X b (tD c vb fb)) (ha : PE X a (tD c va fa))
    (hs : ∀ ov iv new, augStore b ov iv new = (do holding [new, ov, iv] (setItem ov iv new); release [new, ov, iv] []; pure .next) := by intros; rfl) :
    PS X (.AugAssign (.Subscript o b tpos) op a pos) (tS c [i] (sAugIx g i fb fa)) := (ps_augS hv hk get_list ha hop set_list hs).wk fun Dn σ H ⟨_, fp, δ, Qd, e, ⟨ds, hds, hf⟩, k⟩ => by
  obtain ⟨v, hv, r⟩ := e.rep i _ (lsA_eq hds)
  obtain ⟨l, xs0, _, rfl, sx, _, _⟩ := r.lstI
  refine ⟨_, hv, _, fp, δ, fun kd => bd (asI kd) (fun k => opt (L2.atI ds k) fun old => bd (asI old) fun x => bd (fa δ) fun d => bd (asI d) fun y => opt (ixN ds.length k) fun j => chk (D.imms ds = true) (pu (Fl.nx, δ.set i (some (.lst (ds.set j (.int (g x y)))))))) Qd c.xq, e, hf, fun kd qk y H2 F2 p2 ry => ?_⟩
  cases ry with
  | int n =>
    obtain ⟨old, hat, q⟩ := qk
    cases old with
    | int z =>
      have e2 := e.kp p2.kp
      obtain ⟨v', hv', r'⟩ := e2.rep i _ (lsA_eq hds)
      obtain ⟨l', xs, F', rfl, sx', ax', _⟩ := r'.lstI
      have el : l' = l := by rw [hv] at hv'; cases hv'; rfl
      subst el
      have hz : L2.atI xs n = some (.int z) := by
        unfold L2.atI at hat ⊢
        obtain ⟨j, hj, hd⟩ := Option.bind_eq_some_iff.mp hat
        rw [ax'.length, hj]
        obtain ⟨u, F2, hu, ru, _⟩ := ax'.get hd
        cases ru
        exact hu
      refine ⟨l', xs, n, .int z, rfl, rfl, sx', hz, ?_⟩
      refine ⟨_, fp, δ, fun d => bd (asI d) (fun y => opt (ixN ds.length n) fun j => chk (D.imms ds = true) (pu (Fl.nx, δ.set i (some (.lst (ds.set j (.int (g z y)))))))) Qd c.xq, e2, q, fun d qd w H3 F3 p3 rw => ?_⟩
      cases rw with
      | int y =>
        obtain ⟨j, hj, im, q⟩ := qd
        have e3 := e2.kp p3.kp
        obtain ⟨l2, xs2, hσ, hl, ax, hfp⟩ := e3.lst hds im
        have el : l2 = l' := by rw [hσ] at hv; cases hv; rfl
        subst el
        refine ⟨z, y, rfl, rfl, l2, xs2, n, j, rfl, rfl, hl, by rw [ax.length]; exact hj, ?_⟩
        obtain ⟨e4, s4⟩ := e3.wr ho hds hσ hl hfp (ax.put (.int _) j)
        exact k _ _ q _ _ _ e4 ((Step.of_kp (p2.kp.trans p3.kp)).trans s4)
      | _ => exact qd.elim
    | _ => exact q.elim
  | _ => exact qk.elim
end
end DL
/-! zip over any number of tuples, its pairs held or let go -/
namespace PySem
open Sem (wp)
open RZ (nextOf_tuple_item nextOf_tuple_end)
abbrev zipO (f0 : Value) (b : Bool) (TI TO : Addr) : Obj := { cls := .type "zip", dict := none, data := .fields #[f0, .bool b, .bool false, .ref TI, .ref TO], slots := #[] }
structure ZSt (h : Heap) (z TI TO : Addr) (ps : List (Addr × Addr)) (i : Nat) : Prop where
  zz : ∃ f0 b, h.get? z = some (zipO f0 b TI TO) ∧ (f0 = .none ∨ ∃ T : Nat, f0 = rawInt T)
  hTI : h.get? TI = some { cls := .type "tuple", data := .seq (ps.map fun p => Value.ref p.1).toArray }
  hTO : ∃ ws : List Value, ws.length = ps.length ∧ h.get? TO = some { cls := .type "tuple", data := .seq ws.toArray }
  its : ∀ (k : Nat) (p : Addr × Addr), ps[k]? = some p → h.IsTupleIter p.1 p.2 i
structure ZAp (z TI TO : Addr) (ps : List (Addr × Addr)) : Prop where
  TIz : TI ≠ z
  TOz : TO ≠ z
  TITO : TI ≠ TO
  iz : ∀ (k : Nat) (p : Addr × Addr), ps[k]? = some p → p.1 ≠ z
  iTI : ∀ (k : Nat) (p : Addr × Addr), ps[k]? = some p → p.1 ≠ TI
  iTO : ∀ (k : Nat) (p : Addr × Addr), ps[k]? = some p → p.1 ≠ TO
  lz : ∀ (k : Nat) (p : Addr × Addr), ps[k]? = some p → p.2 ≠ z
  lTO : ∀ (k : Nat) (p : Addr × Addr), ps[k]? = some p → p.2 ≠ TO
  li : ∀ (k : Nat) (p : Addr × Addr), ps[k]? = some p → ∀ (j : Nat) (q : Addr × Addr), ps[j]? = some q → p.2 ≠ q.1
  ii : ∀ (k : Nat) (p : Addr × Addr), ps[k]? = some p → ∀ (j : Nat) (q : Addr × Addr), ps[j]? = some q → j ≠ k → p.1 ≠ q.1
  few : ps.length ≤ 1000
section
variable {prog : Program} {w : World} {A : Around} {E : Value → Shared → Prop} {s : Shared}
theorem zn_alive {a : Addr} {Q : Option Obj → Shared → Prop} (h : Q (s.heap.get? a) s) : wpAny (model prog w) A (loadIfAlive a) Q E s := fun _ _ _ => h
theorem zn_free {z TI TO : Addr} {f0 : Value} {b : Bool} {Q : Bool → Shared → Prop} (hz : s.heap.get? z = some (zipO f0 b TI TO)) (hf : f0 = .none ∨ ∃ T : Nat, f0 = rawInt T)
    (h1 : Q true s) (h2 : ∀ h' b', h'.get? z = some (zipO f0 b' TI TO) → Heap.SameBut z s.heap h' → Q false { s with heap := h' }) : wpAny (model prog w) A (Builtin.SmallTypes.ownedTupleIsFree (.ref z)) Q E s := by
  rcases hf with rfl | ⟨T, rfl⟩
  · unfold Builtin.SmallTypes.ownedTupleIsFree
    exact wpAny_bind (wpAny_field hz rfl (x := .none) rfl (wpAny_pure h1))
  · cases hT : s.heap.get? T with
    | some oT => exact wpAny_tupleHeld_zip hz hT fun h' a b => h2 h' _ a b
    | none =>
      unfold Builtin.SmallTypes.ownedTupleIsFree
      refine wpAny_bind (wpAny_field hz rfl (x := rawInt T) rfl ?_)
      show wpAny _ _ (loadIfAlive ((T : Int).toNat) >>= _) _ _ _
      rw [Int.toNat_natCast]
      refine wpAny_bind (zn_alive ?_)
      rw [hT]
      exact wpAny_pure h1
/-- the state amid a turn: j iterators have moved -/
structure ZMid (h0 h : Heap) (z TI TO : Addr) (ps : List (Addr × Addr)) (i j : Nat) (vs : List Value) (f0 : Value) (b : Bool) : Prop where
  zz : h.get? z = some (zipO f0 b TI TO)
  hTO : ∃ ws : List Value, ws.length = ps.length ∧ h.get? TO = some { cls := .type "tuple", data := .seq ws.toArray }
  its : ∀ (k : Nat) (p : Addr × Addr), ps[k]? = some p → h.IsTupleIter p.1 p.2 (if k < j then i + 1 else i)
  len : vs.length = j
  val : ∀ (k : Nat) (p : Addr × Addr), ps[k]? = some p → k < j → ∃ items x, h0.IsTuple p.2 items ∧ items[i]? = some x ∧ vs[k]? = some x
  keep : ∀ c o, c ≠ z → c ≠ TO → (∀ (k : Nat) (p : Addr × Addr), ps[k]? = some p → c ≠ p.1) → h0.get? c = some o → h.get? c = some o
  size : h.objs.size = h0.objs.size
theorem ZMid.next {h0 h h' : Heap} {z TI TO : Addr} {ps : List (Addr × Addr)} {i j : Nat} {vs : List Value} {f0 : Value} {b : Bool} {p : Addr × Addr} {items : Array Value} {x : Value} (D : ZAp z TI TO ps) (m : ZMid h0 h z TI TO ps i j vs f0 b) (hp : ps[j]? = some p)
    (hi : h0.IsTuple p.2 items) (hx : items[i]? = some x) (h1 : h'.IsTupleIter p.1 p.2 (i + 1)) (hs : Heap.SameBut p.1 h h') : ZMid h0 h' z TI TO ps i (j + 1) (vs ++ [x]) f0 b where
  zz := hs.extBut _ _ (D.iz _ _ hp).symm m.zz
  hTO := let ⟨ws, l, e⟩ := m.hTO; ⟨ws, l, hs.extBut _ _ (D.iTO _ _ hp).symm e⟩
  its := fun k q hq => by
    by_cases e : k = j
    · subst e
      rw [hp] at hq
      cases hq
      rw [if_pos (Nat.lt_succ_self _)]
      exact h1
    · have z := m.its k q hq
      have e2 : (if k < j + 1 then i + 1 else i) = if k < j then i + 1 else i := by
        by_cases l : k < j
        · rw [if_pos l, if_pos (by omega)]
        · rw [if_neg l, if_neg (by omega)]
      rw [e2]
      exact z.extBut hs.extBut (D.ii _ _ hq _ _ hp fun z => e z.symm)
  len := by rw [List.length_append, m.len]; rfl
  val := fun k q hq hk => by
    by_cases e : k = j
    · subst e
      rw [hp] at hq
      cases hq
      exact ⟨items, x, hi, hx, by rw [List.getElem?_append_right (by rw [m.len]; exact Nat.le_refl _), m.len]; simp⟩
    · obtain ⟨it, y, a1, a2, a3⟩ := m.val k q hq (by omega)
      exact ⟨it, y, a1, a2, by rw [List.getElem?_append_left (by rw [m.len]; omega)]; exact a3⟩
  keep := fun c o c1 c2 c3 e => hs.extBut _ _ (c3 _ _ hp) (m.keep c o c1 c2 c3 e)
  size := hs.1.trans m.size
theorem ZMid.wr {h0 h h' : Heap} {z TI TO : Addr} {ps : List (Addr × Addr)} {i j : Nat} {vs ws : List Value} {f0 : Value} {b : Bool} (D : ZAp z TI TO ps) (m : ZMid h0 h z TI TO ps i j vs f0 b) (hT : h'.get? TO = some { cls := .type "tuple", data := .seq ws.toArray }) (hs : Heap.SameBut TO h h') (l : ws.length = ps.length) :
    ZMid h0 h' z TI TO ps i j vs f0 b where
  zz := hs.extBut _ _ D.TOz.symm m.zz
  hTO := ⟨ws, l, hT⟩
  its := fun k q hq => (m.its k q hq).extBut hs.extBut (D.iTO _ _ hq)
  len := m.len
  val := m.val
  keep := fun c o c1 c2 c3 e => hs.extBut _ _ c2 (m.keep c o c1 c2 c3 e)
  size := hs.1.trans m.size
theorem ZMid.tup {h0 h : Heap} {z TI TO : Addr} {ps : List (Addr × Addr)} {i j k : Nat} {vs : List Value} {f0 : Value} {b : Bool} {p : Addr × Addr} {items : Array Value} (D : ZAp z TI TO ps) (m : ZMid h0 h z TI TO ps i j vs f0 b) (hp : ps[k]? = some p) (hi : h0.IsTuple p.2 items) : h.IsTuple p.2 items := by
  obtain ⟨o, ho, r⟩ := hi
  exact ⟨o, m.keep _ _ (D.lz _ _ hp) (D.lTO _ _ hp) (fun k' q hq => D.li _ _ hp _ _ hq) ho, r⟩
theorem zn_upd {TO : Addr} {ws : List Value} {x : Value} {k : Nat} {Q : Unit → Shared → Prop} (hw : ws.length ≤ 1000) (hT : s.heap.get? TO = some { cls := .type "tuple", data := .seq ws.toArray })
    (h : ∀ h', h'.get? TO = some { cls := .type "tuple", data := .seq (ws.set k x).toArray } → Heap.SameBut TO s.heap h' → Q () { s with heap := h' }) :
    wpAny (model prog w) A (updateSeq TO (·.setIfInBounds k x)) Q E s := by
  have hz : ws.toArray.size ≤ sizeLine := by rw [List.size_toArray]; exact Nat.le_trans hw (by decide)
  refine wpAny_updateSeq hT rfl (h _ ?_ (Heap.SameBut.update ..)) hz (by rw [Array.size_setIfInBounds]; exact Nat.le_succ_of_le hz)
  rw [Heap.get?_update_self _ hT rfl]
  simp [Obj.mapSeq]
theorem zipN_next {z TI TO : Addr} {ps : List (Addr × Addr)} {i : Nat} {Q : Value → Shared → Prop} (hh : A.handled = none) (D : ZAp z TI TO ps) (st : ZSt s.heap z TI TO ps i) (h0 : ps ≠ []) (ht : ∀ (k : Nat) (p : Addr × Addr), ps[k]? = some p → ∃ items, s.heap.IsTuple p.2 items)
    (hQ : ∀ (vs : List Value) (h' : Heap), vs.length = ps.length → (∀ (k : Nat) (p : Addr × Addr), ps[k]? = some p → ∃ items x, s.heap.IsTuple p.2 items ∧ items[i]? = some x ∧ vs[k]? = some x) → ZSt h' z TI TO ps (i + 1) → h'.get? s.heap.objs.size = some { cls := .type "tuple", data := .seq vs.toArray } →
      h'.objs.size = s.heap.objs.size + 1 → (∀ c o, c ≠ z → c ≠ TO → (∀ (k : Nat) (p : Addr × Addr), ps[k]? = some p → c ≠ p.1) → s.heap.get? c = some o → h'.get? c = some o) → Q (.ref s.heap.objs.size) { s with heap := h' })
    (hE : ∀ h' e, (∃ (k : Nat) (p : Addr × Addr) (items : Array Value), ps[k]? = some p ∧ s.heap.IsTuple p.2 items ∧ items[i]? = none) → (∀ c o, c ≠ z → c ≠ TO → (∀ (k : Nat) (p : Addr × Addr), ps[k]? = some p → c ≠ p.1) → s.heap.get? c = some o → h'.get? c = some o) → (∃ o, h'.get? e = some o ∧ o.cls = .type "StopIteration") → E (.ref e) { s with heap := h' }) :
    wpAny (model prog w) A (Builtin.«zip.__next__» ⟨[.ref z], []⟩) (fun fin s' => ∃ v, fin = .done (.ret v) ∧ Q v s') E s := by
  obtain ⟨hp, g, d, tk0, os⟩ := s
  obtain ⟨⟨f0, b, hz, hf⟩, hTI, hTO, hits⟩ := st
  show wpAny _ _ (field (.ref z) 2 >>= _) _ _ _
  refine wpAny_bind (wpAny_field hz rfl (x := .bool false) rfl ?_)
  show wpAny _ _ (field (.ref z) 3 >>= _) _ _ _
  refine wpAny_bind (wpAny_field hz rfl (x := .ref TI) rfl ?_)
  refine wpAny_bind (wpAny_seqItems hTI rfl ?_)
  have ne : (ps.map fun p => Value.ref p.1).toArray.isEmpty = false := by
    cases ps with
    | nil => exact absurd rfl h0
    | cons p ps => rfl
  simp only [ne, Bool.false_eq_true, if_false]
  show wpAny _ _ (Builtin.SmallTypes.ownedTupleIsFree (.ref z) >>= _) _ _ _
  refine wpAny_bind (zn_free hz hf ?_ fun h1 b1 hz1 hs1 => ?_)
  · simp only [if_true]
    refine wpAny_bind (wpAny_rule ?_)
    refine wpAny_bind (wpAny_field hz rfl (x := .ref TO) rfl ?_)
    refine wpAny_bind (wpAny_setField_rec hz (by simp) fun g0 hz0 hs0 => ?_)
    replace hz0 : g0.get? z = some (zipO .ellipsis b TI TO) := hz0
    refine wpAny_bind (wpAny_forIn_list _ (fun rest r s' => ∃ (j : Nat) (vs : List Value) (h' : Heap), rest = ((ps.map fun p => Value.ref p.1).zipIdx).drop j ∧ j ≤ ps.length ∧ r.1 = none ∧ s' = ⟨h', g, d, tk0, os⟩ ∧ ZMid hp h' z TI TO ps i j vs .ellipsis b ∧
      ∃ ws : List Value, ws.length = ps.length ∧ h'.get? TO = some { cls := .type "tuple", data := .seq ws.toArray } ∧ ∀ k, k < j → ws[k]? = vs[k]?) _ (fun x rest r s' hI => ?_) (fun r s' hI => ?_) _ _ ⟨0, [], g0, rfl, Nat.zero_le _, rfl, rfl, ?_, ?_⟩)
    · obtain ⟨j, vs, h', hr, hj, hn, es, m, ws, lw, eT, ew⟩ := hI
      subst es
      have hlt : j < ps.length := by
        rcases Nat.lt_or_ge j ps.length with l | l
        · exact l
        · rw [List.drop_eq_nil_of_le (by simpa using l)] at hr
          cases hr
      obtain ⟨p, hpj⟩ : ∃ p, ps[j]? = some p := ⟨_, List.getElem?_eq_getElem hlt⟩
      have hr2 : x = (Value.ref p.1, j) ∧ rest = ((ps.map fun p => Value.ref p.1).zipIdx).drop (j + 1) := by
        rw [List.drop_eq_getElem_cons (by simpa using hlt)] at hr
        obtain ⟨e1, e2⟩ := List.cons.inj hr
        refine ⟨?_, e2⟩
        rw [e1]
        have e3 := List.getElem?_eq_some_iff.mp hpj
        obtain ⟨_, e3⟩ := e3
        simp [e3]
      obtain ⟨rfl, rfl⟩ := hr2
      have st := m.its _ _ hpj
      rw [if_neg (Nat.lt_irrefl _)] at st
      obtain ⟨items, hit⟩ := ht _ _ hpj
      refine wpAny_bind (wpAny_onRaise ?_)
      show wpAny _ _ (Builtin.SmallTypes.nextOf (.ref p.1) >>= _) _ _ _
      cases hx : items[i]? with
      | none =>
        refine wpAny_bind (nextOf_tuple_end hh st (m.tup D hpj hit) hx fun h₂ e hs₂ he => ?_)
        obtain ⟨oe, hoe, hce⟩ := he
        have hz₂ : h₂.get? z = some (zipO .ellipsis b TI TO) := hs₂ _ _ (D.iz _ _ hpj).symm m.zz
        have hez : e ≠ z := fun x => by subst x; rw [hz₂] at hoe; cases hoe; simp at hce
        refine wpAny_setField_rec hz₂ (by simp) fun h₃ _ hs₃ => hE h₃ e ⟨_, _, _, hpj, hit, hx⟩ (fun c o c1 c2 c3 x => hs₃.extBut _ _ c1 (hs₂ _ _ (c3 _ _ hpj) (m.keep c o c1 c2 c3 x))) ⟨oe, hs₃.extBut _ _ hez hoe, hce⟩
      | some x =>
        refine wpAny_bind (nextOf_tuple_item st (m.tup D hpj hit) hx fun h₂ h1₂ hs₂ => wpAny_pure ?_)
        have hTO₂ : h₂.get? TO = some { cls := .type "tuple", data := .seq ws.toArray } := hs₂.extBut _ _ (D.iTO _ _ hpj).symm eT
        refine wpAny_bind (wpAny_seqItems hTO₂ rfl ?_)
        refine wpAny_bind (zn_upd (by rw [lw]; exact D.few) hTO₂ fun h₃ hTO₃ hs₃ => ?_)
        refine wpAny_bind (wpAny_letGo (wpAny_pure ?_))
        have m2 := m.next D hpj hit hx h1₂ hs₂
        refine ⟨j + 1, vs ++ [x], h₃, rfl, hlt, rfl, rfl, m2.wr D hTO₃ hs₃ (by rw [List.length_set]; exact lw), _, by rw [List.length_set]; exact lw, hTO₃, fun k hk => ?_⟩
        by_cases e : k = j
        · subst e
          rw [List.getElem?_set_self (by omega), List.getElem?_append_right (by rw [m.len]; exact Nat.le_refl _), m.len]
          simp
        · rw [List.getElem?_set_ne (fun z => e z.symm), List.getElem?_append_left (by rw [m.len]; omega)]
          exact ew k (by omega)
    · obtain ⟨j, vs, h', hr, hj, hn, es, m, ws, lw, eT, ew⟩ := hI
      subst es
      have ej : j = ps.length := by
        have := congrArg List.length hr
        simp at this
        omega
      subst ej
      have ews : ws = vs := by
        refine List.ext_getElem? fun k => ?_
        by_cases l : k < ps.length
        · exact ew k l
        · rw [List.getElem?_eq_none_iff.mpr (by omega), List.getElem?_eq_none_iff.mpr (by rw [m.len]; omega)]
      subst ews
      simp only [hn]
      refine wpAny_bind (wpAny_seqItems eT rfl ?_)
      refine wpAny_bind (wpAny_newTuple ?_ (by rw [List.toList_toArray, m.len]; exact Nat.le_trans D.few (by decide)))
      rw [List.toList_toArray]
      have hzlt : z < h'.objs.size := Heap.lt_size m.zz
      show wpAny _ _ (Builtin.SmallTypes.ownedTupleHandOut (.ref z) (.ref h'.objs.size) >>= _) _ _ _
      refine wpAny_bind ?_
      unfold Builtin.SmallTypes.ownedTupleHandOut
      have hz₆ : (h'.push { cls := .type "tuple", data := .seq ws.toArray }).get? z = some (zipO .ellipsis b TI TO) := Heap.get?_push_of_some _ m.zz
      refine wpAny_bind (wpAny_setField_rec hz₆ (by simp) fun h₇ hz₇ hs₇ => ?_)
      replace hz₇ : h₇.get? z = some (zipO (rawInt h'.objs.size) b TI TO) := hz₇
      refine wpAny_setField_rec hz₇ (by simp) fun h₈ hz₈ hs₈ => ?_
      replace hz₈ : h₈.get? z = some (zipO (rawInt h'.objs.size) false TI TO) := hz₈
      replace hs₇ : Heap.SameBut z (h'.push { cls := .type "tuple", data := .seq ws.toArray }) h₇ := hs₇
      replace hs₈ : Heap.SameBut z h₇ h₈ := hs₈
      have up : ∀ c o, c ≠ z → h'.get? c = some o → h₈.get? c = some o := fun c o c1 e => hs₈.extBut _ _ c1 (hs₇.extBut _ _ c1 (Heap.get?_push_of_some _ e))
      have hT₈ : h₈.get? h'.objs.size = some { cls := .type "tuple", data := .seq ws.toArray } := hs₈.extBut _ _ (Nat.ne_of_gt hzlt) (hs₇.extBut _ _ (Nat.ne_of_gt hzlt) (Heap.get?_push_size _ rfl))
      have hz8 : h₈.objs.size = h'.objs.size + 1 := by rw [hs₈.1, hs₇.1, Heap.size_push]
      refine wpAny_pure ⟨_, rfl, ?_⟩
      rw [m.size] at hT₈ hz8
      show Q (.ref h'.objs.size) _
      rw [m.size]
      refine hQ ws h₈ m.len (fun k p hk => m.val k p hk (List.getElem?_eq_some_iff.mp hk).1) ⟨⟨_, _, hz₈, .inr ⟨_, rfl⟩⟩, up _ _ D.TIz (m.keep _ _ D.TIz D.TITO (fun k p hk => (D.iTI _ _ hk).symm) hTI), ⟨ws, lw, up _ _ D.TOz eT⟩, fun k p hk => ?_⟩ hT₈ hz8 fun c o c1 c2 c3 e => up c o c1 (m.keep c o c1 c2 c3 e)
      have z1 := m.its k p hk
      rw [if_pos (List.getElem?_eq_some_iff.mp hk).1] at z1
      exact z1.at fun o e => up _ o (D.iz _ _ hk) e
    · refine ⟨hz0, ?_, fun k p hk => ?_, rfl, fun k p _ z => absurd z (Nat.not_lt_zero _), fun c o c1 _ _ e => hs0.extBut _ _ c1 e, hs0.1⟩
      · obtain ⟨ws, l, e⟩ := hTO
        exact ⟨ws, l, hs0.extBut _ _ D.TOz e⟩
      · rw [if_neg (Nat.not_lt_zero _)]
        exact (hits k p hk).extBut hs0.extBut (D.iz _ _ hk)
    · obtain ⟨ws, l, e⟩ := hTO
      exact ⟨ws, l, hs0.extBut _ _ D.TOz e, fun k hk => absurd hk (Nat.not_lt_zero _)⟩
  · simp only [Bool.false_eq_true, if_false]
    refine wpAny_bind ?_
    rw [← Array.forIn_toList]
    refine wpAny_forIn_list _ (fun rest r s' => ∃ (j : Nat) (vs : List Value) (h' : Heap), rest = (ps.map fun p => Value.ref p.1).drop j ∧ j ≤ ps.length ∧ r.1 = none ∧ r.2 = vs.toArray ∧ s' = ⟨h', g, d, tk0, os⟩ ∧ ZMid hp h' z TI TO ps i j vs f0 b1) _ (fun x rest r s' hI => ?_) (fun r s' hI => ?_) _ _ ⟨0, [], h1, rfl, Nat.zero_le _, rfl, rfl, rfl, ?_⟩
    · obtain ⟨j, vs, h', hr, hj, hn, hv, es, m⟩ := hI
      subst es
      have hlt : j < ps.length := by
        rcases Nat.lt_or_ge j ps.length with l | l
        · exact l
        · rw [List.drop_eq_nil_of_le (by simpa using l)] at hr
          cases hr
      obtain ⟨p, hpj⟩ : ∃ p, ps[j]? = some p := ⟨_, List.getElem?_eq_getElem hlt⟩
      have hr2 : x = Value.ref p.1 ∧ rest = (ps.map fun p => Value.ref p.1).drop (j + 1) := by
        rw [List.drop_eq_getElem_cons (by simpa using hlt)] at hr
        obtain ⟨e1, e2⟩ := List.cons.inj hr
        refine ⟨?_, e2⟩
        rw [e1]
        obtain ⟨_, e3⟩ := List.getElem?_eq_some_iff.mp hpj
        simp [e3]
      obtain ⟨rfl, rfl⟩ := hr2
      have st := m.its _ _ hpj
      rw [if_neg (Nat.lt_irrefl _)] at st
      obtain ⟨items, hit⟩ := ht _ _ hpj
      refine wpAny_bind (wpAny_holding ?_)
      show wpAny _ _ (Builtin.SmallTypes.nextOf (.ref p.1) >>= _) _ _ _
      cases hx : items[i]? with
      | none =>
        refine wpAny_bind (nextOf_tuple_end hh st (m.tup D hpj hit) hx fun h₂ e hs₂ he => ?_)
        exact hE h₂ e ⟨_, _, _, hpj, hit, hx⟩ (fun c o c1 c2 c3 x => hs₂ _ _ (c3 _ _ hpj) (m.keep c o c1 c2 c3 x)) he
      | some x =>
        refine wpAny_bind (nextOf_tuple_item st (m.tup D hpj hit) hx fun h₂ h1₂ hs₂ => wpAny_pure ?_)
        refine wpAny_pure ⟨j + 1, vs ++ [x], h₂, rfl, hlt, rfl, ?_, rfl, m.next D hpj hit hx h1₂ hs₂⟩
        show r.2.push x = _
        rw [hv]
        simp
    · obtain ⟨j, vs, h', hr, hj, hn, hv, es, m⟩ := hI
      subst es
      have ej : j = ps.length := by
        have := congrArg List.length hr
        simp at this
        omega
      subst ej
      simp only [hn, hv]
      show wpAny _ _ (newTuple vs.toArray.toList >>= _) _ _ _
      refine wpAny_bind (wpAny_newTuple ?_ (by rw [List.toList_toArray, m.len]; exact Nat.le_trans D.few (by decide)))
      rw [List.toList_toArray]
      have hT : (h'.push { cls := .type "tuple", data := .seq vs.toArray }).get? h'.objs.size = some { cls := .type "tuple", data := .seq vs.toArray } := Heap.get?_push_size _ rfl
      have hz4 : (h'.push { cls := .type "tuple", data := .seq vs.toArray }).objs.size = h'.objs.size + 1 := Heap.size_push ..
      have up : ∀ c o, h'.get? c = some o → (h'.push { cls := .type "tuple", data := .seq vs.toArray }).get? c = some o := fun c o e => Heap.get?_push_of_some _ e
      refine wpAny_pure ⟨_, rfl, ?_⟩
      rw [m.size] at hT hz4
      show Q (.ref h'.objs.size) _
      rw [m.size]
      obtain ⟨ws, lw, eT⟩ := m.hTO
      refine hQ vs _ m.len (fun k p hk => m.val k p hk (List.getElem?_eq_some_iff.mp hk).1) ⟨⟨_, _, up _ _ m.zz, hf⟩, up _ _ (m.keep _ _ D.TIz D.TITO (fun k p hk => (D.iTI _ _ hk).symm) hTI), ⟨ws, lw, up _ _ eT⟩, fun k p hk => ?_⟩ hT hz4 fun c o c1 c2 c3 e => up c o (m.keep c o c1 c2 c3 e)
      have z1 := m.its k p hk
      rw [if_pos (List.getElem?_eq_some_iff.mp hk).1] at z1
      exact z1.at fun o e => up _ o e
    · refine ⟨hz1, ?_, fun k p hk => ?_, rfl, fun k p _ z => absurd z (Nat.not_lt_zero _), fun c o c1 _ _ e => hs1.extBut _ _ c1 e, hs1.1⟩
      · obtain ⟨ws, l, e⟩ := hTO
        exact ⟨ws, l, hs1.extBut _ _ D.TOz e⟩
      · rw [if_neg (Nat.not_lt_zero _)]
        exact (hits k p hk).extBut hs1.extBut (D.iz _ _ hk)
end
end PySem
namespace PySem
open Sem (wp)
namespace F
theorem typeCall_zip_4 (a b c d : Value) : checkTypeCall "zip" ⟨[a, b, c, d], []⟩ = pure () := by kernel_rfl
theorem newCall_zip_4 (a b c d : Value) : checkBuiltinCall "zip.__new__" ⟨[.type "zip", a, b, c, d], []⟩ = pure () := by kernel_rfl
theorem args_object_init_5 (a b c d e : Value) : argsOk "object.__init__" ⟨[a, b, c, d, e], []⟩ := by
  unfold argsOk; rw [signature?_of (id := "object.__init__") (n := ['_', '_', 't', 'i', 'n', 'i', '_', '_']) (o := ['t', 'c', 'e', 'j', 'b', 'o']) (by kernel_rfl) owner_object]; kernel_rfl
end F
abbrev tiO (l : Addr) : Obj := { cls := .type "tuple_iterator", data := .fields #[.ref l, .int 0 0] }
abbrev tupO (vs : List Value) : Obj := { cls := .type "tuple", data := .seq vs.toArray }
abbrev zH1 (h : Heap) (a : Addr) : Heap := h.push (tiO a)
abbrev zH2 (h : Heap) (a b : Addr) : Heap := (zH1 h a).push (tiO b)
abbrev zH3 (h : Heap) (a b c : Addr) : Heap := (zH2 h a b).push (tiO c)
abbrev zH4 (h : Heap) (a b c d : Addr) : Heap := (zH3 h a b c).push (tiO d)
abbrev zP4 (h : Heap) (a b c d : Addr) : Heap := (zH4 h a b c d).push (tupO [.ref h.objs.size, .ref (zH1 h a).objs.size, .ref (zH2 h a b).objs.size, .ref (zH3 h a b c).objs.size])
abbrev zQ4 (h : Heap) (a b c d : Addr) : Heap := (zP4 h a b c d).push (tupO [.none, .none, .none, .none])
abbrev zR4 (h : Heap) (a b c d : Addr) : Heap := (zQ4 h a b c d).push (zipO .none false (zH4 h a b c d).objs.size (zP4 h a b c d).objs.size)
set_option maxHeartbeats 8000000 in
theorem meets_zip4_new (l1 l2 l3 l4 : Addr) (x1 x2 x3 x4 : Array Value) :
    Meets (Builtin.«zip.__new__» ⟨[.type "zip", .ref l1, .ref l2, .ref l3, .ref l4], []⟩) (fun _ R s => s.heap.IsTuple l1 x1 ∧ s.heap.IsTuple l2 x2 ∧ s.heap.IsTuple l3 x3 ∧ s.heap.IsTuple l4 x4 ∧
      R (.ok (.ret (.ref (zQ4 s.heap l1 l2 l3 l4).objs.size))) { s with heap := zR4 s.heap l1 l2 l3 l4 }) :=
  .of_wp fun prog w A R s h => by
    obtain ⟨hp, g, d, tk, os⟩ := s; obtain ⟨hl1, hl2, hl3, hl4, h⟩ := h
    have hsub := sub_zip
    have hL1 : Heap.IsTuple (Shared.heap ⟨hp, g, d, tk, os⟩) l1 x1 := hl1
    have hL2 : Heap.IsTuple (Shared.heap ⟨zH1 hp l1, g, d, tk, os⟩) l2 x2 := Heap.IsTuple.push hl2 _
    have hL3 : Heap.IsTuple (Shared.heap ⟨zH2 hp l1 l2, g, d, tk, os⟩) l3 x3 := Heap.IsTuple.push (Heap.IsTuple.push hl3 _) _
    have hL4 : Heap.IsTuple (Shared.heap ⟨zH3 hp l1 l2 l3, g, d, tk, os⟩) l4 x4 := Heap.IsTuple.push (Heap.IsTuple.push (Heap.IsTuple.push hl4 _) _) _
    wp_walk using wpAny_pyIter_tuple hL1, wpAny_pyIter_tuple hL2, wpAny_pyIter_tuple hL3, wpAny_pyIter_tuple hL4
    exact ⟨_, rfl, h⟩
section
variable {prog : Program} {w : World} {A : Around} {E : Value → Shared → Prop} {s : Shared}
theorem call_zip4 {l1 l2 l3 l4 : Addr} {x1 x2 x3 x4 : Array Value} {Q : Value → Shared → Prop} (hl1 : s.heap.IsTuple l1 x1) (hl2 : s.heap.IsTuple l2 x2) (hl3 : s.heap.IsTuple l3 x3) (hl4 : s.heap.IsTuple l4 x4)
    (h : ∀ h', ZSt h' (s.heap.objs.size + 6) (s.heap.objs.size + 4) (s.heap.objs.size + 5) [(s.heap.objs.size, l1), (s.heap.objs.size + 1, l2), (s.heap.objs.size + 2, l3), (s.heap.objs.size + 3, l4)] 0 → h'.objs.size = s.heap.objs.size + 7 →
      (∀ c o, s.heap.get? c = some o → h'.get? c = some o) → Q (.ref (s.heap.objs.size + 6)) { s with heap := h' }) :
    wpAny (model prog w) A (call (.type "zip") [.ref l1, .ref l2, .ref l3, .ref l4]) Q E s := by
  refine callType_new F.called_zip (by decide) (F.typeCall_zip_4 _ _ _ _) (F.newCall_zip_4 _ _ _ _) (fun obj => F.args_object_init_5 obj _ _ _ _) F.entry_zip_new
    (meets_zip4_new l1 l2 l3 l4 x1 x2 x3 x4) ⟨hl1, hl2, hl3, hl4, ?_⟩
  have z1 : (zH1 s.heap l1).objs.size = s.heap.objs.size + 1 := Heap.size_push ..
  have z2 : (zH2 s.heap l1 l2).objs.size = s.heap.objs.size + 2 := by rw [Heap.size_push, z1]
  have z3 : (zH3 s.heap l1 l2 l3).objs.size = s.heap.objs.size + 3 := by rw [Heap.size_push, z2]
  have z4 : (zH4 s.heap l1 l2 l3 l4).objs.size = s.heap.objs.size + 4 := by rw [Heap.size_push, z3]
  have z5 : (zP4 s.heap l1 l2 l3 l4).objs.size = s.heap.objs.size + 5 := by rw [Heap.size_push, z4]
  have z6 : (zQ4 s.heap l1 l2 l3 l4).objs.size = s.heap.objs.size + 6 := by rw [Heap.size_push, z5]
  have z7 : (zR4 s.heap l1 l2 l3 l4).objs.size = s.heap.objs.size + 7 := by rw [Heap.size_push, z6]
  have g7 : (zR4 s.heap l1 l2 l3 l4).get? (zQ4 s.heap l1 l2 l3 l4).objs.size = some _ := Heap.get?_push_size _ rfl
  have g6 : (zR4 s.heap l1 l2 l3 l4).get? (zP4 s.heap l1 l2 l3 l4).objs.size = some _ := Heap.get?_push_of_some _ (Heap.get?_push_size _ rfl)
  have g5 : (zR4 s.heap l1 l2 l3 l4).get? (zH4 s.heap l1 l2 l3 l4).objs.size = some _ := Heap.get?_push_of_some _ (Heap.get?_push_of_some _ (Heap.get?_push_size _ rfl))
  have g4 : (zR4 s.heap l1 l2 l3 l4).get? (zH3 s.heap l1 l2 l3).objs.size = some _ := Heap.get?_push_of_some _ (Heap.get?_push_of_some _ (Heap.get?_push_of_some _ (Heap.get?_push_size _ rfl)))
  have g3 : (zR4 s.heap l1 l2 l3 l4).get? (zH2 s.heap l1 l2).objs.size = some _ := Heap.get?_push_of_some _ (Heap.get?_push_of_some _ (Heap.get?_push_of_some _ (Heap.get?_push_of_some _ (Heap.get?_push_size _ rfl))))
  have g2 : (zR4 s.heap l1 l2 l3 l4).get? (zH1 s.heap l1).objs.size = some _ := Heap.get?_push_of_some _ (Heap.get?_push_of_some _ (Heap.get?_push_of_some _ (Heap.get?_push_of_some _ (Heap.get?_push_of_some _ (Heap.get?_push_size _ rfl)))))
  have g1 : (zR4 s.heap l1 l2 l3 l4).get? s.heap.objs.size = some _ := Heap.get?_push_of_some _ (Heap.get?_push_of_some _ (Heap.get?_push_of_some _ (Heap.get?_push_of_some _ (Heap.get?_push_of_some _ (Heap.get?_push_of_some _ (Heap.get?_push_size _ rfl))))))
  show _ ∧ _
  rw [z4, z5, z6] at g7
  rw [z5] at g6
  rw [z1, z2, z3, z4] at g5
  rw [z3] at g4
  rw [z2] at g3
  rw [z1] at g2
  rw [z6]
  refine ⟨⟨_, g7, rfl⟩, h _ ⟨⟨_, _, g7, .inl rfl⟩, g5, ⟨[.none, .none, .none, .none], rfl, g6⟩, fun k p hk => ?_⟩ z7 fun c o x =>
    Heap.get?_push_of_some _ (Heap.get?_push_of_some _ (Heap.get?_push_of_some _ (Heap.get?_push_of_some _ (Heap.get?_push_of_some _ (Heap.get?_push_of_some _ (Heap.get?_push_of_some _ x))))))⟩
  match k, hk with
  | 0, hk => cases hk; exact ⟨_, g1, rfl, rfl⟩
  | 1, hk => cases hk; exact ⟨_, g2, rfl, rfl⟩
  | 2, hk => cases hk; exact ⟨_, g3, rfl, rfl⟩
  | 3, hk => cases hk; exact ⟨_, g4, rfl, rfl⟩
  | k + 4, hk => cases hk
theorem pyNext_zipN {z TI TO : Addr} {ps : List (Addr × Addr)} {i : Nat} {Q : Option Value → Shared → Prop} (hh : A.handled = none) (D : ZAp z TI TO ps) (st : ZSt s.heap z TI TO ps i) (h0 : ps ≠ []) (ht : ∀ (k : Nat) (p : Addr × Addr), ps[k]? = some p → ∃ items, s.heap.IsTuple p.2 items)
    (hQ : ∀ (vs : List Value) (h' : Heap), vs.length = ps.length → (∀ (k : Nat) (p : Addr × Addr), ps[k]? = some p → ∃ items x, s.heap.IsTuple p.2 items ∧ items[i]? = some x ∧ vs[k]? = some x) → ZSt h' z TI TO ps (i + 1) → h'.get? s.heap.objs.size = some { cls := .type "tuple", data := .seq vs.toArray } →
      h'.objs.size = s.heap.objs.size + 1 → (∀ c o, c ≠ z → c ≠ TO → (∀ (k : Nat) (p : Addr × Addr), ps[k]? = some p → c ≠ p.1) → s.heap.get? c = some o → h'.get? c = some o) → Q (some (.ref s.heap.objs.size)) { s with heap := h' })
    (hE : ∀ h', (∃ (k : Nat) (p : Addr × Addr) (items : Array Value), ps[k]? = some p ∧ s.heap.IsTuple p.2 items ∧ items[i]? = none) → (∀ c o, c ≠ z → c ≠ TO → (∀ (k : Nat) (p : Addr × Addr), ps[k]? = some p → c ≠ p.1) → s.heap.get? c = some o → h'.get? c = some o) → Q none { s with heap := h' }) :
    wpAny (model prog w) A (pyNext (.ref z)) Q E s := by
  obtain ⟨f0, b, hz, _⟩ := id st.zz
  have hT : s.TypeIs (.ref z) "zip" := ⟨_, hz, rfl⟩
  unfold pyNext
  refine wpAny_bind (wpAny_attempt (wpAny_callSpecial?_slot (name := Str.ofString "__next__") hT F.slot_zip_next
    (wpAny_call_entry F.slot_zip_next hT F.entry_zip_next
      (zipN_next hh D st h0 ht (fun vs h' a1 a2 a3 a4 a5 a6 => wpAny_pure (hQ vs h' a1 a2 a3 a4 a5 a6)) fun h' e a1 a2 he => ?_) (F.args_zip_next_1 _))))
  obtain ⟨o, ho, hc⟩ := he
  refine wpAny_bind (wpAny_isInstance (T := "StopIteration") (b := true) ⟨o, ho, hc⟩ isSubtype_stop ?_)
  exact wpAny_pure (hE _ a1 a2)
theorem pyIter_zipN {z TI TO : Addr} {ps : List (Addr × Addr)} {i : Nat} {Q : Value → Shared → Prop} (st : ZSt s.heap z TI TO ps i) (h : Q (.ref z) s) : wpAny (model prog w) A (pyIter (.ref z)) Q E s := by
  obtain ⟨f0, b, hz, _⟩ := id st.zz
  have hT : s.TypeIs (.ref z) "zip" := ⟨_, hz, rfl⟩
  refine wpAny_pyIter_slot hT F.slot_zip_iter (wpAny_call_entry F.slot_zip_iter hT F.entry_zip_iter ?_ (F.args_zip_iter_1 _))
  show wpAny _ _ (ret (.ref z)) _ _ s
  exact wpAny_pure ⟨_, rfl, "zip", _, hT, F.slot_zip_next.lookup, h⟩
end
end PySem
namespace DL
open PySem PySem.Spec PyProof.Rows L2
/-! zip of several tuples, its target a name -/
def ItzN (K : PySem.W.Frag) (ls : List Addr) : It :=
  ⟨fun i H => ∀ (k : Nat) (l : Addr), ls[k]? = some l → ∃ (xs : List V) (x : V), SqT K H l xs ∧ xs[i]? = some x,
    fun i H v H' => ∃ T ys, v = .ref T ∧ H T = none ∧ H' = upd H T (.tup ys) ∧ ys.length = ls.length ∧ ∀ (k : Nat) (l : Addr), ls[k]? = some l → ∀ xs, SqT K H l xs → ∃ x, xs[i]? = some x ∧ ys[k]? = some x,
    fun i H => (∀ (k : Nat) (l : Addr), ls[k]? = some l → ∃ xs : List V, SqT K H l xs ∧ xs.length ≤ i)⟩
theorem vals_of : ∀ (n : Nat) (R : Nat → V → Prop) (vs : List Value), vs.length = n → (∀ k, k < n → ∃ x u, vs[k]? = some u ∧ RelV x u ∧ R k x) → ∃ xs : List V, Vals xs vs ∧ xs.length = n ∧ ∀ k, k < n → ∃ x, xs[k]? = some x ∧ R k x
  | 0, _, [], _, _ => ⟨[], .nil, rfl, fun k hk => absurd hk (Nat.not_lt_zero _)⟩
  | 0, _, _ :: _, h, _ => by simp at h
  | n + 1, _, [], h, _ => by simp at h
  | n + 1, R, v :: vs, h, k => by
    obtain ⟨x, u, e, r, q⟩ := k 0 (Nat.succ_pos _)
    obtain ⟨xs, a, b, c⟩ := vals_of n (fun k => R (k + 1)) vs (by simpa using h) fun j hj => by
      obtain ⟨x, u, e, r, q⟩ := k (j + 1) (by omega)
      exact ⟨x, u, by simpa using e, r, q⟩
    have e2 : v = u := by simpa using e
    subst e2
    refine ⟨x :: xs, .cons r a, by simp [b], fun j hj => ?_⟩
    cases j with
    | zero => exact ⟨x, rfl, q⟩
    | succ j => exact c j (by omega)
theorem istup_inj {h : Heap} {a : Addr} {xs ys : Array Value} (p : h.IsTuple a xs) (q : h.IsTuple a ys) : xs = ys := by
  obtain ⟨o, e, _, n, d⟩ := p
  obtain ⟨o', e', _, n', d'⟩ := q
  rw [e] at e'
  cases e'
  rw [d] at d'
  cases d'
  rfl
theorem turn_zipN {P : Program} {w : World} {K : PySem.W.Frag} {y : Str} {py : Pos} {z TI TO : Addr} {ps : List (Addr × Addr)} (D : ZAp z TI TO ps) (h0 : ps ≠ []) :
    Turn P w K (.Name y py) (ItzN K (ps.map (·.2))) (z :: TI :: TO :: ps.map (·.1)) z (fun i h => ZSt h z TI TO ps i) where
  mem := by simp
  obj := fun i h st c hc => by
    rcases List.mem_cons.mp hc with q | hc
    · obtain ⟨_, _, hz, _⟩ := st.zz
      rw [q]; exact ⟨_, hz, fun v q => nomatch q⟩
    rcases List.mem_cons.mp hc with q | hc
    · rw [q]; exact ⟨_, st.hTI, fun v q => nomatch q⟩
    rcases List.mem_cons.mp hc with q | hc
    · obtain ⟨_, _, e⟩ := st.hTO
      rw [q]; exact ⟨_, e, fun v q => nomatch q⟩
    obtain ⟨p, hp, rfl⟩ := List.mem_map.mp hc
    obtain ⟨k, hk⟩ := List.mem_iff_getElem?.mp hp
    obtain ⟨o1, e1, _, d1⟩ := st.its k p hk
    exact ⟨o1, e1, fun v q => by rw [d1] at q; cases q⟩
  keep := fun i h h' st k => by
    obtain ⟨f0, b, hz, hf⟩ := st.zz
    obtain ⟨ws, l, e⟩ := st.hTO
    refine ⟨⟨f0, b, k z (by simp) _ hz, hf⟩, k TI (by simp) _ st.hTI, ⟨ws, l, k TO (by simp) _ e⟩, fun j p hp => ?_⟩
    refine (st.its j p hp).at fun o q => k p.1 ?_ o q
    exact List.mem_cons_of_mem _ (List.mem_cons_of_mem _ (List.mem_cons_of_mem _ (List.mem_map.mpr ⟨p, List.mem_iff_getElem?.mpr ⟨j, hp⟩, rfl⟩)))
  item := by
    intro X hP hw hK hc i pins s σ H E I hf st hg
    subst hP hw hK
    have tup : ∀ (k : Nat) (p : Addr × Addr), ps[k]? = some p → ∃ xs x its u, SqT X.K H p.2 xs ∧ xs[i]? = some x ∧ s.heap.IsTuple p.2 its ∧ its[i]? = some u ∧ RelV x u := fun k p hp => by
      obtain ⟨xs, x, sq, hx⟩ := hg k p.2 (by rw [List.getElem?_map, hp]; rfl)
      obtain ⟨its, rv, pt, _⟩ := I.tuple sq
      obtain ⟨u, hu, ru⟩ := rv.get hx
      exact ⟨xs, x, its.toArray, u, sq, hx, pt, by simpa using hu, ru⟩
    refine pyNext_zipN (I.ok.hd hc) D st h0 (fun k p hp => let ⟨_, _, its, _, _, _, t, _⟩ := tup k p hp; ⟨its, t⟩) (fun vs h' lv hv st' hT hsz hk => ?_) fun h' ⟨k, p, items, hp, ht, hn⟩ _ => ?_
    · obtain ⟨xs, rv, lx, hx⟩ := vals_of ps.length (fun k x => ∀ p, ps[k]? = some p → ∃ ys, SqT X.K H p.2 ys ∧ ys[i]? = some x) vs lv fun k hk => by
        obtain ⟨p, hp⟩ : ∃ p, ps[k]? = some p := ⟨_, List.getElem?_eq_getElem hk⟩
        obtain ⟨ys, x, its, u, sq, hx, t, hu, ru⟩ := tup k p hp
        obtain ⟨its', u', t', hu', hv'⟩ := hv k p hp
        have e := istup_inj t t'
        subst e
        rw [hu] at hu'
        cases hu'
        exact ⟨x, u, hv', ru, fun q hq => by rw [hp] at hq; cases hq; exact ⟨ys, sq, hx⟩⟩
      have fresh := I.hok.fresh (Nat.le_refl s.heap.objs.size)
      refine ⟨_, rfl, wpAny_pure ?_⟩
      have new : ObjOk X.prog X.w (upd H s.heap.objs.size (.tup xs)) h' s.heap.objs.size (.tup xs) :=
        ⟨by show xs.length ≤ sizeLine; rw [lx]; exact Nat.le_trans D.few (by decide), vs, rv, ⟨_, hT, rfl, _, rfl⟩⟩
      have I1 : Inv X pins σ (upd H s.heap.objs.size (.tup xs)) { s with heap := h' } :=
        I.turnedNew (t' := s.toks) (ch := z :: TI :: TO :: ps.map (·.1)) (fun c o hb q => hk c o (fun q' => hb (by simp [q'])) (fun q' => hb (by simp [q'])) (fun k p hp q' => hb (by
          rw [q']
          exact List.mem_cons_of_mem _ (List.mem_cons_of_mem _ (List.mem_cons_of_mem _ (List.mem_map.mpr ⟨p, List.mem_iff_getElem?.mpr ⟨k, hp⟩, rfl⟩))))) q) hf (Nat.le_refl _) new
      refine ⟨.ref s.heap.objs.size, _, I1, rfl, ⟨_, xs, rfl, fresh, rfl, by rw [lx, List.length_map], fun k l hl ys sy => ?_⟩, st', fun c hcm => ?_⟩
      · rw [List.getElem?_map] at hl
        obtain ⟨p, hp, rfl⟩ := Option.map_eq_some_iff.mp hl
        obtain ⟨x, ex, q⟩ := hx k (List.getElem?_eq_some_iff.mp hp).1
        obtain ⟨ys', sy', ey⟩ := q p hp
        rw [I.tuple_inj sy sy']
        exact ⟨x, ey, ex⟩
      · have hlt : c < s.heap.objs.size := by
          rcases List.mem_cons.mp hcm with q | hcm
          · obtain ⟨_, _, hz, _⟩ := st.zz
            rw [q]; exact Heap.lt_size hz
          rcases List.mem_cons.mp hcm with q | hcm
          · rw [q]; exact Heap.lt_size st.hTI
          rcases List.mem_cons.mp hcm with q | hcm
          · obtain ⟨_, _, e⟩ := st.hTO
            rw [q]; exact Heap.lt_size e
          obtain ⟨p, hp, rfl⟩ := List.mem_map.mp hcm
          obtain ⟨k, hk⟩ := List.mem_iff_getElem?.mp hp
          obtain ⟨o1, e1, _⟩ := st.its k p hk
          exact Heap.lt_size e1
        rw [upd_ne (Nat.ne_of_lt hlt)]
        exact (hf c hcm).1
    · obtain ⟨_, _, its, u, _, _, t, hu, _⟩ := tup k p hp
      have e := istup_inj t ht
      subst e
      rw [hu] at hn
      cases hn
  done := by
    intro X hP hw hK hc i pins s σ H E I hf st hg
    subst hP hw hK
    have tup : ∀ (k : Nat) (p : Addr × Addr), ps[k]? = some p → ∃ its, s.heap.IsTuple p.2 its ∧ its[i]? = none := fun k p hp => by
      obtain ⟨xs, sq, hx⟩ := hg k p.2 (by rw [List.getElem?_map, hp]; rfl)
      obtain ⟨its, rv, pt, _⟩ := I.tuple sq
      have l := rv.length
      exact ⟨its.toArray, pt, by simp; omega⟩
    refine pyNext_zipN (I.ok.hd hc) D st h0 (fun k p hp => let ⟨its, t, _⟩ := tup k p hp; ⟨its, t⟩) (fun vs h' lv hv st' hT hsz hk => ?_) fun h' _ hk => ?_
    · obtain ⟨p, hp⟩ : ∃ p, ps[0]? = some p := by
        cases ps with
        | nil => exact absurd rfl h0
        | cons p ps => exact ⟨p, rfl⟩
      obtain ⟨its, t, hn⟩ := tup 0 p hp
      obtain ⟨its', u, t', hu, _⟩ := hv 0 p hp
      have e := istup_inj t t'
      subst e
      rw [hn] at hu
      cases hu
    · exact ⟨rfl, I.turnedL (t' := s.toks) (ch := z :: TI :: TO :: ps.map (·.1)) (fun c o hb q => hk c o (fun q' => hb (by simp [q'])) (fun q' => hb (by simp [q'])) (fun k p hp q' => hb (by
          rw [q']
          exact List.mem_cons_of_mem _ (List.mem_cons_of_mem _ (List.mem_cons_of_mem _ (List.mem_map.mpr ⟨p, List.mem_iff_getElem?.mpr ⟨k, hp⟩, rfl⟩))))) q) hf⟩
  self := fun A i s Q E st h => pyIter_zipN st h
/-- zip(e, e2), zip(e, e2, e3, e4): tuples -/
def iZipN (K : PySem.W.Frag) (n : Nat) (ta : TA) : TI := fun σ H R => ta σ H fun vs H1 => ∃ ls : List Addr, vs = ls.map V.ref ∧ ls.length = n ∧ (∀ (k : Nat) (l : Addr), ls[k]? = some l → ∃ xs, SqT K H1 l xs) ∧ R (ItzN K ls) H1
theorem vals_refs {ls : List Addr} {us : List Value} (r : Vals (ls.map V.ref) us) : us = ls.map Value.ref := by
  induction ls generalizing us with
  | nil => cases r; rfl
  | cons l ls ih =>
    rw [List.map_cons] at r
    cases r with
    | cons a b =>
      cases a
      rw [ih b]
      rfl
theorem fpN {X : Cx} {pins : List (Addr × Obj)} {σ : L2.St} {H : Hp} {s : Shared} (I : Inv X pins σ H s) (cs : List Addr) (h : ∀ c ∈ cs, s.heap.objs.size ≤ c) : ∀ c ∈ cs, FpOk X pins H c := fun c hc => I.fpOk (h c hc) (I.hok.fresh (h c hc))
theorem zap_of (n m : Nat) (ps : List (Addr × Addr)) (hm : m ≤ 1000) (hl : ps.length = m) (all : ∀ (k : Nat) (p : Addr × Addr), ps[k]? = some p → @Eq Nat p.1 (n + k) ∧ k < m ∧ @LT.lt Nat _ p.2 n) : ZAp (n + m + 2) (n + m) (n + m + 1) ps := by
  have ne : ∀ (a b : Nat), a ≠ b → (show Addr from a) ≠ (show Addr from b) := fun a b h => h
  refine ⟨ne _ _ (by omega), ne _ _ (by omega), ne _ _ (by omega), fun k p hp => ?_, fun k p hp => ?_, fun k p hp => ?_, fun k p hp => ?_, fun k p hp => ?_, fun k p hp j q hq => ?_, fun k p hp j q hq nn => ?_, by omega⟩
  · obtain ⟨h1, h2, h3⟩ := all k p hp; exact ne _ _ (by omega)
  · obtain ⟨h1, h2, h3⟩ := all k p hp; exact ne _ _ (by omega)
  · obtain ⟨h1, h2, h3⟩ := all k p hp; exact ne _ _ (by omega)
  · obtain ⟨h1, h2, h3⟩ := all k p hp; exact ne _ _ (by omega)
  · obtain ⟨h1, h2, h3⟩ := all k p hp; exact ne _ _ (by omega)
  · obtain ⟨h1, h2, h3⟩ := all k p hp
    obtain ⟨h4, h5, h6⟩ := all j q hq
    exact ne _ _ (by omega)
  · obtain ⟨h1, h2, h3⟩ := all k p hp
    obtain ⟨h4, h5, h6⟩ := all j q hq
    exact ne _ _ (by omega)
theorem pi_zipN2 {X : Cx} {e e2 : Expr} {ta : TA} {p pos py : Pos} {y : Str} (hg : Gl X "zip") (hm : X.mg "zip" = none) (ha : PA X [e, e2] ta)
    (hs : starEach [e, e2] X.env = (false, eval e X.env) :: starEach [e2] X.env := by rfl) (hpl : (backTo pos (starEach [e2] X.env)).any (·.1) = false := by rfl) :
    PI X (.Name y py) (.Call (.Name "zip" p) [e, e2] [] pos) (iZipN X.K 2 ta) := by
  refine ⟨fun pins s σ H R I h => ?_⟩
  refine Call_ (ld_blt I hg hm PyProof.Rows.boot_zip (PyProof.Rows.callWith_type1 (thn (ha.run pos pins s σ H _ I h) fun us s1 ⟨vs, H1, I1, r1, ls, ev, el, hl, q⟩ => ?_) hs hpl))
  subst ev
  rw [vals_refs r1]
  match ls, el with
  | [a, b], _ =>
    obtain ⟨xs, sx⟩ := hl 0 a rfl
    obtain ⟨ys, sy⟩ := hl 1 b rfl
    obtain ⟨its, rv, p1, _⟩ := I1.tuple sx
    obtain ⟨its2, rv2, p2, _⟩ := I1.tuple sy
    obtain ⟨o1, ho1, _⟩ := id p1
    obtain ⟨o2, ho2, _⟩ := id p2
    have la := Heap.lt_size ho1
    have lb := Heap.lt_size ho2
    refine RZ.call_zipT (show s1.heap.IsTuple a its.toArray from p1) (show s1.heap.IsTuple b its2.toArray from p2) fun h' hz hTI hTO h1 h2 hsz hk => ?_
    have st : ZSt h' (s1.heap.objs.size + 4) (s1.heap.objs.size + 2) (s1.heap.objs.size + 3) [(s1.heap.objs.size, a), (s1.heap.objs.size + 1, b)] 0 := ⟨⟨.none, false, hz, .inl rfl⟩, hTI, ⟨[.none, .none], rfl, hTO⟩, fun k p hp => by
      match k, hp with
      | 0, hp => cases hp; exact h1
      | 1, hp => cases hp; exact h2
      | k + 2, hp => cases hp⟩
    refine pyIter_zipN (s := { s1 with heap := h' }) st ?_
    have I2 : Inv X pins σ H1 { s1 with heap := h' } := I1.kept (t' := s1.toks) hk
    have D : ZAp (s1.heap.objs.size + 4) (s1.heap.objs.size + 2) (s1.heap.objs.size + 3) [(s1.heap.objs.size, a), (s1.heap.objs.size + 1, b)] := zap_of s1.heap.objs.size 2 _ (by decide) rfl fun k p hp => by
      match k, hp with
      | 0, hp => cases hp; exact ⟨rfl, by decide, la⟩
      | 1, hp => cases hp; exact ⟨rfl, by decide, lb⟩
      | k + 2, hp => cases hp
    exact ⟨s1.heap.objs.size + 4, _, _, _, H1, rfl, I2, turn_zipN D (fun z => nomatch z), st, fpN I1 _ (fun c hc => by
      simp only [List.map_cons, List.map_nil, List.mem_cons, List.not_mem_nil, or_false] at hc
      have e : ∀ (n c : Nat), (c = n + 4 ∨ c = n + 2 ∨ c = n + 3 ∨ c = n ∨ c = n + 1) → n ≤ c := by omega
      exact e _ _ hc), q⟩
theorem pi_zipN4 {X : Cx} {e e2 e3 e4 : Expr} {ta : TA} {p pos py : Pos} {y : Str} (hg : Gl X "zip") (hm : X.mg "zip" = none) (ha : PA X [e, e2, e3, e4] ta)
    (hs : starEach [e, e2, e3, e4] X.env = (false, eval e X.env) :: starEach [e2, e3, e4] X.env := by rfl) (hpl : (backTo pos (starEach [e2, e3, e4] X.env)).any (·.1) = false := by rfl) :
    PI X (.Name y py) (.Call (.Name "zip" p) [e, e2, e3, e4] [] pos) (iZipN X.K 4 ta) := by
  refine ⟨fun pins s σ H R I h => ?_⟩
  refine Call_ (ld_blt I hg hm PyProof.Rows.boot_zip (PyProof.Rows.callWith_type1 (thn (ha.run pos pins s σ H _ I h) fun us s1 ⟨vs, H1, I1, r1, ls, ev, el, hl, q⟩ => ?_) hs hpl))
  subst ev
  rw [vals_refs r1]
  match ls, el with
  | [a, b, a3, a4], _ =>
    obtain ⟨xs, sx⟩ := hl 0 a rfl
    obtain ⟨ys, sy⟩ := hl 1 b rfl
    obtain ⟨xs3, s3⟩ := hl 2 a3 rfl
    obtain ⟨xs4, s4⟩ := hl 3 a4 rfl
    obtain ⟨its, rv, p1, _⟩ := I1.tuple sx
    obtain ⟨its2, rv2, p2, _⟩ := I1.tuple sy
    obtain ⟨its3, rv3, p3, _⟩ := I1.tuple s3
    obtain ⟨its4, rv4, p4, _⟩ := I1.tuple s4
    obtain ⟨o1, ho1, _⟩ := id p1
    obtain ⟨o2, ho2, _⟩ := id p2
    obtain ⟨o3, ho3, _⟩ := id p3
    obtain ⟨o4, ho4, _⟩ := id p4
    have la := Heap.lt_size ho1
    have lb := Heap.lt_size ho2
    have lc := Heap.lt_size ho3
    have ld := Heap.lt_size ho4
    refine call_zip4 (show s1.heap.IsTuple a its.toArray from p1) (show s1.heap.IsTuple b its2.toArray from p2) (show s1.heap.IsTuple a3 its3.toArray from p3) (show s1.heap.IsTuple a4 its4.toArray from p4) fun h' st hsz hk => ?_
    refine pyIter_zipN (s := { s1 with heap := h' }) st ?_
    have I2 : Inv X pins σ H1 { s1 with heap := h' } := I1.kept (t' := s1.toks) hk
    have D : ZAp (s1.heap.objs.size + 6) (s1.heap.objs.size + 4) (s1.heap.objs.size + 5) [(s1.heap.objs.size, a), (s1.heap.objs.size + 1, b), (s1.heap.objs.size + 2, a3), (s1.heap.objs.size + 3, a4)] := zap_of s1.heap.objs.size 4 _ (by decide) rfl fun k p hp => by
      match k, hp with
      | 0, hp => cases hp; exact ⟨rfl, by decide, la⟩
      | 1, hp => cases hp; exact ⟨rfl, by decide, lb⟩
      | 2, hp => cases hp; exact ⟨rfl, by decide, lc⟩
      | 3, hp => cases hp; exact ⟨rfl, by decide, ld⟩
      | k + 4, hp => cases hp
    exact ⟨s1.heap.objs.size + 6, _, _, _, H1, rfl, I2, turn_zipN D (fun z => nomatch z), st, fpN I1 _ (fun c hc => by
      simp only [List.map_cons, List.map_nil, List.mem_cons, List.not_mem_nil, or_false] at hc
      have e : ∀ (n c : Nat), (c = n + 6 ∨ c = n + 4 ∨ c = n + 5 ∨ c = n ∨ c = n + 1 ∨ c = n + 2 ∨ c = n + 3) → n ≤ c := by omega
      exact e _ _ hc), q⟩
section
variable {X : Cx} {c : Cd X.K} {vs : List Nat} {fs : Env → W (List D)}
/-- the rows of tuples, all of length n -/
def rowsD (n : Nat) : List D → Option (List (List D))
  | [] => some []
  | .tup ds :: es => if ds.length = n ∧ D.imms ds = true then (rowsD n es).map (ds :: ·) else none
  | _ :: _ => none
def colD (rows : List (List D)) (i : Nat) : D := .tup (rows.map fun r => r.getD i .non)
def fZipN (j : Nat) (fs : Env → W (List D)) : Env → W (List D) := fun δ => bd (fs δ) fun ds => fun Q X m => ∃ n rows, rowsD n ds = some rows ∧ ds.length = j ∧ Q ((List.range n).map (colD rows)) m
theorem rowsD_rp {G : Gx X.K} {H : Hp} {n : Nat} : ∀ {ds : List D} {rows : List (List D)} {us : List V} {F : List Addr}, rowsD n ds = some rows → RpA G H us ds F → ∃ ls : List Addr, us = ls.map V.ref ∧ ls.length = ds.length ∧ rows.length = ds.length ∧
    ∀ (k : Nat) (l : Addr), ls[k]? = some l → ∃ xs r, SqT X.K H l xs ∧ rows[k]? = some r ∧ RpA G H xs r [] ∧ r.length = n
  | [], rows, us, F, h, r => by cases h; cases r; exact ⟨[], rfl, rfl, rfl, fun k l z => by simp at z⟩
  | d :: es, rows, us, F, h, r => by
    cases d with
    | tup ds =>
      unfold rowsD at h
      by_cases c : ds.length = n ∧ D.imms ds = true
      · rw [if_pos c] at h
        obtain ⟨rows', h2, rfl⟩ := Option.map_eq_some_iff.mp h
        cases r with
        | cons r1 r2 =>
          obtain ⟨a, xs, rfl, sx, ax⟩ := r1.tupI
          obtain ⟨ls, e1, e2, e3, k⟩ := rowsD_rp h2 r2
          subst e1
          have e0 := RpA.imm_nil _ _ _ ax c.2
          subst e0
          refine ⟨a :: ls, rfl, by simp [e2], by simp [e3], fun j l hj => ?_⟩
          cases j with
          | zero => simp at hj; subst hj; exact ⟨xs, ds, sx, rfl, ax, c.1⟩
          | succ j =>
            obtain ⟨xs, r, a1, a2, a3, a4⟩ := k j l (by simpa using hj)
            exact ⟨xs, r, a1, by simpa using a2, a3, a4⟩
      · rw [if_neg c] at h
        cases h
    | _ => cases h
theorem rpa_of {G : Gx X.K} {H : Hp} : ∀ {ds : List D} {ys : List V}, ys.length = ds.length → (∀ (k : Nat) (y : V) (d : D), ys[k]? = some y → ds[k]? = some d → Rp G H y d []) → RpA G H ys ds []
  | [], [], _, _ => .nil
  | [], _ :: _, h, _ => by simp at h
  | _ :: _, [], h, _ => by simp at h
  | d :: ds, y :: ys, h, k => by
    have := RpA.cons (k 0 y d rfl rfl) (rpa_of (G := G) (H := H) (ds := ds) (ys := ys) (by simpa using h) fun j y' d' a b => k (j + 1) y' d' (by simpa using a) (by simpa using b))
    simpa using this
theorem tI_zipN {n : Nat} (σ : L2.St) (H : Hp) (R : It → Hp → Prop) (h : tI c vs (fZipN n fs) σ H R) : iZipN X.K n (tA c vs fs) σ H R := by
  obtain ⟨_, fp, δ, Qd, e, hf, k⟩ := h
  refine ⟨_, fp, δ, _, e, (show fs δ (fun ds m => ∃ nn rows, rowsD nn ds = some rows ∧ ds.length = n ∧ Qd ((List.range nn).map (colD rows)) m) c.xq _ from hf), fun ds ⟨nn, rows, hr, hlen, q⟩ us H' F p r => ?_⟩
  obtain ⟨ls, e1, e2, e3, kk⟩ := rowsD_rp hr r
  refine ⟨ls, e1, by rw [e2, hlen], fun k l z => let ⟨xs, _, a, _⟩ := kk k l z; ⟨xs, a⟩, k _ q _ _ _ p ⟨fun i H2 h hi k l z => ?_, fun H2 h => fun k l z => ?_, fun i H2 v H3 h ok hi ⟨T, ys, ev, hT, eH, ly, y⟩ => ?_⟩⟩
  · have hi' : i < nn := by simpa using hi
    obtain ⟨xs, r, a, b, cc, d⟩ := kk k l z
    have lx := cc.length
    exact ⟨xs, xs[i]'(by omega), h.sqT a, List.getElem?_eq_getElem (by omega)⟩
  · obtain ⟨xs, r, a, b, cc, d⟩ := kk k l z
    have lx := cc.length
    exact ⟨xs, h.sqT a, by simp; omega⟩
  · have hi' : i < nn := by simpa using hi
    subst ev eH
    refine ⟨Kp.laid ok hT _, colD rows i, by simp [hi'], .tup (SqT.of upd_same) ?_⟩
    refine RpA.laid (rpa_of (by rw [ly, e2, List.length_map, e3]) fun k y' d' hy hd => ?_) ok (fun _ z => nomatch z) hT _
    have hk : k < ls.length := by rw [← ly]; exact (List.getElem?_eq_some_iff.mp hy).1
    obtain ⟨xs, r, a, b, cc, dl⟩ := kk k _ (List.getElem?_eq_getElem hk)
    obtain ⟨x, hx, hy2⟩ := y k _ (List.getElem?_eq_getElem hk) xs (h.sqT a)
    rw [hy] at hy2
    cases hy2
    obtain ⟨x', d2, e4, e5, rx⟩ := h.item p.kp.ok cc (i := i) (by omega)
    rw [hx] at e4
    cases e4
    rw [List.getElem?_map, b] at hd
    have hd2 : r.getD i .non = d' := Option.some.inj hd
    rw [← hd2, List.getD_eq_getElem?_getD, e5]
    exact rx
theorem id_zip2 {e e2 : Expr} {p pos py : Pos} {y : Str} (hg : Gl X "zip") (hm : X.mg "zip" = none) (ha : PA X [e, e2] (tA c vs fs)) (hs : starEach [e, e2] X.env = (false, eval e X.env) :: starEach [e2] X.env := by rfl) (hpl : (backTo pos (starEach [e2] X.env)).any (·.1) = false := by rfl) :
    PI X (.Name y py) (.Call (.Name "zip" p) [e, e2] [] pos) (tI c vs (fZipN 2 fs)) := pi_wk (pi_zipN2 hg hm ha hs hpl) tI_zipN
theorem id_zip4 {e e2 e3 e4 : Expr} {p pos py : Pos} {y : Str} (hg : Gl X "zip") (hm : X.mg "zip" = none) (ha : PA X [e, e2, e3, e4] (tA c vs fs)) (hs : starEach [e, e2, e3, e4] X.env = (false, eval e X.env) :: starEach [e2, e3, e4] X.env := by rfl)
    (hpl : (backTo pos (starEach [e2, e3, e4] X.env)).any (·.1) = false := by rfl) :
    PI X (.Name y py) (.Call (.Name "zip" p) [e, e2, e3, e4] [] pos) (tI c vs (fZipN 4 fs)) := pi_wk (pi_zipN4 hg hm ha hs hpl) tI_zipN
end
end DL
namespace DL
open PySem PySem.Spec PyProof.Rows L2
/-! ### defs with *args -/
structure FnGS (P : Program) (w : World) (K : PySem.W.Frag) (mg : Str → Option Value) (base : Heap) (CX : CXT) (k : Nat) (f : Addr) (sp : Sp) : Prop where
  run : ∀ (A : Around) (outer : List PySem.Env) (s : Shared) (H : Hp) (us : List Value) (vs : List V) (Q : VK) (E : XK), Room k A → A.guards = some [] → Env0 P w K mg base A outer s H → Vals vs us → sp vs H Q E →
    codeAny (model P w) A (.call (.ref f) ⟨us, []⟩) (CR CX outer P w H s Q E) s
def starD (n : Nat) (F : List D → W D) : List D → W D := fun ds => chk (n ≤ ds.length ∧ ds.length ≤ 1000) (F (ds.take n ++ [.tup (ds.drop n)]))
structure SB (fd : FuncData) (ps : List Str) (pv : Str) : Prop where
  to : ∀ us rest : List Value, us.length = ps.length → bindArgs fd ⟨us ++ rest, []⟩ = (newTuple rest >>= fun t => pure (ps.zip us ++ [(pv, t)]))
theorem sb_of {K : PySem.W.Frag} {x qual : Str} {st : Stmt} {f : Addr} {fd : FuncData} {p1 pv : Str} (F : L2.Fun K x qual st f fd)
    (h0 : ∀ (kV doc pm : Value) (an : Option Addr) (cdv ct a : Value), bindArgs (PySem.W.fnOf x qual (defArgs st) (defBody st) (defScope st) .none kV doc pm an cdv ct) ⟨[a], []⟩ = (newTuple [] >>= fun t => pure [(p1, a), (pv, t)]))
    (h1 : ∀ (kV doc pm : Value) (an : Option Addr) (cdv ct a r : Value) (rs : List Value), bindArgs (PySem.W.fnOf x qual (defArgs st) (defBody st) (defScope st) .none kV doc pm an cdv ct) ⟨a :: r :: rs, []⟩ = (newTuple (r :: rs) >>= fun t => pure [(p1, a), (pv, t)])) : SB fd [p1] pv := by
  obtain ⟨oc, od, kV, doc, pm, an, cdv, ct, osl, rfl, lk, hcd⟩ := F.ex
  exact ⟨StX.bind_star1 (B := fun us => bindArgs (PySem.W.fnOf x qual (defArgs st) (defBody st) (defScope st) .none kV doc pm an cdv ct) ⟨us, []⟩) (h0 kV doc pm an cdv ct) (h1 kV doc pm an cdv ct)⟩
theorem RpA.split {K : PySem.W.Frag} {G : Gx K} {H : Hp} {ds : List D} {vs : List V} {F : List Addr} (r : RpA G H vs ds F) (n : Nat) : ∃ F1 F2, RpA G H (vs.take n) (ds.take n) F1 ∧ RpA G H (vs.drop n) (ds.drop n) F2 ∧ ∀ a, (a ∈ F1 ∨ a ∈ F2) → a ∈ F := by
  obtain ⟨F1, r1, s1⟩ := r.take n
  obtain ⟨F2, r2, s2⟩ := r.drop n
  exact ⟨F1, F2, r1, r2, fun a z => z.elim (s1 a) (s2 a)⟩
section
variable {P : Program} {w : World} {K : PySem.W.Frag} {mg : Str → Option Value} {base : Heap}
theorem fnDS {x qual : Str} {st : Stmt} {f : Addr} {fd : FuncData} {N ps : List Str} {pv : Str} {k n : Nat} {own wr : List Nat} {g : Env → DL.W (Fl × Env)} (F : L2.Fun K x qual st f fd) (S : FnScope N (ps ++ [pv]) (defScope st)) (B : SB fd ps pv) (hn : ps.length = n) (hN : n + 1 ≤ N.length) (ho : ∀ i ∈ own, n + 1 ≤ i)
    (hbody : ∀ (cdv : Value) (A : Around) (outer : List PySem.Env) (s : Shared) (H : Hp) (E : XK), Room k (A.deeper (PyProof.Rows.envOfC qual (defScope st) s.heap.objs.size f cdv)) → (A.deeper (PyProof.Rows.envOfC qual (defScope st) s.heap.objs.size f cdv)).guards = some [] → ∀ (G : Gx K) (H0 : Hp) (xq : Ex → Nat → Prop),
      PSs (cxOf CX0 P w K mg base N qual (defScope st) f cdv A outer s H E).nox (defBody st) (tS ⟨G, H0, own, xq⟩ wr g)) : FnGS P w K mg base CX0 (k + 1) f (spD (K := K) (starD n (bodyD (n + 1) N.length g))) := by
  obtain ⟨oc, od, kV, doc, pm, an, cdv, ct, osl, rfl, lk, hcd⟩ := F.ex
  refine ⟨fun A outer s H us vs Q E hr gd e0 r hsp => ?_⟩
  obtain ⟨m0, G, ds, Fp, Qd, Xq, ok, nF, rp, ⟨⟨h1, h2⟩, hl, hf⟩, kq⟩ := hsp
  obtain ⟨F1, F2, rp1, rp2, sF⟩ := rp.split n
  have lv : vs.length = ds.length := rp.length
  have r' : Vals (vs.take n ++ vs.drop n) us := by rw [List.take_append_drop]; exact r
  obtain ⟨u1, u2, rfl, r1, r2⟩ := StX.vals_split r'
  have hnn : H s.heap.objs.size = Option.none := e0.hok.fresh (Nat.le_refl _)
  have hl1 : u1.length = ps.length := by rw [← r1.length, List.length_take]; omega
  have hz : (vs.drop n).length ≤ sizeLine := by rw [List.length_drop]; exact Nat.le_trans (by omega : vs.length - n ≤ 1000) (by decide)
  have hl2 : u2.length ≤ sizeLine := by rw [← r2.length]; exact hz
  refine StX.run_bnd lk hcd S hr e0 (G := fun xs H2 => ∃ p, H p = Option.none ∧ xs = vs.take n ++ [V.ref p] ∧ H2 = upd H p (.tup (vs.drop n))) (fun A' Ex Q' h => ?_) fun s2 H2 xs ⟨p, hp, ex, eH⟩ hr' => ?_
  · rw [B.to u1 u2 hl1]
    refine wpAny_bind (wpAny_newTuple (wpAny_pure ?_) hl2)
    have new : ObjOk P w (upd H s.heap.objs.size (.tup (vs.drop n))) (s.heap.push ({ cls := .type "tuple", data := .seq u2.toArray } : Obj)) s.heap.objs.size (.tup (vs.drop n)) := ⟨hz, u2, r2, ⟨_, Heap.get?_push_size _ rfl, rfl, _, rfl⟩⟩
    have un := StX.un_laid (fs := frs outer) (s := s) (o := ({ cls := .type "tuple", data := .seq u2.toArray } : Obj)) (u := .tup (vs.drop n)) hnn
    have z := h _ _ (vs.take n ++ [V.ref s.heap.objs.size]) (u1 ++ [Value.ref s.heap.objs.size]) (StX.env0_laid e0 new) un rfl (fun e s' z => z.elim) (r1.append (.cons rfl .nil))
      (by rw [List.length_append, List.length_append, List.length_take] <;> simp <;> omega) ⟨_, hnn, rfl, rfl⟩
    rw [List.zip_append hl1.symm] at z
    exact z
  · subst ex eH
    refine ⟨_, (hbody cdv A outer s2 _ E hr' (deep_guards gd) G (upd H p (.tup (vs.drop n))) Xq).nox, ?_⟩
    have kl : Kp G H (upd H p (.tup (vs.drop n))) m0 := Kp.laid ok hp _
    have n1 : ∀ a ∈ F1, a ∉ G.S := fun a z => nF a (sF a (.inl z))
    have n2 : ∀ a ∈ F2, a ∉ G.S := fun a z => nF a (sF a (.inr z))
    have rr : RpA G (upd H p (.tup (vs.drop n))) (vs.take n ++ [V.ref p]) (ds.take n ++ [D.tup (ds.drop n)]) (F1 ++ (F2 ++ [])) := (rp1.laid ok n1 hp _).append (.cons (.tup (SqT.of upd_same) (rp2.laid ok n2 hp _)) .nil)
    have hl' : (ds.take n ++ [D.tup (ds.drop n)]).length = n + 1 := by rw [List.length_append, List.length_take]; simp; omega
    obtain ⟨fp, e⟩ := env_start (N := N) (own := own) (xq := Xq) kl.ok (fun a z => by
      rcases List.mem_append.mp z with z | z
      · exact n1 a z
      · exact n2 a (by simpa using z)) rr (by rw [hl']; exact hN) (fun i hi => by rw [hl']; exact ho i hi)
    refine ⟨_, fp, _, fun r => resD r Qd Xq, e, hf, fun f δ' q => ?_⟩
    have kp_of : ∀ {H' : Hp} {m1 : Nat}, G.ok H' m1 → (∀ b o, (upd H p (.tup (vs.drop n))) b = some o → b ∉ G.S → H' b = some o) → Kp G H H' m1 := fun {H' m1} ok' fr => kl.trans ⟨fr, fun b z => by
      by_cases hb : b ∈ G.S
      · intro z2
        have m := G.mu H' _ ok' b hb
        rw [z2] at m
        exact m
      · cases q : (upd H p (.tup (vs.drop n))) b with
        | none => exact absurd q z
        | some o => rw [fr b o q hb]; exact (fun z => nomatch z), ⟨_, kl.ok⟩, ok'⟩
    have fr0 : ∀ {a : Addr}, (upd H p (.tup (vs.drop n))) a = none → H a = none := fun {a} z => kl.free z
    cases f with
    | rt d => exact fun v F H' ok' rv fr nd fm => kq d q v H' F (kp_of ok' fm) rv (fun a z => fr0 (fr a z).1) nd
    | nx => exact fun fp' H' σ' e' s' => kq .non q .non H' [] (kp_of e'.ok e'.frm) .non (fun _ z => nomatch z) List.nodup_nil
    | bk => exact q.elim
    | ct => exact q.elim
end
section
variable {X : Cx} {c : Cd X.K} {k n : Nat} {f : Addr} {x : Str} {p pos : Pos} {e : Expr} {es : List Expr} {va : List Nat} {fs : Env → W (List D)} {Fd : List D → W D} {sp : Sp} {E : XK}
theorem run_gs {pins : List (Addr × Obj)} {σ : L2.St} {H : Hp} {s : Shared} {Q : VK} {us : List Value} {vs : List V} (F : FnGS X.prog X.w X.K X.mg X.base CX0 k f sp) (hr : Room k X.A) (gd : X.A.guards = some [])
    (I : Inv X pins σ H s) (r : Vals vs us) (h : sp vs H Q L2.E0) : wpAny (model X.prog X.w) X.A (call (.ref f) us []) (EP X pins σ Q) X.xe s := by
  refine wpAny_call (codeAny_mono (F.run X.A X.stack s H us vs Q L2.E0 hr gd I.env0 r h) fun res s' hq => ?_)
  match res, hq with
  | .error e, hq => exact L2.pass0 pins σ H s e s' I hq
  | .ok (.ret u), hq => exact I.after hq
  | .ok .next, hq => exact False.elim hq
  | .ok .brk, hq => exact False.elim hq
  | .ok .cont, hq => exact False.elim hq
theorem pn_callS (F : FnGS X.prog X.w X.K X.mg X.base CX0 k f (spD (K := X.K) Fd)) (hr : Room k X.A) (gd : X.A.guards = some []) (hg : Gl X x) (hm : X.mg x = some (.ref f)) (hk : PySem.W.keepIn X.K (.ref f) = true) (ha : PA X (e :: es) (tA c va fs))
    (hdb : (x == ("__debug__" : Str)) = false := by decide) (he : starEach (e :: es) X.env = (false, eval e X.env) :: starEach es X.env := by rfl) (hpl : (backTo pos (starEach es X.env)).any (·.1) = false := by rfl) :
    PE X (.Call (.Name x p) (e :: es) [] pos) (tN c (dCall Fd fs)) := by
  have z : PE X (.Call (.Name x p) (e :: es) [] pos) (fun σ H Q => tA c va fs σ H fun vs H1 => spD (K := X.K) Fd vs H1 Q L2.E0) :=
    ⟨fun pins s σ H Q I h => wpAny_Call_Name_kw (ld_glob I hg hm (PySem.W.callWith_K (h₀ := X.base) I.ok.mod.kin hk (thn (ha.run pos pins s σ H _ I h) fun us s1 ⟨vs, H1, I1, r, q⟩ => ⟨I1.kIn, run_gs F hr gd I1 r q⟩) he hpl) hdb)⟩
  refine z.wk fun σ H Q ⟨_, fp, δ, Qd, e, hf, kq⟩ => ?_
  refine ⟨_, fp, δ, fun ds => Fd ds Qd c.xq, e, hf, fun ds qds us H1 F1 p1 r1 => ?_⟩
  exact ⟨_, c.G, ds, F1, Qd, c.xq, p1.kp.ok, p1.nos, r1, qds, fun d qd v H' F' kp rv fr nd => kq d qd v H' F' (p1.kp.trans kp) rv (fun a z => p1.kp.free (fr a z)) nd⟩
end
/-! ### min, max of a tuple of ints -/
theorem foldl_min : ∀ (ns : List Int) (n : Int), ns.foldl min n ∈ n :: ns ∧ ∀ y ∈ n :: ns, ns.foldl min n ≤ y
  | [], n => ⟨by simp, fun y hy => by simp at hy; subst hy; exact Int.le_refl _⟩
  | k :: ns, n => by
    obtain ⟨h1, h2⟩ := foldl_min ns (min n k)
    rw [List.foldl_cons]
    refine ⟨?_, fun y hy => ?_⟩
    · rcases List.mem_cons.mp h1 with z | z
      · rw [z]
        by_cases q : n ≤ k
        · rw [Int.min_eq_left q]; simp
        · rw [Int.min_eq_right (by omega)]; simp
      · simp [z]
    · have h3 := h2 (min n k) (by simp)
      rcases List.mem_cons.mp hy with z | hy
      · rw [z]; omega
      rcases List.mem_cons.mp hy with z | hy
      · rw [z]; omega
      · exact h2 y (by simp [hy])
theorem foldl_max : ∀ (ns : List Int) (n : Int), ns.foldl max n ∈ n :: ns ∧ ∀ y ∈ n :: ns, y ≤ ns.foldl max n
  | [], n => ⟨by simp, fun y hy => by simp at hy; subst hy; exact Int.le_refl _⟩
  | k :: ns, n => by
    obtain ⟨h1, h2⟩ := foldl_max ns (max n k)
    rw [List.foldl_cons]
    refine ⟨?_, fun y hy => ?_⟩
    · rcases List.mem_cons.mp h1 with z | z
      · rw [z]
        by_cases q : n ≤ k
        · rw [Int.max_eq_right q]; simp
        · rw [Int.max_eq_left (by omega)]; simp
      · simp [z]
    · have h3 := h2 (max n k) (by simp)
      rcases List.mem_cons.mp hy with z | hy
      · rw [z]; omega
      rcases List.mem_cons.mp hy with z | hy
      · rw [z]; omega
      · exact h2 y (by simp [hy])

theorem reads_ints {h : Heap} : ∀ {vs : List Value} {ns : List Int}, IntsAre vs ns → ReadsAll h vs (ns.map PyData.int) []
  | _, _, .nil => .nil
  | _, _, .cons n t r => by
    have := ReadsAll.cons (Reads.int (h := h) n t) (reads_ints r)
    simpa using this
theorem alike_ints (ns : List Int) : PySem.W.AlikeAll (ns.map PyData.int) := by
  refine ⟨fun x hx y hy => ?_, fun x hx => ?_⟩
  · obtain ⟨a, _, rfl⟩ := List.mem_map.mp hx
    obtain ⟨b, _, rfl⟩ := List.mem_map.mp hy
    rfl
  · obtain ⟨a, _, rfl⟩ := List.mem_map.mp hx
    exact fun z => nomatch z
theorem depth_ints : ∀ (ns : List Int), PyData.depthAll (ns.map PyData.int) ≤ 1
  | [] => by simp [PyData.depthAll]
  | n :: ns => by
    have := depth_ints ns
    simp only [List.map_cons, PyData.depthAll, PyData.depth]
    omega
section
variable {X : Cx} {c : Cd X.K}
def rMinT (K : PySem.W.Frag) : List V → Hp → VK → Prop := fun vs H Q => ∃ (a : Addr) (ns : List Int), vs = [V.ref a] ∧ SqT K H a (ns.map V.int) ∧ 0 < ns.length ∧ ∀ m, m ∈ ns → (∀ y, y ∈ ns → m ≤ y) → Q (.int m) H
def rMaxT (K : PySem.W.Frag) : List V → Hp → VK → Prop := fun vs H Q => ∃ (a : Addr) (ns : List Int), vs = [V.ref a] ∧ SqT K H a (ns.map V.int) ∧ 0 < ns.length ∧ ∀ m, m ∈ ns → (∀ y, y ∈ ns → y ≤ m) → Q (.int m) H
theorem cr_minT (hc : X.calm = true) (hu : X.A.units + 65 < cLine) : CallR X (.builtin "min") (rMinT X.K) := by
  intro pins s σ H vs us Q I r h
  obtain ⟨a, ns, rfl, hs, hne, q⟩ := h
  obtain ⟨its, rv, hl, _⟩ := I.tuple hs
  rw [Vals.ref1 r]
  match ns, hne with
  | n :: ns, _ =>
    have hr : ReadsAll s.heap its.toArray.toList (.int n :: ns.map PyData.int) [] := by
      have := reads_ints (h := s.heap) rv.ints
      simpa using this
    have dp : PyData.depthAll (.int n :: ns.map PyData.int) ≤ 1 := depth_ints (n :: ns)
    refine PySem.W.min_tuple_data (I.ok.hd hc) hl hr (alike_ints (n :: ns)) (by omega) fun i v h' tk bs hv hrd hk => ?_
    rw [PySem.W.minD_ints] at hrd
    cases hrd with
    | int i t => exact ⟨.int _, H, I.kept hk, ⟨_, rfl⟩, q _ (foldl_min ns n).1 (foldl_min ns n).2⟩
theorem cr_maxT (hc : X.calm = true) (hu : X.A.units + 65 < cLine) : CallR X (.builtin "max") (rMaxT X.K) := by
  intro pins s σ H vs us Q I r h
  obtain ⟨a, ns, rfl, hs, hne, q⟩ := h
  obtain ⟨its, rv, hl, _⟩ := I.tuple hs
  rw [Vals.ref1 r]
  match ns, hne with
  | n :: ns, _ =>
    have hr : ReadsAll s.heap its.toArray.toList (.int n :: ns.map PyData.int) [] := by
      have := reads_ints (h := s.heap) rv.ints
      simpa using this
    have dp : PyData.depthAll (.int n :: ns.map PyData.int) ≤ 1 := depth_ints (n :: ns)
    refine PySem.W.max_tuple_data (I.ok.hd hc) hl hr (alike_ints (n :: ns)) (by omega) fun i v h' tk bs hv hrd hk => ?_
    rw [PySem.W.maxD_ints] at hrd
    cases hrd with
    | int i t => exact ⟨.int _, H, I.kept hk, ⟨_, rfl⟩, q _ (foldl_max ns n).1 (foldl_max ns n).2⟩
def tIntsD : D → Option (List Int)
  | .tup ds => intsD ds
  | _ => none
def maxTD (d : D) : W D := opt (tIntsD d) fun ns => chk (0 < ns.length) fun Q _ n => ∀ m, m ∈ ns → (∀ y ∈ ns, y ≤ m) → Q (.int m) n
def minTD (d : D) : W D := opt (tIntsD d) fun ns => chk (0 < ns.length) fun Q _ n => ∀ m, m ∈ ns → (∀ y ∈ ns, m ≤ y) → Q (.int m) n
theorem Rp.ofT {G : Gx X.K} {H : Hp} {v : V} {d : D} {F : List Addr} {ns : List Int} (r : Rp G H v d F) (h : tIntsD d = some ns) : ∃ a, v = .ref a ∧ SqT X.K H a (ns.map V.int) := by
  unfold tIntsD at h
  split at h
  · obtain ⟨a, xs, rfl, sx, ax⟩ := r.tupI
    have e := intsD_eq h
    subst e
    obtain ⟨rfl, _⟩ := ax.ints
    exact ⟨a, rfl, sx⟩
  · cases h
theorem cd_maxT : CallD c (rMaxT X.K) (a1 maxTD) := by
  intro n H us ds F Qd Q ok ns r q k
  unfold a1 at q
  split at q
  · obtain ⟨v, rfl, r0⟩ := r.one
    obtain ⟨ms, e, hl, q⟩ := q
    obtain ⟨a, rfl, sx⟩ := r0.ofT e
    exact ⟨a, ms, rfl, sx, hl, fun m h1 h2 => k _ (q m h1 h2) _ H [] (Kp.refl ok) (.int _) fun _ z => nomatch z⟩
  · exact q.elim
theorem cd_minT : CallD c (rMinT X.K) (a1 minTD) := by
  intro n H us ds F Qd Q ok ns r q k
  unfold a1 at q
  split at q
  · obtain ⟨v, rfl, r0⟩ := r.one
    obtain ⟨ms, e, hl, q⟩ := q
    obtain ⟨a, rfl, sx⟩ := r0.ofT e
    exact ⟨a, ms, rfl, sx, hl, fun m h1 h2 => k _ (q m h1 h2) _ H [] (Kp.refl ok) (.int _) fun _ z => nomatch z⟩
  · exact q.elim
theorem cc_minT {k : Nat} (hc : X.calm = true) (hr : Room k X.A) : CCD X c (.builtin "min") (a1 minTD) := ⟨_, cr_minT hc (hu65 hr), cd_minT⟩
theorem cc_maxT {k : Nat} (hc : X.calm = true) (hr : Room k X.A) : CCD X c (.builtin "max") (a1 maxTD) := ⟨_, cr_maxT hc (hu65 hr), cd_maxT⟩
end
/-! ### xs + ys, a new list -/
section
variable {X : Cx} {c : Cd X.K} {a b : Expr} {va vb : List Nat} {fa fb : Env → W D} {pos : Pos}
def catD : D → D → W D
  | .lst xs, .lst ys => chk (xs.length + ys.length ≤ sizeLine ∧ D.imms xs = true ∧ D.imms ys = true) (pu (.lst (xs ++ ys)))
  | _, _ => fl
theorem pn_cat (ha : PE X a (tD c va fa)) (hb : PE X b (tD c vb fb)) : PE X (.BinOp a .Add b pos) (tN c (dOp catD fa fb)) := (pe_op op_cat ha hb).wk fun σ H Q ⟨_, fp, δ, Qd, e, hf, k⟩ => by
  refine ⟨_, fp, δ, fun x => bd (fb δ) (fun y => catD x y) Qd c.xq, e, hf, fun dx qx x H1 Fx p1 r1 => ?_⟩
  refine ⟨_, fp, δ, fun y => catD dx y Qd c.xq, e.kp p1.kp, qx, fun dy qy y H2 Fy p2 r2 => ?_⟩
  have r1' := r1.kp p2.kp p1.nos
  replace qy : catD dx dy Qd c.xq _ := qy
  unfold catD at qy
  split at qy
  · obtain ⟨⟨h1, h2, h3⟩, q⟩ := qy
    cases r1' with
    | @lst a1 us ds1 F1 ex ax =>
      cases r2 with
      | @lst a2 ws ds2 F2 ey ay =>
        have e1 := RpA.imm_nil _ _ _ ax h2
        have e2 := RpA.imm_nil _ _ _ ay h3
        subst e1 e2
        refine ⟨_, _, _, _, rfl, rfl, ex, ey, by rw [ax.length, ay.length]; exact h1, fun p hp => ?_⟩
        have kk := p1.kp.trans p2.kp
        have rr := (ax.laid p2.kp.ok (fun _ z => nomatch z) hp (.lst (us ++ ws))).append (ay.laid p2.kp.ok (fun _ z => nomatch z) hp (.lst (us ++ ws)))
        exact k _ q _ _ [p] (kk.trans (Kp.laid p2.kp.ok hp _)) (.lst upd_same (by simpa using rr)) (fun a z => by rw [List.mem_singleton.mp z]; exact kk.free hp) (by simp)
  · exact qy.elim
end
end DL
namespace CY
open PySem L2 DL
abbrev N_own_links : List Str := ["yard", "found", "first", "second", "least", "greatest", "pair"]
def g_own_links : DL.Env → DL.W (Fl × DL.Env) := (sSeq (sSetN 1 (dLcN [6] (fSeq (dOp idxD (dV 0) (dC (.int 0)))) (bName 6) dYes (dLst dNil))) (sSeq (sFor (fSeq (dOp idxD (dV 0) (dC (.int 1)))) (bTup 4 (bCons (bName 2) (bCons (bName 3) (bCons (bName 4) (bCons (bName 5) bNil))))) (sSeq (sAppIx 1 (dV 2) (dTup (dCons (dV 3) (dCons (dV 4) (dCons (dV 5) dNil))))) (sAppIx 1 (dV 3) (dTup (dCons (dV 2) (dCons (dUn negD (dV 5)) (dCons (dUn negD (dV 4)) dNil))))))) (sRetV 1)))
def F_own_links : List D → DL.W D := bodyD 1 N_own_links.length g_own_links
abbrev N_is_between : List Str := ["value", "least", "most"]
def g_is_between : DL.Env → DL.W (Fl × DL.Env) := (sRet (dAnd (dCB (a2 isiD) (dCons (dV 0) (dCons (dC (.ty "int")) dNil))) (dAnd (dNot (dCB (a2 isiD) (dCons (dV 0) (dCons (dC (.ty "bool")) dNil)))) (dChain leD leD (dV 1) (dV 0) (dV 2)))))
def F_is_between : List D → DL.W D := bodyD 3 N_is_between.length g_is_between
abbrev N_is_walls : List Str := ["value", "place"]
def g_is_walls : DL.Env → DL.W (Fl × DL.Env) := (sSeq (sIf (dOrT (dNotT (dB (dCB (a2 isiD) (dCons (dV 0) (dCons (dC (.ty "tuple")) dNil))))) (dB (dOp neS (dCB (a1 lenD) (dCons (dV 0) dNil)) (dC (.int 2))))) (sRet (dC (.bl false))) sNil) (sRet (dAnd (dCB (a1 allD) (dCons (dLc [1] (fSeq (dV 0)) (bName 1) dYes (dCall F_is_between (dCons (dV 1) (dCons (dUn negD (dC (.int 1000000000))) (dCons (dC (.int 1000000000)) dNil))))) dNil)) (dOp leD (dOp idxD (dV 0) (dC (.int 0))) (dOp idxD (dV 0) (dC (.int 1)))))))
def F_is_walls : List D → DL.W D := bodyD 1 N_is_walls.length g_is_walls
abbrev N_is_coupling : List Str := ["value", "many", "first", "second", "least", "greatest"]
def g_is_coupling : DL.Env → DL.W (Fl × DL.Env) := (sSeq (sIf (dOrT (dNotT (dB (dCB (a2 isiD) (dCons (dV 0) (dCons (dC (.ty "tuple")) dNil))))) (dB (dOp neS (dCB (a1 lenD) (dCons (dV 0) dNil)) (dC (.int 4))))) (sRet (dC (.bl false))) sNil) (sSeq (sAsg (dV 0) (bTup 4 (bCons (bName 2) (bCons (bName 3) (bCons (bName 4) (bCons (bName 5) bNil)))))) (sSeq (sIf (dOrT (dNotT (dB (dCall F_is_between (dCons (dV 2) (dCons (dC (.int 0)) (dCons (dOp subD (dV 1) (dC (.int 1))) dNil)))))) (dOrT (dNotT (dB (dCall F_is_between (dCons (dV 3) (dCons (dC (.int 0)) (dCons (dOp subD (dV 1) (dC (.int 1))) dNil)))))) (dB (dOp geD (dV 2) (dV 3))))) (sRet (dC (.bl false))) sNil) (sSeq (sIf (dNotT (dB (dCall F_is_between (dCons (dV 4) (dCons (dUn negD (dC (.int 10000000000))) (dCons (dC (.int 10000000000)) dNil)))))) (sRet (dC (.bl false))) sNil) (sRet (dAnd (dCall F_is_between (dCons (dV 5) (dCons (dUn negD (dC (.int 10000000000))) (dCons (dC (.int 10000000000)) dNil)))) (dOp ltD (dV 4) (dV 5))))))))
def F_is_coupling : List D → DL.W D := bodyD 2 N_is_coupling.length g_is_coupling
abbrev N_couplings_problem : List Str := ["couplings", "many", "labels", "before", "index", "coupling", "one", "other", "label"]
def g_couplings_problem : DL.Env → DL.W (Fl × DL.Env) := (sSeq (sPar 2 3 (listRng (dCons (dV 1) dNil)) (dImm (dTup (dCons (dUn negD (dC (.int 1))) (dCons (dUn negD (dC (.int 1))) dNil))))) (sSeq (sFor (fEn (dCons (dV 0) dNil)) (bTup 2 (bCons (bName 4) (bCons (bName 5) bNil))) (sSeq (sIf (dOrT (dNotT (dB (dCall F_is_coupling (dCons (dV 5) (dCons (dV 1) dNil))))) (dB (dOp leD (dSl (dV 5) dNo (dSo (dC (.int 2)))) (dV 3)))) (sRet (dV 4)) sNil) (sSeq (sSet 3 (dSl (dV 5) dNo (dSo (dC (.int 2))))) (sSeq (sPar 6 7 (dImm (dOp idxD (dV 2) (dOp idxD (dV 3) (dC (.int 0))))) (dImm (dOp idxD (dV 2) (dOp idxD (dV 3) (dC (.int 1)))))) (sSeq (sIf (dB (dOp eqS (dV 6) (dV 7))) (sRet (dV 4)) sNil) (sSetN 2 (dLc [8] (fSeq (dV 2)) (bName 8) dYes (dIf (dB (dOp eqS (dV 8) (dV 7))) (dV 6) (dV 8))))))))) (sRet (dC .non))))
def F_couplings_problem : List D → DL.W D := bodyD 2 N_couplings_problem.length g_couplings_problem
abbrev N_yard_problem : List Str := ["value", "walls", "couplings", "index", "pair"]
def g_yard_problem : DL.Env → DL.W (Fl × DL.Env) := (sSeq (sIf (dOrT (dNotT (dB (dCB (a2 isiD) (dCons (dV 0) (dCons (dC (.ty "tuple")) dNil))))) (dB (dOp neS (dCB (a1 lenD) (dCons (dV 0) dNil)) (dC (.int 2))))) (sRet (dTup (dCons (dC (.str "form")) (dCons (dC .non) dNil)))) sNil) (sSeq (sAsg (dV 0) (bTup 2 (bCons (bName 1) (bCons (bName 2) bNil)))) (sSeq (sIf (dOrT (dNotT (dB (dCB (a2 isiD) (dCons (dV 1) (dCons (dC (.ty "tuple")) dNil))))) (dNotT (dB (dChain leD leD (dC (.int 1)) (dCB (a1 lenD) (dCons (dV 1) dNil)) (dC (.int 40)))))) (sRet (dTup (dCons (dC (.str "walls")) (dCons (dC .non) dNil)))) sNil) (sSeq (sFor (fEn (dCons (dV 1) dNil)) (bTup 2 (bCons (bName 3) (bCons (bName 4) bNil))) (sIf (dNotT (dB (dCall F_is_walls (dCons (dV 4) dNil)))) (sRet (dTup (dCons (dC (.str "walls")) (dCons (dV 3) dNil)))) sNil)) (sSeq (sIf (dNotT (dB (dCB (a2 isiD) (dCons (dV 2) (dCons (dC (.ty "tuple")) dNil))))) (sRet (dTup (dCons (dC (.str "couplings")) (dCons (dC .non) dNil)))) sNil) (sSeq (sSetN 3 (dCall F_couplings_problem (dCons (dV 2) (dCons (dCB (a1 lenD) (dCons (dV 1) dNil)) dNil)))) (sRet (dIf (dB (dOp isND (dV 3) (dC .non))) (dC .non) (dTup (dCons (dC (.str "couplings")) (dCons (dV 3) dNil)))))))))))
def F_yard_problem : List D → DL.W D := bodyD 1 N_yard_problem.length g_yard_problem
abbrev N_validate_yard : List Str := ["yard", "problem"]
def g_validate_yard : DL.Env → DL.W (Fl × DL.Env) := (sSeq (sSetN 1 (dCall F_yard_problem (dCons (dV 0) dNil))) (sIf (dB (dOp isnND (dV 1) (dC .non))) (fun _ => fl) sNil))
def F_validate_yard : List D → DL.W D := bodyD 1 N_validate_yard.length g_validate_yard
abbrev N_arrangement_problem : List Str := ["yard", "value", "wagon", "low", "high", "index", "first", "second", "least", "greatest"]
def g_arrangement_problem : DL.Env → DL.W (Fl × DL.Env) := (sSeq (sIf (dOrT (dNotT (dB (dCB (a2 isiD) (dCons (dV 1) (dCons (dC (.ty "tuple")) dNil))))) (dB (dOp neS (dCB (a1 lenD) (dCons (dV 1) dNil)) (dCB (a1 lenD) (dCons (dOp idxD (dV 0) (dC (.int 0))) dNil))))) (sRet (dTup (dCons (dC (.str "form")) (dCons (dC .non) dNil)))) sNil) (sSeq (sFor (fEn (dCons (dOp idxD (dV 0) (dC (.int 0))) dNil)) (bTup 2 (bCons (bName 2) (bCons (bTup 2 (bCons (bName 3) (bCons (bName 4) bNil))) bNil))) (sIf (dNotT (dB (dCall F_is_between (dCons (dOp idxD (dV 1) (dV 2)) (dCons (dV 3) (dCons (dV 4) dNil)))))) (sRet (dTup (dCons (dC (.str "places")) (dCons (dV 2) dNil)))) sNil)) (sSeq (sFor (fEn (dCons (dOp idxD (dV 0) (dC (.int 1))) dNil)) (bTup 2 (bCons (bName 5) (bCons (bTup 4 (bCons (bName 6) (bCons (bName 7) (bCons (bName 8) (bCons (bName 9) bNil))))) bNil))) (sIf (dNotT (dB (dChain leD leD (dV 8) (dOp subD (dOp idxD (dV 1) (dV 7)) (dOp idxD (dV 1) (dV 6))) (dV 9)))) (sRet (dTup (dCons (dC (.str "couplings")) (dCons (dV 5) dNil)))) sNil)) (sRet (dC .non)))))
def F_arrangement_problem : List D → DL.W D := bodyD 2 N_arrangement_problem.length g_arrangement_problem
abbrev N_need_arrangement : List Str := ["yard", "arrangement", "problem"]
def g_need_arrangement : DL.Env → DL.W (Fl × DL.Env) := (sSeq (sSetN 2 (dCall F_arrangement_problem (dCons (dV 0) (dCons (dV 1) dNil)))) (sIf (dB (dOp isnND (dV 2) (dC .non))) (fun _ => fl) sNil))
def F_need_arrangement : List D → DL.W D := bodyD 2 N_need_arrangement.length g_need_arrangement
abbrev N_validate_arrangement : List Str := ["yard", "arrangement"]
def g_validate_arrangement : DL.Env → DL.W (Fl × DL.Env) := (sSeq (sExpr (dCall F_validate_yard (dCons (dV 0) dNil))) (sExpr (dCall F_need_arrangement (dCons (dV 0) (dCons (dV 1) dNil)))))
def F_validate_arrangement : List D → DL.W D := bodyD 2 N_validate_arrangement.length g_validate_arrangement
abbrev N_holder_of : List Str := ["links", "places", "wagon", "sign", "other", "least", "greatest"]
def g_holder_of : DL.Env → DL.W (Fl × DL.Env) := (sSeq (sFor (fSeq (dOp idxD (dV 0) (dV 2))) (bTup 3 (bCons (bName 4) (bCons (bName 5) (bCons (bName 6) bNil)))) (sIf (dNotT (dB (dChain leD leD (dV 5) (dOp subD (dOp subD (dOp idxD (dV 1) (dV 4)) (dOp idxD (dV 1) (dV 2))) (dV 3)) (dV 6)))) (sRet (dV 4)) sNil)) (sRet (dC .non)))
def F_holder_of : List D → DL.W D := bodyD 4 N_holder_of.length g_holder_of
abbrev N_is_at_wall : List Str := ["yard", "places", "wagon", "sign"]
def g_is_at_wall : DL.Env → DL.W (Fl × DL.Env) := (sRet (dOp eqS (dOp idxD (dV 1) (dV 2)) (dIf (dB (dOp eqS (dV 3) (dC (.int 1)))) (dOp idxD (dOp idxD (dOp idxD (dV 0) (dC (.int 0))) (dV 2)) (dC (.int 1))) (dOp idxD (dOp idxD (dOp idxD (dV 0) (dC (.int 0))) (dV 2)) (dC (.int 0))))))
def F_is_at_wall : List D → DL.W D := bodyD 4 N_is_at_wall.length g_is_at_wall
abbrev N_can_step : List Str := ["yard", "links", "places", "wagon", "sign"]
def g_can_step : DL.Env → DL.W (Fl × DL.Env) := (sRet (dAnd (dNot (dCall F_is_at_wall (dCons (dV 0) (dCons (dV 2) (dCons (dV 3) (dCons (dV 4) dNil)))))) (dOp isND (dCall F_holder_of (dCons (dV 1) (dCons (dV 2) (dCons (dV 3) (dCons (dV 4) dNil))))) (dC .non))))
def F_can_step : List D → DL.W D := bodyD 5 N_can_step.length g_can_step
abbrev N_possible_steps : List Str := ["yard", "arrangement", "links", "found", "wagon", "sign"]
def g_possible_steps : DL.Env → DL.W (Fl × DL.Env) := (sSeq (sExpr (dCall F_validate_arrangement (dCons (dV 0) (dCons (dV 1) dNil)))) (sSeq (sPar 2 3 (dCall F_own_links (dCons (dV 0) dNil)) (dLst dNil)) (sSeq (sFor (fRng1 (dCons (dCB (a1 lenD) (dCons (dV 1) dNil)) dNil)) (bName 4) (sExt 3 (dLc [5] (fSeq (dC (.tup ([(-1), 1].map D.int)))) (bName 5) (dB (dCall F_can_step (dCons (dV 0) (dCons (dV 2) (dCons (dV 1) (dCons (dV 4) (dCons (dV 5) dNil))))))) (dTup (dCons (dV 4) (dCons (dV 5) dNil)))))) (sRet (dCB (a1 tupleD) (dCons (dV 3) dNil))))))
def F_possible_steps : List D → DL.W D := bodyD 2 N_possible_steps.length g_possible_steps
abbrev N_is_step : List Str := ["yard", "value"]
def g_is_step : DL.Env → DL.W (Fl × DL.Env) := (sSeq (sIf (dOrT (dNotT (dB (dCB (a2 isiD) (dCons (dV 1) (dCons (dC (.ty "tuple")) dNil))))) (dB (dOp neS (dCB (a1 lenD) (dCons (dV 1) dNil)) (dC (.int 2))))) (sRet (dC (.bl false))) sNil) (sRet (dAnd (dCall F_is_between (dCons (dOp idxD (dV 1) (dC (.int 0))) (dCons (dC (.int 0)) (dCons (dOp subD (dCB (a1 lenD) (dCons (dOp idxD (dV 0) (dC (.int 0))) dNil)) (dC (.int 1))) dNil)))) (dAnd (dCall F_is_between (dCons (dOp idxD (dV 1) (dC (.int 1))) (dCons (dUn negD (dC (.int 1))) (dCons (dC (.int 1)) dNil)))) (dOp neS (dOp idxD (dV 1) (dC (.int 1))) (dC (.int 0)))))))
def F_is_step : List D → DL.W D := bodyD 2 N_is_step.length g_is_step
abbrev N_validate_step : List Str := ["yard", "step"]
def g_validate_step : DL.Env → DL.W (Fl × DL.Env) := (sIf (dNotT (dB (dCall F_is_step (dCons (dV 0) (dCons (dV 1) dNil))))) (fun _ => fl) sNil)
def F_validate_step : List D → DL.W D := bodyD 2 N_validate_step.length g_validate_step
abbrev N_is_possible : List Str := ["yard", "arrangement", "step"]
def g_is_possible : DL.Env → DL.W (Fl × DL.Env) := (sSeq (sExpr (dCall F_validate_arrangement (dCons (dV 0) (dCons (dV 1) dNil)))) (sSeq (sExpr (dCall F_validate_step (dCons (dV 0) (dCons (dV 2) dNil)))) (sRetN (dCall F_can_step (dCons (dV 0) (dCons (dCall F_own_links (dCons (dV 0) dNil)) (dCons (dV 1) (dCons (dOp idxD (dV 2) (dC (.int 0))) (dCons (dOp idxD (dV 2) (dC (.int 1))) dNil)))))))))
def F_is_possible : List D → DL.W D := bodyD 3 N_is_possible.length g_is_possible
end CY
namespace CY
open PySem L2 DL
theorem chk_true {α : Type} (w : DL.W α) : chk True w = w := chk_pos trivial w
theorem chk_tt {α : Type} (w : DL.W α) : chk (true = true) w = w := chk_pos rfl w
theorem isiT_tt : isiT "tuple" "tuple" = some true := by decide
theorem isiT_ii : isiT "int" "int" = some true := by decide
theorem isiT_ib : isiT "int" "bool" = some false := by decide
theorem and_pu (p q : Bool) : (if p = true then pu (D.bl q) else pu (D.bl false) : DL.W D) = pu (.bl (p && q)) := by cases p <;> rfl
theorem or_pu (p q : Bool) : (if p = true then pu (D.bl true) else pu (D.bl q) : DL.W D) = pu (.bl (p || q)) := by cases p <;> rfl
theorem tand_pu (p q : Bool) : (if p = true then pu q else pu false : DL.W Bool) = pu (p && q) := by cases p <;> rfl
theorem tor_pu (p q : Bool) : (if p = true then pu true else pu q : DL.W Bool) = pu (p || q) := by cases p <;> rfl
theorem if_tt {α : Type} (a b : α) : (if (true : Bool) = true then a else b) = a := rfl
theorem if_ff {α : Type} (a b : α) : (if (false : Bool) = true then a else b) = b := rfl
theorem atI_nat {α : Type} {ds : List α} {k : Nat} {d : α} (h : ds[k]? = some d) : L2.atI ds (k : Int) = some d := by
  have hl : k < ds.length := (List.getElem?_eq_some_iff.mp h).1
  unfold L2.atI L2.ixN
  rw [if_pos (Int.natCast_nonneg k), if_pos (by omega)]
  simpa using h
theorem idx_nat {ds : List D} {k : Nat} {d : D} (h : ds[k]? = some d) : idxL ds (k : Int) = pu d := by
  unfold idxL
  rw [atI_nat h, opt_some]
theorem idx_0 (a : D) (ds : List D) : idxL (a :: ds) 0 = pu a := idx_nat (k := 0) rfl
theorem idx_1 (a b : D) (ds : List D) : idxL (a :: b :: ds) 1 = pu b := idx_nat (k := 1) rfl
theorem nc0 : ((0 : Nat) : Int) = 0 := rfl
theorem nc1 : ((1 : Nat) : Int) = 1 := rfl
theorem nc2 : ((2 : Nat) : Int) = 2 := rfl
theorem nc3 : ((3 : Nat) : Int) = 3 := rfl
theorem nc4 : ((4 : Nat) : Int) = 4 := rfl
theorem eqv_int (a b : Int) : PyData.eqv (.int a) (.int b) = decide (a = b) := by
  by_cases h : a = b
  · subst h; simp [PyData.eqv]
  · simp [PyData.eqv, h]
theorem eq_int (a b : Int) : eqS (.int a) (.int b) = pu (.bl (decide (a = b))) := by
  show eqD (.int a) (.int b) = _
  unfold eqD eqvD
  simp only [D.py, opt_some]
  rw [chk_pos ⟨rfl, rfl⟩, eqv_int]
theorem eq_str (a b : Str) : eqS (.str a) (.str b) = pu (.bl (decide (a = b))) := rfl
theorem ne_str (a b : Str) : neS (.str a) (.str b) = pu (.bl (!decide (a = b))) := rfl
theorem ne_int (a b : Int) : neS (.int a) (.int b) = pu (.bl (decide (a ≠ b))) := by
  show neD (.int a) (.int b) = _
  unfold neD eqvD
  simp only [D.py, opt_some]
  rw [chk_pos ⟨rfl, rfl⟩, eqv_int]
  by_cases h : a = b <;> simp [h]
/-! ### loops -/
theorem forW_cons (h : D → DL.Env → DL.W DL.Env) (g : DL.Env → DL.W (Fl × DL.Env)) (d : D) (ds : List D) (δ : DL.Env) : forW h g (d :: ds) δ = bd (bd (h d δ) g) (again (forW h g ds)) := (bd_bd _ _ _).symm
theorem for_rt {h : D → DL.Env → DL.W DL.Env} {g : DL.Env → DL.W (Fl × DL.Env)} (I : Nat → DL.Env → Prop) (p : Nat → Prop) (r : Nat → D) : ∀ (ds : List D) (δ : DL.Env) (n : Nat), I n δ →
    (∀ i d δ, ds[i]? = some d → I (n + i) δ → (∃ δ', bd (h d δ) g = pu (.nx, δ') ∧ I (n + i + 1) δ' ∧ p (n + i)) ∨ ∃ δ', bd (h d δ) g = pu (.rt (r (n + i)), δ') ∧ ¬ p (n + i)) →
    (∃ δ', forW h g ds δ = pu (.nx, δ') ∧ I (n + ds.length) δ' ∧ ∀ i, i < ds.length → p (n + i)) ∨ ∃ i δ', i < ds.length ∧ forW h g ds δ = pu (.rt (r (n + i)), δ') ∧ ¬ p (n + i) ∧ ∀ j, j < i → p (n + j)
  | [], δ, n, h0, _ => .inl ⟨δ, rfl, h0, fun i hi => absurd hi (Nat.not_lt_zero i)⟩
  | d :: ds, δ, n, h0, st => by
    rcases st 0 d δ rfl h0 with ⟨δ', e, h1, hp⟩ | ⟨δ', e, hp⟩
    · have ih := for_rt I p r ds δ' (n + 1) h1 (fun i d' δ2 q hi => by
        have := st (i + 1) d' δ2 (by simpa using q) (by rw [show n + (i + 1) = n + 1 + i by omega]; exact hi)
        rw [show n + (i + 1) = n + 1 + i by omega] at this
        exact this)
      have e2 : forW h g (d :: ds) δ = forW h g ds δ' := by rw [forW_cons, e, bd_pu]; rfl
      rcases ih with ⟨δ2, e3, h2, h3⟩ | ⟨i, δ2, hi, e3, h3, h4⟩
      · refine .inl ⟨δ2, e2.trans e3, by rw [List.length_cons, show n + (ds.length + 1) = n + 1 + ds.length by omega]; exact h2, fun i hi => ?_⟩
        cases i with
        | zero => exact hp
        | succ i => rw [show n + (i + 1) = n + 1 + i by omega]; exact h3 i (by simpa using hi)
      · refine .inr ⟨i + 1, δ2, by simpa using hi, ?_, ?_, fun j hj => ?_⟩
        · rw [e2, e3, show n + (i + 1) = n + 1 + i by omega]
        · rw [show n + (i + 1) = n + 1 + i by omega]; exact h3
        · cases j with
          | zero => exact hp
          | succ j => rw [show n + (j + 1) = n + 1 + j by omega]; exact h4 j (by omega)
    · refine .inr ⟨0, δ', Nat.succ_pos _, ?_, hp, fun j hj => absurd hj (Nat.not_lt_zero j)⟩
      rw [forW_cons, e, bd_pu]
      rfl
theorem for_ex {h : D → DL.Env → DL.W DL.Env} {g : DL.Env → DL.W (Fl × DL.Env)} {ds : List D} {δ : DL.Env} (I : Nat → DL.Env → Prop) (h0 : I 0 δ) (st : ∀ i d δ, ds[i]? = some d → I i δ → ∃ δ', bd (h d δ) g = pu (.nx, δ') ∧ I (i + 1) δ') :
    ∃ δ', forW h g ds δ = pu (.nx, δ') ∧ I ds.length δ' := by
  rcases for_rt (h := h) (g := g) I (fun _ => True) (fun _ => .non) ds δ 0 h0 (fun i d δ q hi => by
    rw [Nat.zero_add] at hi ⊢
    obtain ⟨δ', e, h1⟩ := st i d δ q hi
    exact .inl ⟨δ', e, h1, trivial⟩) with ⟨δ', e, h1, _⟩ | ⟨_, _, _, _, hn, _⟩
  · exact ⟨δ', e, by rw [Nat.zero_add] at h1; exact h1⟩
  · exact absurd trivial hn
theorem bd_for {α : Type} {h : D → DL.Env → DL.W DL.Env} {g : DL.Env → DL.W (Fl × DL.Env)} {ds : List D} {δ : DL.Env} {k : Fl × DL.Env → DL.W α} {r : DL.W α} (I : Nat → DL.Env → Prop) (h0 : I 0 δ)
    (st : ∀ i d δ, ds[i]? = some d → I i δ → ∃ δ', bd (h d δ) g = pu (.nx, δ') ∧ I (i + 1) δ') (fin : ∀ δ', I ds.length δ' → k (.nx, δ') = r) : bd (forW h g ds δ) k = r := by
  obtain ⟨δ', e, j⟩ := for_ex I h0 st
  rw [e, bd_pu]
  exact fin δ' j
theorem bd_forR {α : Type} {h : D → DL.Env → DL.W DL.Env} {g : DL.Env → DL.W (Fl × DL.Env)} {ds : List D} {δ : DL.Env} {k : Fl × DL.Env → DL.W α} {w : DL.W α} (I : Nat → DL.Env → Prop) (p : Nat → Prop) (r : Nat → D) (h0 : I 0 δ)
    (st : ∀ i d δ, ds[i]? = some d → I i δ → (∃ δ', bd (h d δ) g = pu (.nx, δ') ∧ I (i + 1) δ' ∧ p i) ∨ ∃ δ', bd (h d δ) g = pu (.rt (r i), δ') ∧ ¬ p i)
    (fin : ∀ δ', I ds.length δ' → (∀ i, i < ds.length → p i) → k (.nx, δ') = w) (out : ∀ i δ', i < ds.length → ¬ p i → (∀ j, j < i → p j) → k (.rt (r i), δ') = w) : bd (forW h g ds δ) k = w := by
  rcases for_rt I p r ds δ 0 h0 (fun i d δ q hi => by simpa only [Nat.zero_add] using st i d δ q (by simpa only [Nat.zero_add] using hi)) with ⟨δ', e, j, a⟩ | ⟨i, δ', hi, e, np, bf⟩
  · rw [e, bd_pu]
    exact fin δ' (by simpa only [Nat.zero_add] using j) (fun i hi => by simpa only [Nat.zero_add] using a i hi)
  · rw [e, bd_pu]
    simp only [Nat.zero_add] at np bf ⊢
    exact out i δ' hi np bf
/-- a comprehension that maps and picks -/
theorem lc_pick {h : D → DL.Env → DL.W DL.Env} {t : DL.Env → DL.W Bool} {f : DL.Env → DL.W D} {δ : DL.Env} (p : D → Bool) (m : D → D) : ∀ (ds acc : List D), acc.length + ds.length < sizeLine →
    (∀ d ∈ ds, ∃ δ1, h d δ = pu δ1 ∧ t δ1 = pu (p d) ∧ (p d = true → f δ1 = pu (m d) ∧ (m d).imm = true)) → lcW h t f δ ds acc = pu (acc ++ (ds.filter p).map m)
  | [], acc, _, _ => by simp [lcW]
  | d :: ds, acc, hl, st => by
    obtain ⟨δ1, e1, e2, e3⟩ := st d (by simp)
    have hl' : acc.length + ds.length + 1 < sizeLine := by simpa [Nat.add_assoc] using hl
    show (bd (h d δ) fun δ1 => bd (t δ1) fun b => if b = true then bd (f δ1) fun e => chk (e.imm = true ∧ acc.length < sizeLine) (lcW h t f δ ds (acc ++ [e])) else lcW h t f δ ds acc) = _
    rw [e1, bd_pu, e2, bd_pu]
    by_cases hp : p d = true
    · obtain ⟨e4, im⟩ := e3 hp
      rw [if_pos hp, e4, bd_pu, chk_pos ⟨im, by omega⟩, lc_pick p m ds _ (by simp; omega) (fun d' q => st d' (by simp [q]))]
      simp [hp]
    · rw [if_neg hp, lc_pick p m ds _ (by omega) (fun d' q => st d' (by simp [q]))]
      simp [hp]
theorem lc_map {h : D → DL.Env → DL.W DL.Env} {f : DL.Env → DL.W D} {δ : DL.Env} (m : D → D) (ds : List D) (hl : ds.length < sizeLine) (st : ∀ d ∈ ds, ∃ δ1, h d δ = pu δ1 ∧ f δ1 = pu (m d) ∧ (m d).imm = true) : lcW h dYes f δ ds [] = pu (ds.map m) := by
  rw [lc_pick (fun _ => true) m ds [] (by simpa using hl) (fun d q => by
    obtain ⟨δ1, e1, e2, e3⟩ := st d q
    exact ⟨δ1, e1, rfl, fun _ => ⟨e2, e3⟩⟩), List.filter_eq_self.mpr (fun _ _ => rfl)]
  rfl
/-! ### yards -/
structure Cp where
  i : Nat
  j : Nat
  lo : Int
  hi : Int
def wD (w : Int × Int) : D := .tup [.int w.1, .int w.2]
def cD (c : Cp) : D := .tup [.int c.i, .int c.j, .int c.lo, .int c.hi]
def yD (ws : List (Int × Int)) (cs : List Cp) : D := .tup [.tup (ws.map wD), .tup (cs.map cD)]
def sD (ss : List Int) : D := .tup (ss.map .int)
theorem lenD_lst (ds : List D) : lenD (.lst ds) = pu (.int ds.length) := rfl
theorem lenD_tup (ds : List D) : lenD (.tup ds) = pu (.int ds.length) := rfl
theorem lenD_frz (ds : List D) : lenD (.frz ds) = pu (.int ds.length) := rfl
theorem seq_sD (ss : List Int) : seqOf (sD ss) = some (ss.map D.int) := rfl
theorem len_sD (ss : List Int) : lenD (sD ss) = pu (.int ss.length) := by
  unfold sD
  rw [lenD_tup, List.length_map]
theorem imm_cD (c : Cp) : (cD c).imm = true := rfl
theorem imm_wD (w : Int × Int) : (wD w).imm = true := rfl
structure VY (ws : List (Int × Int)) (cs : List Cp) : Prop where
  n1 : 1 ≤ ws.length
  n40 : ws.length ≤ 40
  wok : ∀ w ∈ ws, -1000000000 ≤ w.1 ∧ w.1 ≤ w.2 ∧ w.2 ≤ 1000000000
  cok : ∀ c ∈ cs, c.i < c.j ∧ c.j < ws.length ∧ -10000000000 ≤ c.lo ∧ c.lo < c.hi ∧ c.hi ≤ 10000000000
  srt : cs.Pairwise (fun a b => a.i < b.i ∨ (a.i = b.i ∧ a.j < b.j))
  cut : ∀ (k : Nat) (c : Cp), cs[k]? = some c → ∃ s : Nat → Bool, s c.i ≠ s c.j ∧ ∀ (l : Nat) (d : Cp), cs[l]? = some d → l ≠ k → s d.i = s d.j
  few : cs.length < ws.length
structure VS (ws : List (Int × Int)) (cs : List Cp) (ss : List Int) : Prop where
  len : ss.length = ws.length
  wal : ∀ v w, ws[v]? = some w → w.1 ≤ ss.getD v 0 ∧ ss.getD v 0 ≤ w.2
  cpl : ∀ c ∈ cs, c.lo ≤ ss.getD c.j 0 - ss.getD c.i 0 ∧ ss.getD c.j 0 - ss.getD c.i 0 ≤ c.hi
/-! ### what is looked at -/
theorem small {n : Nat} (h : n ≤ 1000) : n < sizeLine := Nat.lt_of_le_of_lt h (by decide)
theorem e_is_between (v a b : Int) : F_is_between [.int v, .int a, .int b] = pu (.bl (decide (a ≤ v) && decide (v ≤ b))) := by
  unfold F_is_between g_is_between
  simp (decide := true) (implicitDefEqProofs := false) only [bodyD, env0, sSeq, thenF, sIf, sRet, sRetN, sRetV, sSet, sSetN, sExpr, sNil, sAsg, sPar, resD, dV, dC, dOp, dUn, dNot, dAnd, dOr, dNotT, dAndT, dOrT, dB, dIf, dChain, dTup, dCons, dNil, dLst, dLstB, dCB, dCall, dCallK, dImm, dYes, a1, a2, bTup, bLst, bCons, bNil, bName, fSeq, seqOf, fRng1, fRng2, fEn, fZip, zip2, one1, ints1, ints2, asB, asI, negD, addD, subD, modD, ltD, gtD, geD, leD, isND, isnND, intOp, intOpC, lenD_lst, lenD_tup, lenD_frz, len_sD, tupleD, listD, absD, max2D, min2D, allD, isiD, tyN, isiT_tt, isiT_ii, isiT_ib, idxD, lsA, gw, gt, opt_some, opt_none, bd_pu, bd_fl, bd_bd, chk_true, chk_tt, D.imm, D.imms, D.isN, List.map_cons, List.map_nil, List.length_cons, List.length_nil, List.set_cons_zero, List.set_cons_succ, List.getElem?_cons_zero, List.getElem?_cons_succ, List.getElem?_nil, Option.bind_some, Option.bind_none, Option.join_some, Option.join_none, Option.map_some, Bool.and_true, Bool.true_and, Bool.and_false, Bool.false_and, Bool.not_true, Bool.not_false, Bool.false_eq_true, Bool.true_eq_false, if_true, if_false, ite_true, ite_false, List.cons_append, List.nil_append, List.append_nil, Nat.zero_add, Nat.reduceAdd, Nat.reduceSub, Nat.reduceLeDiff, Int.reduceNeg, List.replicate_succ, List.replicate_zero, true_and, and_true, List.length_map, and_pu, or_pu, tand_pu, tor_pu, idx_0, idx_1, if_tt, if_ff, dSl, dNo, dSo, slD, imm_cD, imm_wD, intsD, sAppIx, sExt, sApp, lsD, sFor, seq_sD, eq_str, ne_str, eq_int, ne_int, nc0, nc1, nc2, nc3, nc4, decide_true, decide_false, ne_eq, not_true_eq_false, Int.reduceEq, not_false_eq_true, Bool.or_false, Bool.or_true, Bool.false_or, Bool.true_or, List.all_cons, List.all_nil, id_eq]
theorem dand {p q : Prop} [Decidable p] [Decidable q] (h1 : p) (h2 : q) : (decide p && decide q) = true := by simp [h1, h2]
theorem e_is_walls {w : Int × Int} (h : -1000000000 ≤ w.1 ∧ w.1 ≤ w.2 ∧ w.2 ≤ 1000000000) : F_is_walls [wD w] = pu (.bl true) := by
  unfold F_is_walls g_is_walls wD
  simp (decide := true) (implicitDefEqProofs := false) only [bodyD, env0, sSeq, thenF, sIf, sRet, sRetN, sRetV, sSet, sSetN, sExpr, sNil, sAsg, sPar, resD, dV, dC, dOp, dUn, dNot, dAnd, dOr, dNotT, dAndT, dOrT, dB, dIf, dChain, dTup, dCons, dNil, dLst, dLstB, dCB, dCall, dCallK, dImm, dYes, a1, a2, bTup, bLst, bCons, bNil, bName, fSeq, seqOf, fRng1, fRng2, fEn, fZip, zip2, one1, ints1, ints2, asB, asI, negD, addD, subD, modD, ltD, gtD, geD, leD, isND, isnND, intOp, intOpC, lenD_lst, lenD_tup, lenD_frz, len_sD, tupleD, listD, absD, max2D, min2D, allD, isiD, tyN, isiT_tt, isiT_ii, isiT_ib, idxD, lsA, gw, gt, opt_some, opt_none, bd_pu, bd_fl, bd_bd, chk_true, chk_tt, D.imm, D.imms, D.isN, List.map_cons, List.map_nil, List.length_cons, List.length_nil, List.set_cons_zero, List.set_cons_succ, List.getElem?_cons_zero, List.getElem?_cons_succ, List.getElem?_nil, Option.bind_some, Option.bind_none, Option.join_some, Option.join_none, Option.map_some, Bool.and_true, Bool.true_and, Bool.and_false, Bool.false_and, Bool.not_true, Bool.not_false, Bool.false_eq_true, Bool.true_eq_false, if_true, if_false, ite_true, ite_false, List.cons_append, List.nil_append, List.append_nil, Nat.zero_add, Nat.reduceAdd, Nat.reduceSub, Nat.reduceLeDiff, Int.reduceNeg, List.replicate_succ, List.replicate_zero, true_and, and_true, List.length_map, and_pu, or_pu, tand_pu, tor_pu, idx_0, idx_1, if_tt, if_ff, dSl, dNo, dSo, slD, imm_cD, imm_wD, intsD, sAppIx, sExt, sApp, lsD, sFor, seq_sD, eq_str, ne_str, eq_int, ne_int, nc0, nc1, nc2, nc3, nc4, decide_true, decide_false, ne_eq, not_true_eq_false, Int.reduceEq, not_false_eq_true, Bool.or_false, Bool.or_true, Bool.false_or, Bool.true_or, List.all_cons, List.all_nil, id_eq, dLc, wipeE]
  rw [lc_map (fun _ => .bl true) [D.int w.1, D.int w.2] (small (show 2 ≤ 1000 by decide)) (fun d q => by
    obtain ⟨v, rfl, h1, h2⟩ : ∃ v, d = .int v ∧ -1000000000 ≤ v ∧ v ≤ 1000000000 := by
      simp at q
      rcases q with rfl | rfl
      · exact ⟨_, rfl, h.1, by omega⟩
      · exact ⟨_, rfl, by omega, h.2.2⟩
    refine ⟨_, by simp (decide := true) (implicitDefEqProofs := false) only [bodyD, env0, sSeq, thenF, sIf, sRet, sRetN, sRetV, sSet, sSetN, sExpr, sNil, sAsg, sPar, resD, dV, dC, dOp, dUn, dNot, dAnd, dOr, dNotT, dAndT, dOrT, dB, dIf, dChain, dTup, dCons, dNil, dLst, dLstB, dCB, dCall, dCallK, dImm, dYes, a1, a2, bTup, bLst, bCons, bNil, bName, fSeq, seqOf, fRng1, fRng2, fEn, fZip, zip2, one1, ints1, ints2, asB, asI, negD, addD, subD, modD, ltD, gtD, geD, leD, isND, isnND, intOp, intOpC, lenD_lst, lenD_tup, lenD_frz, len_sD, tupleD, listD, absD, max2D, min2D, allD, isiD, tyN, isiT_tt, isiT_ii, isiT_ib, idxD, lsA, gw, gt, opt_some, opt_none, bd_pu, bd_fl, bd_bd, chk_true, chk_tt, D.imm, D.imms, D.isN, List.map_cons, List.map_nil, List.length_cons, List.length_nil, List.set_cons_zero, List.set_cons_succ, List.getElem?_cons_zero, List.getElem?_cons_succ, List.getElem?_nil, Option.bind_some, Option.bind_none, Option.join_some, Option.join_none, Option.map_some, Bool.and_true, Bool.true_and, Bool.and_false, Bool.false_and, Bool.not_true, Bool.not_false, Bool.false_eq_true, Bool.true_eq_false, if_true, if_false, ite_true, ite_false, List.cons_append, List.nil_append, List.append_nil, Nat.zero_add, Nat.reduceAdd, Nat.reduceSub, Nat.reduceLeDiff, Int.reduceNeg, List.replicate_succ, List.replicate_zero, true_and, and_true, List.length_map, and_pu, or_pu, tand_pu, tor_pu, idx_0, idx_1, if_tt, if_ff, dSl, dNo, dSo, slD, imm_cD, imm_wD, intsD, sAppIx, sExt, sApp, lsD, sFor, seq_sD, eq_str, ne_str, eq_int, ne_int, nc0, nc1, nc2, nc3, nc4, decide_true, decide_false, ne_eq, not_true_eq_false, Int.reduceEq, not_false_eq_true, Bool.or_false, Bool.or_true, Bool.false_or, Bool.true_or, List.all_cons, List.all_nil, id_eq, chk_pos]; rfl, ?_, rfl⟩
    simp (decide := true) (implicitDefEqProofs := false) only [bodyD, env0, sSeq, thenF, sIf, sRet, sRetN, sRetV, sSet, sSetN, sExpr, sNil, sAsg, sPar, resD, dV, dC, dOp, dUn, dNot, dAnd, dOr, dNotT, dAndT, dOrT, dB, dIf, dChain, dTup, dCons, dNil, dLst, dLstB, dCB, dCall, dCallK, dImm, dYes, a1, a2, bTup, bLst, bCons, bNil, bName, fSeq, seqOf, fRng1, fRng2, fEn, fZip, zip2, one1, ints1, ints2, asB, asI, negD, addD, subD, modD, ltD, gtD, geD, leD, isND, isnND, intOp, intOpC, lenD_lst, lenD_tup, lenD_frz, len_sD, tupleD, listD, absD, max2D, min2D, allD, isiD, tyN, isiT_tt, isiT_ii, isiT_ib, idxD, lsA, gw, gt, opt_some, opt_none, bd_pu, bd_fl, bd_bd, chk_true, chk_tt, D.imm, D.imms, D.isN, List.map_cons, List.map_nil, List.length_cons, List.length_nil, List.set_cons_zero, List.set_cons_succ, List.getElem?_cons_zero, List.getElem?_cons_succ, List.getElem?_nil, Option.bind_some, Option.bind_none, Option.join_some, Option.join_none, Option.map_some, Bool.and_true, Bool.true_and, Bool.and_false, Bool.false_and, Bool.not_true, Bool.not_false, Bool.false_eq_true, Bool.true_eq_false, if_true, if_false, ite_true, ite_false, List.cons_append, List.nil_append, List.append_nil, Nat.zero_add, Nat.reduceAdd, Nat.reduceSub, Nat.reduceLeDiff, Int.reduceNeg, List.replicate_succ, List.replicate_zero, true_and, and_true, List.length_map, and_pu, or_pu, tand_pu, tor_pu, idx_0, idx_1, if_tt, if_ff, dSl, dNo, dSo, slD, imm_cD, imm_wD, intsD, sAppIx, sExt, sApp, lsD, sFor, seq_sD, eq_str, ne_str, eq_int, ne_int, nc0, nc1, nc2, nc3, nc4, decide_true, decide_false, ne_eq, not_true_eq_false, Int.reduceEq, not_false_eq_true, Bool.or_false, Bool.or_true, Bool.false_or, Bool.true_or, List.all_cons, List.all_nil, id_eq, e_is_between]
    rw [dand (by omega) (by omega)])]
  simp (decide := true) (implicitDefEqProofs := false) only [bodyD, env0, sSeq, thenF, sIf, sRet, sRetN, sRetV, sSet, sSetN, sExpr, sNil, sAsg, sPar, resD, dV, dC, dOp, dUn, dNot, dAnd, dOr, dNotT, dAndT, dOrT, dB, dIf, dChain, dTup, dCons, dNil, dLst, dLstB, dCB, dCall, dCallK, dImm, dYes, a1, a2, bTup, bLst, bCons, bNil, bName, fSeq, seqOf, fRng1, fRng2, fEn, fZip, zip2, one1, ints1, ints2, asB, asI, negD, addD, subD, modD, ltD, gtD, geD, leD, isND, isnND, intOp, intOpC, lenD_lst, lenD_tup, lenD_frz, len_sD, tupleD, listD, absD, max2D, min2D, allD, isiD, tyN, isiT_tt, isiT_ii, isiT_ib, idxD, lsA, gw, gt, opt_some, opt_none, bd_pu, bd_fl, bd_bd, chk_true, chk_tt, D.imm, D.imms, D.isN, List.map_cons, List.map_nil, List.length_cons, List.length_nil, List.set_cons_zero, List.set_cons_succ, List.getElem?_cons_zero, List.getElem?_cons_succ, List.getElem?_nil, Option.bind_some, Option.bind_none, Option.join_some, Option.join_none, Option.map_some, Bool.and_true, Bool.true_and, Bool.and_false, Bool.false_and, Bool.not_true, Bool.not_false, Bool.false_eq_true, Bool.true_eq_false, if_true, if_false, ite_true, ite_false, List.cons_append, List.nil_append, List.append_nil, Nat.zero_add, Nat.reduceAdd, Nat.reduceSub, Nat.reduceLeDiff, Int.reduceNeg, List.replicate_succ, List.replicate_zero, true_and, and_true, List.length_map, and_pu, or_pu, tand_pu, tor_pu, idx_0, idx_1, if_tt, if_ff, dSl, dNo, dSo, slD, imm_cD, imm_wD, intsD, sAppIx, sExt, sApp, lsD, sFor, seq_sD, eq_str, ne_str, eq_int, ne_int, nc0, nc1, nc2, nc3, nc4, decide_true, decide_false, ne_eq, not_true_eq_false, Int.reduceEq, not_false_eq_true, Bool.or_false, Bool.or_true, Bool.false_or, Bool.true_or, List.all_cons, List.all_nil, id_eq, bls, leInts]
  simp [h.2.1]
theorem e_is_coupling {c : Cp} {n : Nat} (h : c.i < c.j ∧ c.j < n ∧ -10000000000 ≤ c.lo ∧ c.lo < c.hi ∧ c.hi ≤ 10000000000) : F_is_coupling [cD c, .int n] = pu (.bl true) := by
  unfold F_is_coupling g_is_coupling cD
  obtain ⟨h1, h2, h3, h4, h5⟩ := h
  have b1 : (decide ((0 : Int) ≤ (c.i : Int)) && decide ((c.i : Int) ≤ (n : Int) - 1)) = true := dand (by omega) (by omega)
  have b2 : (decide ((0 : Int) ≤ (c.j : Int)) && decide ((c.j : Int) ≤ (n : Int) - 1)) = true := dand (by omega) (by omega)
  have b3 : (decide ((-10000000000 : Int) ≤ c.lo) && decide (c.lo ≤ 10000000000)) = true := dand (by omega) (by omega)
  have b4 : (decide ((-10000000000 : Int) ≤ c.hi) && decide (c.hi ≤ 10000000000)) = true := dand (by omega) (by omega)
  have b5 : decide ((c.j : Int) ≤ c.i) = false := decide_eq_false (by omega)
  have b6 : decide (c.lo < c.hi) = true := decide_eq_true h4
  simp (decide := true) (implicitDefEqProofs := false) only [bodyD, env0, sSeq, thenF, sIf, sRet, sRetN, sRetV, sSet, sSetN, sExpr, sNil, sAsg, sPar, resD, dV, dC, dOp, dUn, dNot, dAnd, dOr, dNotT, dAndT, dOrT, dB, dIf, dChain, dTup, dCons, dNil, dLst, dLstB, dCB, dCall, dCallK, dImm, dYes, a1, a2, bTup, bLst, bCons, bNil, bName, fSeq, seqOf, fRng1, fRng2, fEn, fZip, zip2, one1, ints1, ints2, asB, asI, negD, addD, subD, modD, ltD, gtD, geD, leD, isND, isnND, intOp, intOpC, lenD_lst, lenD_tup, lenD_frz, len_sD, tupleD, listD, absD, max2D, min2D, allD, isiD, tyN, isiT_tt, isiT_ii, isiT_ib, idxD, lsA, gw, gt, opt_some, opt_none, bd_pu, bd_fl, bd_bd, chk_true, chk_tt, D.imm, D.imms, D.isN, List.map_cons, List.map_nil, List.length_cons, List.length_nil, List.set_cons_zero, List.set_cons_succ, List.getElem?_cons_zero, List.getElem?_cons_succ, List.getElem?_nil, Option.bind_some, Option.bind_none, Option.join_some, Option.join_none, Option.map_some, Bool.and_true, Bool.true_and, Bool.and_false, Bool.false_and, Bool.not_true, Bool.not_false, Bool.false_eq_true, Bool.true_eq_false, if_true, if_false, ite_true, ite_false, List.cons_append, List.nil_append, List.append_nil, Nat.zero_add, Nat.reduceAdd, Nat.reduceSub, Nat.reduceLeDiff, Int.reduceNeg, List.replicate_succ, List.replicate_zero, true_and, and_true, List.length_map, and_pu, or_pu, tand_pu, tor_pu, idx_0, idx_1, if_tt, if_ff, dSl, dNo, dSo, slD, imm_cD, imm_wD, intsD, sAppIx, sExt, sApp, lsD, sFor, seq_sD, eq_str, ne_str, eq_int, ne_int, nc0, nc1, nc2, nc3, nc4, decide_true, decide_false, ne_eq, not_true_eq_false, Int.reduceEq, not_false_eq_true, Bool.or_false, Bool.or_true, Bool.false_or, Bool.true_or, List.all_cons, List.all_nil, id_eq, e_is_between, b1, b2, b3, b4, b5, b6]
theorem getD_at {α : Type} {l : List Int} {k : Nat} (h : k < l.length) : l[k]? = some (l.getD k 0) := by
  rw [List.getElem?_eq_getElem h, List.getD_eq_getElem?_getD, List.getElem?_eq_getElem h]
  rfl
theorem idx_int {l : List Int} {k : Nat} (h : k < l.length) : idxL (l.map D.int) (k : Int) = pu (.int (l.getD k 0)) := by
  refine idx_nat ?_
  rw [List.getElem?_map, getD_at (α := Int) h]
  rfl
theorem getD_map {l : List Int} {k : Nat} (f : Int → Int) (h : k < l.length) : (l.map f).getD k 0 = f (l.getD k 0) := by
  have e := getD_at (α := Int) (l := l.map f) (k := k) (by simpa using h)
  rw [List.getElem?_map, getD_at (α := Int) h] at e
  exact (Option.some.inj e).symm
theorem cut2 (a b c d : D) : DL.cut [a, b, c, d] none (some 2) = [a, b] := rfl
theorem imms_int : ∀ (l : List Int), D.imms (l.map D.int) = true
  | [] => rfl
  | a :: l => by simp only [List.map_cons, D.imms, D.imm, imms_int l]; rfl
theorem imms_cD : ∀ (l : List Cp), D.imms (l.map cD) = true
  | [] => rfl
  | a :: l => by simp only [List.map_cons, D.imms, imms_cD l]; rfl
theorem imms_wD : ∀ (l : List (Int × Int)), D.imms (l.map wD) = true
  | [] => rfl
  | a :: l => by simp only [List.map_cons, D.imms, imms_wD l]; rfl
theorem enD_at {α : Type} (f : α → D) (l : List α) {i : Nat} {d : D} (h : (enD 0 (l.map f))[i]? = some d) : ∃ a, l[i]? = some a ∧ d = .tup [.int i, f a] := by
  have hl : i < l.length := by
    have := (List.getElem?_eq_some_iff.mp h).1
    rw [enD_len, List.length_map] at this
    exact this
  have e := enD_get (l.map f) 0 i (f l[i]) (by rw [List.getElem?_map, List.getElem?_eq_getElem hl]; rfl)
  rw [e, Nat.zero_add] at h
  exact ⟨l[i], List.getElem?_eq_getElem hl, (Option.some.inj h).symm⟩
def relab (one other : Int) (v : Int) : Int := if v = other then one else v
/-- labels alike: on one side of every cut that spares the first i couplings -/
def Lab (cs : List Cp) (n i : Nat) (ls : List Int) : Prop := ls.length = n ∧ ∀ s : Nat → Bool, (∀ (l : Nat) (d : Cp), l < i → cs[l]? = some d → s d.i = s d.j) → ∀ p q, p < n → q < n → ls.getD p 0 = ls.getD q 0 → s p = s q
theorem Lab.next {cs : List Cp} {n i : Nat} {ls : List Int} {c : Cp} (h : Lab cs n i ls) (hc : cs[i]? = some c) (hi : c.i < n) (hj : c.j < n) : Lab cs n (i + 1) (ls.map (relab (ls.getD c.i 0) (ls.getD c.j 0))) := by
  refine ⟨by rw [List.length_map]; exact h.1, fun s hs p q hp hq e => ?_⟩
  have k := h.2 s (fun l d hl hd => hs l d (by omega) hd)
  have sc := hs i c (by omega) hc
  rw [getD_map _ (h.1 ▸ hp), getD_map _ (h.1 ▸ hq)] at e
  unfold relab at e
  by_cases h1 : ls.getD p 0 = ls.getD c.j 0
  · by_cases h2 : ls.getD q 0 = ls.getD c.j 0
    · exact k p q hp hq (h1.trans h2.symm)
    · rw [if_pos h1, if_neg h2] at e
      exact (k p c.j hp hj h1).trans (sc.symm.trans (k c.i q hi hq e))
  · by_cases h2 : ls.getD q 0 = ls.getD c.j 0
    · rw [if_neg h1, if_pos h2] at e
      exact (k p c.i hp hi e).trans (sc.trans (k q c.j hq hj h2).symm)
    · rw [if_neg h1, if_neg h2] at e
      exact k p q hp hq e
theorem e_couplings {ws : List (Int × Int)} {cs : List Cp} (V : VY ws cs) : F_couplings_problem [.tup (cs.map cD), .int (ws.length : Nat)] = pu .non := by
  unfold F_couplings_problem g_couplings_problem
  have hn : ((ws.length : Nat) : Int) ≤ 16777216 ∧ (0 : Int) ≤ (ws.length : Nat) := ⟨by have := V.n40; omega, by omega⟩
  have hr : rngD 0 ((ws.length : Nat) : Int).toNat = ((List.range ws.length).map fun i => ((i : Nat) : Int)).map D.int := by
    unfold rngD
    rw [List.map_map]
    simp
  simp (decide := true) (implicitDefEqProofs := false) only [bodyD, env0, sSeq, thenF, sIf, sRet, sRetN, sRetV, sSet, sSetN, sExpr, sNil, sAsg, sPar, resD, dV, dC, dOp, dUn, dNot, dAnd, dOr, dNotT, dAndT, dOrT, dB, dIf, dChain, dTup, dCons, dNil, dLst, dLstB, dCB, dCall, dCallK, dImm, dYes, a1, a2, bTup, bLst, bCons, bNil, bName, fSeq, seqOf, fRng1, fRng2, fEn, fZip, zip2, one1, ints1, ints2, asB, asI, negD, addD, subD, modD, ltD, gtD, geD, leD, isND, isnND, intOp, intOpC, lenD_lst, lenD_tup, lenD_frz, len_sD, tupleD, listD, absD, max2D, min2D, allD, isiD, tyN, isiT_tt, isiT_ii, isiT_ib, idxD, lsA, gw, gt, opt_some, opt_none, bd_pu, bd_fl, bd_bd, chk_true, chk_tt, D.imm, D.imms, D.isN, List.map_cons, List.map_nil, List.length_cons, List.length_nil, List.set_cons_zero, List.set_cons_succ, List.getElem?_cons_zero, List.getElem?_cons_succ, List.getElem?_nil, Option.bind_some, Option.bind_none, Option.join_some, Option.join_none, Option.map_some, Bool.and_true, Bool.true_and, Bool.and_false, Bool.false_and, Bool.not_true, Bool.not_false, Bool.false_eq_true, Bool.true_eq_false, if_true, if_false, ite_true, ite_false, List.cons_append, List.nil_append, List.append_nil, Nat.zero_add, Nat.reduceAdd, Nat.reduceSub, Nat.reduceLeDiff, Int.reduceNeg, List.replicate_succ, List.replicate_zero, true_and, and_true, List.length_map, and_pu, or_pu, tand_pu, tor_pu, idx_0, idx_1, if_tt, if_ff, dSl, dNo, dSo, slD, imm_cD, imm_wD, intsD, sAppIx, sExt, sApp, lsD, sFor, seq_sD, eq_str, ne_str, eq_int, ne_int, nc0, nc1, nc2, nc3, nc4, decide_true, decide_false, ne_eq, not_true_eq_false, Int.reduceEq, not_false_eq_true, Bool.or_false, Bool.or_true, Bool.false_or, Bool.true_or, List.all_cons, List.all_nil, id_eq, listRng, chk_pos hn, hr, sFor, imms_cD]
  refine bd_for (fun i δ => ∃ (ls : List Int) (a b : Int) (x y z w u : Option D), δ = [some (D.tup (cs.map cD)), some (D.int (ws.length : Nat)), some (.lst (ls.map D.int)), some (.tup [.int a, .int b]), x, y, z, w, u] ∧ Lab cs ws.length i ls ∧ ∀ c : Cp, cs[i]? = some c → a < c.i ∨ (a = c.i ∧ b < c.j)) ?_ ?_ ?_
  · refine ⟨_, -1, -1, none, none, none, none, none, rfl, ⟨by simp, fun s _ p q hp hq e => ?_⟩, fun c _ => .inl (by omega)⟩
    have g : ∀ {p}, p < ws.length → ((List.range ws.length).map fun i => ((i : Nat) : Int)).getD p 0 = p := fun {p} hp => by simp [List.getD_eq_getElem?_getD, hp]
    rw [g hp, g hq] at e
    rw [show p = q by omega]
  · rintro i d δ hd ⟨ls, a, b, x, y, z, w, u, rfl, L, bf⟩
    obtain ⟨c, hc, rfl⟩ := enD_at cD cs hd
    obtain ⟨c1, c2, c3⟩ := V.cok c (List.mem_of_getElem? hc)
    have hi : c.i < ws.length := by omega
    have e1 : leInts [(c.i : Int), c.j] [a, b] = false := by
      unfold leInts
      rcases bf c hc with q | ⟨q, q2⟩
      · rw [if_neg (by omega)]
        exact decide_eq_false (by omega)
      · rw [if_pos q.symm]
        unfold leInts
        rw [if_neg (by omega)]
        exact decide_eq_false (by omega)
    have e2 : decide (ls.getD c.i 0 = ls.getD c.j 0) = false := by
      refine decide_eq_false fun q => ?_
      obtain ⟨s, s1, s2⟩ := V.cut i c hc
      exact s1 (L.2 s (fun l d hl hd => s2 l d hd (by omega)) _ _ hi c2 q)
    simp (decide := true) (implicitDefEqProofs := false) only [bodyD, env0, sSeq, thenF, sIf, sRet, sRetN, sRetV, sSet, sSetN, sExpr, sNil, sAsg, sPar, resD, dV, dC, dOp, dUn, dNot, dAnd, dOr, dNotT, dAndT, dOrT, dB, dIf, dChain, dTup, dCons, dNil, dLst, dLstB, dCB, dCall, dCallK, dImm, dYes, a1, a2, bTup, bLst, bCons, bNil, bName, fSeq, seqOf, fRng1, fRng2, fEn, fZip, zip2, one1, ints1, ints2, asB, asI, negD, addD, subD, modD, ltD, gtD, geD, leD, isND, isnND, intOp, intOpC, lenD_lst, lenD_tup, lenD_frz, len_sD, tupleD, listD, absD, max2D, min2D, allD, isiD, tyN, isiT_tt, isiT_ii, isiT_ib, idxD, lsA, gw, gt, opt_some, opt_none, bd_pu, bd_fl, bd_bd, chk_true, chk_tt, D.imm, D.imms, D.isN, List.map_cons, List.map_nil, List.length_cons, List.length_nil, List.set_cons_zero, List.set_cons_succ, List.getElem?_cons_zero, List.getElem?_cons_succ, List.getElem?_nil, Option.bind_some, Option.bind_none, Option.join_some, Option.join_none, Option.map_some, Bool.and_true, Bool.true_and, Bool.and_false, Bool.false_and, Bool.not_true, Bool.not_false, Bool.false_eq_true, Bool.true_eq_false, if_true, if_false, ite_true, ite_false, List.cons_append, List.nil_append, List.append_nil, Nat.zero_add, Nat.reduceAdd, Nat.reduceSub, Nat.reduceLeDiff, Int.reduceNeg, List.replicate_succ, List.replicate_zero, true_and, and_true, List.length_map, and_pu, or_pu, tand_pu, tor_pu, idx_0, idx_1, if_tt, if_ff, dSl, dNo, dSo, slD, imm_cD, imm_wD, intsD, sAppIx, sExt, sApp, lsD, sFor, seq_sD, eq_str, ne_str, eq_int, ne_int, nc0, nc1, nc2, nc3, nc4, decide_true, decide_false, ne_eq, not_true_eq_false, Int.reduceEq, not_false_eq_true, Bool.or_false, Bool.or_true, Bool.false_or, Bool.true_or, List.all_cons, List.all_nil, id_eq, e_is_coupling ⟨c1, c2, c3⟩]
    simp (decide := true) (implicitDefEqProofs := false) only [bodyD, env0, sSeq, thenF, sIf, sRet, sRetN, sRetV, sSet, sSetN, sExpr, sNil, sAsg, sPar, resD, dV, dC, dOp, dUn, dNot, dAnd, dOr, dNotT, dAndT, dOrT, dB, dIf, dChain, dTup, dCons, dNil, dLst, dLstB, dCB, dCall, dCallK, dImm, dYes, a1, a2, bTup, bLst, bCons, bNil, bName, fSeq, seqOf, fRng1, fRng2, fEn, fZip, zip2, one1, ints1, ints2, asB, asI, negD, addD, subD, modD, ltD, gtD, geD, leD, isND, isnND, intOp, intOpC, lenD_lst, lenD_tup, lenD_frz, len_sD, tupleD, listD, absD, max2D, min2D, allD, isiD, tyN, isiT_tt, isiT_ii, isiT_ib, idxD, lsA, gw, gt, opt_some, opt_none, bd_pu, bd_fl, bd_bd, chk_true, chk_tt, D.imm, D.imms, D.isN, List.map_cons, List.map_nil, List.length_cons, List.length_nil, List.set_cons_zero, List.set_cons_succ, List.getElem?_cons_zero, List.getElem?_cons_succ, List.getElem?_nil, Option.bind_some, Option.bind_none, Option.join_some, Option.join_none, Option.map_some, Bool.and_true, Bool.true_and, Bool.and_false, Bool.false_and, Bool.not_true, Bool.not_false, Bool.false_eq_true, Bool.true_eq_false, if_true, if_false, ite_true, ite_false, List.cons_append, List.nil_append, List.append_nil, Nat.zero_add, Nat.reduceAdd, Nat.reduceSub, Nat.reduceLeDiff, Int.reduceNeg, List.replicate_succ, List.replicate_zero, true_and, and_true, List.length_map, and_pu, or_pu, tand_pu, tor_pu, idx_0, idx_1, if_tt, if_ff, dSl, dNo, dSo, slD, imm_cD, imm_wD, intsD, sAppIx, sExt, sApp, lsD, sFor, seq_sD, eq_str, ne_str, eq_int, ne_int, nc0, nc1, nc2, nc3, nc4, decide_true, decide_false, ne_eq, not_true_eq_false, Int.reduceEq, not_false_eq_true, Bool.or_false, Bool.or_true, Bool.false_or, Bool.true_or, List.all_cons, List.all_nil, id_eq, cD, cut2, e1, idx_int (l := ls) (k := c.i) (by rw [L.1]; exact hi), idx_int (l := ls) (k := c.j) (by rw [L.1]; exact c2), eq_int, e2, dLc, wipeE, imms_int]
    rw [lc_map (fun d => match d with | .int v => .int (relab (ls.getD c.i 0) (ls.getD c.j 0) v) | d => d) (ls.map D.int) (by rw [List.length_map, L.1]; exact small (by have := V.n40; omega)) (fun d q => by
      obtain ⟨v, _, rfl⟩ := List.mem_map.mp q
      refine ⟨_, by simp (decide := true) (implicitDefEqProofs := false) only [bodyD, env0, sSeq, thenF, sIf, sRet, sRetN, sRetV, sSet, sSetN, sExpr, sNil, sAsg, sPar, resD, dV, dC, dOp, dUn, dNot, dAnd, dOr, dNotT, dAndT, dOrT, dB, dIf, dChain, dTup, dCons, dNil, dLst, dLstB, dCB, dCall, dCallK, dImm, dYes, a1, a2, bTup, bLst, bCons, bNil, bName, fSeq, seqOf, fRng1, fRng2, fEn, fZip, zip2, one1, ints1, ints2, asB, asI, negD, addD, subD, modD, ltD, gtD, geD, leD, isND, isnND, intOp, intOpC, lenD_lst, lenD_tup, lenD_frz, len_sD, tupleD, listD, absD, max2D, min2D, allD, isiD, tyN, isiT_tt, isiT_ii, isiT_ib, idxD, lsA, gw, gt, opt_some, opt_none, bd_pu, bd_fl, bd_bd, chk_true, chk_tt, D.imm, D.imms, D.isN, List.map_cons, List.map_nil, List.length_cons, List.length_nil, List.set_cons_zero, List.set_cons_succ, List.getElem?_cons_zero, List.getElem?_cons_succ, List.getElem?_nil, Option.bind_some, Option.bind_none, Option.join_some, Option.join_none, Option.map_some, Bool.and_true, Bool.true_and, Bool.and_false, Bool.false_and, Bool.not_true, Bool.not_false, Bool.false_eq_true, Bool.true_eq_false, if_true, if_false, ite_true, ite_false, List.cons_append, List.nil_append, List.append_nil, Nat.zero_add, Nat.reduceAdd, Nat.reduceSub, Nat.reduceLeDiff, Int.reduceNeg, List.replicate_succ, List.replicate_zero, true_and, and_true, List.length_map, and_pu, or_pu, tand_pu, tor_pu, idx_0, idx_1, if_tt, if_ff, dSl, dNo, dSo, slD, imm_cD, imm_wD, intsD, sAppIx, sExt, sApp, lsD, sFor, seq_sD, eq_str, ne_str, eq_int, ne_int, nc0, nc1, nc2, nc3, nc4, decide_true, decide_false, ne_eq, not_true_eq_false, Int.reduceEq, not_false_eq_true, Bool.or_false, Bool.or_true, Bool.false_or, Bool.true_or, List.all_cons, List.all_nil, id_eq]; rfl, ?_, rfl⟩
      simp (decide := true) (implicitDefEqProofs := false) only [bodyD, env0, sSeq, thenF, sIf, sRet, sRetN, sRetV, sSet, sSetN, sExpr, sNil, sAsg, sPar, resD, dV, dC, dOp, dUn, dNot, dAnd, dOr, dNotT, dAndT, dOrT, dB, dIf, dChain, dTup, dCons, dNil, dLst, dLstB, dCB, dCall, dCallK, dImm, dYes, a1, a2, bTup, bLst, bCons, bNil, bName, fSeq, seqOf, fRng1, fRng2, fEn, fZip, zip2, one1, ints1, ints2, asB, asI, negD, addD, subD, modD, ltD, gtD, geD, leD, isND, isnND, intOp, intOpC, lenD_lst, lenD_tup, lenD_frz, len_sD, tupleD, listD, absD, max2D, min2D, allD, isiD, tyN, isiT_tt, isiT_ii, isiT_ib, idxD, lsA, gw, gt, opt_some, opt_none, bd_pu, bd_fl, bd_bd, chk_true, chk_tt, D.imm, D.imms, D.isN, List.map_cons, List.map_nil, List.length_cons, List.length_nil, List.set_cons_zero, List.set_cons_succ, List.getElem?_cons_zero, List.getElem?_cons_succ, List.getElem?_nil, Option.bind_some, Option.bind_none, Option.join_some, Option.join_none, Option.map_some, Bool.and_true, Bool.true_and, Bool.and_false, Bool.false_and, Bool.not_true, Bool.not_false, Bool.false_eq_true, Bool.true_eq_false, if_true, if_false, ite_true, ite_false, List.cons_append, List.nil_append, List.append_nil, Nat.zero_add, Nat.reduceAdd, Nat.reduceSub, Nat.reduceLeDiff, Int.reduceNeg, List.replicate_succ, List.replicate_zero, true_and, and_true, List.length_map, and_pu, or_pu, tand_pu, tor_pu, idx_0, idx_1, if_tt, if_ff, dSl, dNo, dSo, slD, imm_cD, imm_wD, intsD, sAppIx, sExt, sApp, lsD, sFor, seq_sD, eq_str, ne_str, eq_int, ne_int, nc0, nc1, nc2, nc3, nc4, decide_true, decide_false, ne_eq, not_true_eq_false, Int.reduceEq, not_false_eq_true, Bool.or_false, Bool.or_true, Bool.false_or, Bool.true_or, List.all_cons, List.all_nil, id_eq, eq_int]
      unfold relab
      by_cases hv : v = ls.getD c.j 0
      · rw [if_pos (decide_eq_true hv), if_pos hv]
      · rw [if_neg (by simpa using hv), if_neg hv])]
    simp (decide := true) (implicitDefEqProofs := false) only [bodyD, env0, sSeq, thenF, sIf, sRet, sRetN, sRetV, sSet, sSetN, sExpr, sNil, sAsg, sPar, resD, dV, dC, dOp, dUn, dNot, dAnd, dOr, dNotT, dAndT, dOrT, dB, dIf, dChain, dTup, dCons, dNil, dLst, dLstB, dCB, dCall, dCallK, dImm, dYes, a1, a2, bTup, bLst, bCons, bNil, bName, fSeq, seqOf, fRng1, fRng2, fEn, fZip, zip2, one1, ints1, ints2, asB, asI, negD, addD, subD, modD, ltD, gtD, geD, leD, isND, isnND, intOp, intOpC, lenD_lst, lenD_tup, lenD_frz, len_sD, tupleD, listD, absD, max2D, min2D, allD, isiD, tyN, isiT_tt, isiT_ii, isiT_ib, idxD, lsA, gw, gt, opt_some, opt_none, bd_pu, bd_fl, bd_bd, chk_true, chk_tt, D.imm, D.imms, D.isN, List.map_cons, List.map_nil, List.length_cons, List.length_nil, List.set_cons_zero, List.set_cons_succ, List.getElem?_cons_zero, List.getElem?_cons_succ, List.getElem?_nil, Option.bind_some, Option.bind_none, Option.join_some, Option.join_none, Option.map_some, Bool.and_true, Bool.true_and, Bool.and_false, Bool.false_and, Bool.not_true, Bool.not_false, Bool.false_eq_true, Bool.true_eq_false, if_true, if_false, ite_true, ite_false, List.cons_append, List.nil_append, List.append_nil, Nat.zero_add, Nat.reduceAdd, Nat.reduceSub, Nat.reduceLeDiff, Int.reduceNeg, List.replicate_succ, List.replicate_zero, true_and, and_true, List.length_map, and_pu, or_pu, tand_pu, tor_pu, idx_0, idx_1, if_tt, if_ff, dSl, dNo, dSo, slD, imm_cD, imm_wD, intsD, sAppIx, sExt, sApp, lsD, sFor, seq_sD, eq_str, ne_str, eq_int, ne_int, nc0, nc1, nc2, nc3, nc4, decide_true, decide_false, ne_eq, not_true_eq_false, Int.reduceEq, not_false_eq_true, Bool.or_false, Bool.or_true, Bool.false_or, Bool.true_or, List.all_cons, List.all_nil, id_eq]
    have em : (ls.map D.int).map (fun d => match d with | .int v => .int (relab (ls.getD c.i 0) (ls.getD c.j 0) v) | d => d) = (ls.map (relab (ls.getD c.i 0) (ls.getD c.j 0))).map D.int := by
      rw [List.map_map, List.map_map]
      rfl
    rw [em]
    refine ⟨_, rfl, _, _, _, _, _, _, _, _, rfl, L.next hc hi c2, fun c' hc' => ?_⟩
    · have := List.pairwise_iff_getElem.mp V.srt i (i + 1) (List.getElem?_eq_some_iff.mp hc).1 (List.getElem?_eq_some_iff.mp hc').1 (by omega)
      rw [(List.getElem?_eq_some_iff.mp hc).2, (List.getElem?_eq_some_iff.mp hc').2] at this
      omega
  · rintro δ' ⟨ls, a, b, x, y, z, w, u, rfl, _⟩
    simp (decide := true) (implicitDefEqProofs := false) only [bodyD, env0, sSeq, thenF, sIf, sRet, sRetN, sRetV, sSet, sSetN, sExpr, sNil, sAsg, sPar, resD, dV, dC, dOp, dUn, dNot, dAnd, dOr, dNotT, dAndT, dOrT, dB, dIf, dChain, dTup, dCons, dNil, dLst, dLstB, dCB, dCall, dCallK, dImm, dYes, a1, a2, bTup, bLst, bCons, bNil, bName, fSeq, seqOf, fRng1, fRng2, fEn, fZip, zip2, one1, ints1, ints2, asB, asI, negD, addD, subD, modD, ltD, gtD, geD, leD, isND, isnND, intOp, intOpC, lenD_lst, lenD_tup, lenD_frz, len_sD, tupleD, listD, absD, max2D, min2D, allD, isiD, tyN, isiT_tt, isiT_ii, isiT_ib, idxD, lsA, gw, gt, opt_some, opt_none, bd_pu, bd_fl, bd_bd, chk_true, chk_tt, D.imm, D.imms, D.isN, List.map_cons, List.map_nil, List.length_cons, List.length_nil, List.set_cons_zero, List.set_cons_succ, List.getElem?_cons_zero, List.getElem?_cons_succ, List.getElem?_nil, Option.bind_some, Option.bind_none, Option.join_some, Option.join_none, Option.map_some, Bool.and_true, Bool.true_and, Bool.and_false, Bool.false_and, Bool.not_true, Bool.not_false, Bool.false_eq_true, Bool.true_eq_false, if_true, if_false, ite_true, ite_false, List.cons_append, List.nil_append, List.append_nil, Nat.zero_add, Nat.reduceAdd, Nat.reduceSub, Nat.reduceLeDiff, Int.reduceNeg, List.replicate_succ, List.replicate_zero, true_and, and_true, List.length_map, and_pu, or_pu, tand_pu, tor_pu, idx_0, idx_1, if_tt, if_ff, dSl, dNo, dSo, slD, imm_cD, imm_wD, intsD, sAppIx, sExt, sApp, lsD, sFor, seq_sD, eq_str, ne_str, eq_int, ne_int, nc0, nc1, nc2, nc3, nc4, decide_true, decide_false, ne_eq, not_true_eq_false, Int.reduceEq, not_false_eq_true, Bool.or_false, Bool.or_true, Bool.false_or, Bool.true_or, List.all_cons, List.all_nil, id_eq]
end CY
namespace CY
open PySem L2 DL
theorem isN_non : D.isN .non = true := rfl
theorem e_yard_problem {ws : List (Int × Int)} {cs : List Cp} (V : VY ws cs) : F_yard_problem [yD ws cs] = pu .non := by
  unfold F_yard_problem g_yard_problem yD
  have b1 : (decide ((1 : Int) ≤ (ws.length : Nat)) && decide (((ws.length : Nat) : Int) ≤ 40)) = true := dand (by have := V.n1; omega) (by have := V.n40; omega)
  simp (decide := true) (implicitDefEqProofs := false) only [bodyD, env0, sSeq, thenF, sIf, sRet, sRetN, sRetV, sSet, sSetN, sExpr, sNil, sAsg, sPar, resD, dV, dC, dOp, dUn, dNot, dAnd, dOr, dNotT, dAndT, dOrT, dB, dIf, dChain, dTup, dCons, dNil, dLst, dLstB, dCB, dCall, dCallK, dImm, dYes, a1, a2, bTup, bLst, bCons, bNil, bName, fSeq, seqOf, fRng1, fRng2, fEn, fZip, zip2, one1, ints1, ints2, asB, asI, negD, addD, subD, modD, ltD, gtD, geD, leD, isND, isnND, intOp, intOpC, lenD_lst, lenD_tup, lenD_frz, len_sD, tupleD, listD, absD, max2D, min2D, allD, isiD, tyN, isiT_tt, isiT_ii, isiT_ib, idxD, lsA, gw, gt, opt_some, opt_none, bd_pu, bd_fl, bd_bd, chk_true, chk_tt, D.imm, D.imms, D.isN, List.map_cons, List.map_nil, List.length_cons, List.length_nil, List.set_cons_zero, List.set_cons_succ, List.getElem?_cons_zero, List.getElem?_cons_succ, List.getElem?_nil, Option.bind_some, Option.bind_none, Option.join_some, Option.join_none, Option.map_some, Bool.and_true, Bool.true_and, Bool.and_false, Bool.false_and, Bool.not_true, Bool.not_false, Bool.false_eq_true, Bool.true_eq_false, if_true, if_false, ite_true, ite_false, List.cons_append, List.nil_append, List.append_nil, Nat.zero_add, Nat.reduceAdd, Nat.reduceSub, Nat.reduceLeDiff, Int.reduceNeg, List.replicate_succ, List.replicate_zero, true_and, and_true, List.length_map, and_pu, or_pu, tand_pu, tor_pu, idx_0, idx_1, if_tt, if_ff, dSl, dNo, dSo, slD, imm_cD, imm_wD, intsD, sAppIx, sExt, sApp, lsD, sFor, seq_sD, eq_str, ne_str, eq_int, ne_int, nc0, nc1, nc2, nc3, nc4, decide_true, decide_false, ne_eq, not_true_eq_false, Int.reduceEq, not_false_eq_true, Bool.or_false, Bool.or_true, Bool.false_or, Bool.true_or, List.all_cons, List.all_nil, id_eq, imms_wD, imms_cD, b1, sFor]
  refine bd_for (fun i δ => ∃ x y z : Option D, δ = [some (D.tup [.tup (ws.map wD), .tup (cs.map cD)]), some (.tup (ws.map wD)), some (.tup (cs.map cD)), y, z]) ⟨none, _, _, rfl⟩ ?_ ?_
  · rintro i d δ hd ⟨x, y, z, rfl⟩
    obtain ⟨w, hw, rfl⟩ := enD_at wD ws hd
    simp (decide := true) (implicitDefEqProofs := false) only [bodyD, env0, sSeq, thenF, sIf, sRet, sRetN, sRetV, sSet, sSetN, sExpr, sNil, sAsg, sPar, resD, dV, dC, dOp, dUn, dNot, dAnd, dOr, dNotT, dAndT, dOrT, dB, dIf, dChain, dTup, dCons, dNil, dLst, dLstB, dCB, dCall, dCallK, dImm, dYes, a1, a2, bTup, bLst, bCons, bNil, bName, fSeq, seqOf, fRng1, fRng2, fEn, fZip, zip2, one1, ints1, ints2, asB, asI, negD, addD, subD, modD, ltD, gtD, geD, leD, isND, isnND, intOp, intOpC, lenD_lst, lenD_tup, lenD_frz, len_sD, tupleD, listD, absD, max2D, min2D, allD, isiD, tyN, isiT_tt, isiT_ii, isiT_ib, idxD, lsA, gw, gt, opt_some, opt_none, bd_pu, bd_fl, bd_bd, chk_true, chk_tt, D.imm, D.imms, D.isN, List.map_cons, List.map_nil, List.length_cons, List.length_nil, List.set_cons_zero, List.set_cons_succ, List.getElem?_cons_zero, List.getElem?_cons_succ, List.getElem?_nil, Option.bind_some, Option.bind_none, Option.join_some, Option.join_none, Option.map_some, Bool.and_true, Bool.true_and, Bool.and_false, Bool.false_and, Bool.not_true, Bool.not_false, Bool.false_eq_true, Bool.true_eq_false, if_true, if_false, ite_true, ite_false, List.cons_append, List.nil_append, List.append_nil, Nat.zero_add, Nat.reduceAdd, Nat.reduceSub, Nat.reduceLeDiff, Int.reduceNeg, List.replicate_succ, List.replicate_zero, true_and, and_true, List.length_map, and_pu, or_pu, tand_pu, tor_pu, idx_0, idx_1, if_tt, if_ff, dSl, dNo, dSo, slD, imm_cD, imm_wD, intsD, sAppIx, sExt, sApp, lsD, sFor, seq_sD, eq_str, ne_str, eq_int, ne_int, nc0, nc1, nc2, nc3, nc4, decide_true, decide_false, ne_eq, not_true_eq_false, Int.reduceEq, not_false_eq_true, Bool.or_false, Bool.or_true, Bool.false_or, Bool.true_or, List.all_cons, List.all_nil, id_eq, e_is_walls (V.wok w (List.mem_of_getElem? hw))]
    exact ⟨_, rfl, none, _, _, rfl⟩
  · rintro δ' ⟨x, y, z, rfl⟩
    simp (decide := true) (implicitDefEqProofs := false) only [bodyD, env0, sSeq, thenF, sIf, sRet, sRetN, sRetV, sSet, sSetN, sExpr, sNil, sAsg, sPar, resD, dV, dC, dOp, dUn, dNot, dAnd, dOr, dNotT, dAndT, dOrT, dB, dIf, dChain, dTup, dCons, dNil, dLst, dLstB, dCB, dCall, dCallK, dImm, dYes, a1, a2, bTup, bLst, bCons, bNil, bName, fSeq, seqOf, fRng1, fRng2, fEn, fZip, zip2, one1, ints1, ints2, asB, asI, negD, addD, subD, modD, ltD, gtD, geD, leD, isND, isnND, intOp, intOpC, lenD_lst, lenD_tup, lenD_frz, len_sD, tupleD, listD, absD, max2D, min2D, allD, isiD, tyN, isiT_tt, isiT_ii, isiT_ib, idxD, lsA, gw, gt, opt_some, opt_none, bd_pu, bd_fl, bd_bd, chk_true, chk_tt, D.imm, D.imms, D.isN, List.map_cons, List.map_nil, List.length_cons, List.length_nil, List.set_cons_zero, List.set_cons_succ, List.getElem?_cons_zero, List.getElem?_cons_succ, List.getElem?_nil, Option.bind_some, Option.bind_none, Option.join_some, Option.join_none, Option.map_some, Bool.and_true, Bool.true_and, Bool.and_false, Bool.false_and, Bool.not_true, Bool.not_false, Bool.false_eq_true, Bool.true_eq_false, if_true, if_false, ite_true, ite_false, List.cons_append, List.nil_append, List.append_nil, Nat.zero_add, Nat.reduceAdd, Nat.reduceSub, Nat.reduceLeDiff, Int.reduceNeg, List.replicate_succ, List.replicate_zero, true_and, and_true, List.length_map, and_pu, or_pu, tand_pu, tor_pu, idx_0, idx_1, if_tt, if_ff, dSl, dNo, dSo, slD, imm_cD, imm_wD, intsD, sAppIx, sExt, sApp, lsD, sFor, seq_sD, eq_str, ne_str, eq_int, ne_int, nc0, nc1, nc2, nc3, nc4, decide_true, decide_false, ne_eq, not_true_eq_false, Int.reduceEq, not_false_eq_true, Bool.or_false, Bool.or_true, Bool.false_or, Bool.true_or, List.all_cons, List.all_nil, id_eq, e_couplings V]
theorem e_validate_yard {ws : List (Int × Int)} {cs : List Cp} (V : VY ws cs) : F_validate_yard [yD ws cs] = pu .non := by
  unfold F_validate_yard g_validate_yard
  simp (decide := true) (implicitDefEqProofs := false) only [bodyD, env0, sSeq, thenF, sIf, sRet, sRetN, sRetV, sSet, sSetN, sExpr, sNil, sAsg, sPar, resD, dV, dC, dOp, dUn, dNot, dAnd, dOr, dNotT, dAndT, dOrT, dB, dIf, dChain, dTup, dCons, dNil, dLst, dLstB, dCB, dCall, dCallK, dImm, dYes, a1, a2, bTup, bLst, bCons, bNil, bName, fSeq, seqOf, fRng1, fRng2, fEn, fZip, zip2, one1, ints1, ints2, asB, asI, negD, addD, subD, modD, ltD, gtD, geD, leD, isND, isnND, intOp, intOpC, lenD_lst, lenD_tup, lenD_frz, len_sD, tupleD, listD, absD, max2D, min2D, allD, isiD, tyN, isiT_tt, isiT_ii, isiT_ib, idxD, lsA, gw, gt, opt_some, opt_none, bd_pu, bd_fl, bd_bd, chk_true, chk_tt, D.imm, D.imms, D.isN, List.map_cons, List.map_nil, List.length_cons, List.length_nil, List.set_cons_zero, List.set_cons_succ, List.getElem?_cons_zero, List.getElem?_cons_succ, List.getElem?_nil, Option.bind_some, Option.bind_none, Option.join_some, Option.join_none, Option.map_some, Bool.and_true, Bool.true_and, Bool.and_false, Bool.false_and, Bool.not_true, Bool.not_false, Bool.false_eq_true, Bool.true_eq_false, if_true, if_false, ite_true, ite_false, List.cons_append, List.nil_append, List.append_nil, Nat.zero_add, Nat.reduceAdd, Nat.reduceSub, Nat.reduceLeDiff, Int.reduceNeg, List.replicate_succ, List.replicate_zero, true_and, and_true, List.length_map, and_pu, or_pu, tand_pu, tor_pu, idx_0, idx_1, if_tt, if_ff, dSl, dNo, dSo, slD, imm_cD, imm_wD, intsD, sAppIx, sExt, sApp, lsD, sFor, seq_sD, eq_str, ne_str, eq_int, ne_int, nc0, nc1, nc2, nc3, nc4, decide_true, decide_false, ne_eq, not_true_eq_false, Int.reduceEq, not_false_eq_true, Bool.or_false, Bool.or_true, Bool.false_or, Bool.true_or, List.all_cons, List.all_nil, id_eq, e_yard_problem V]
theorem imm_yD (ws : List (Int × Int)) (cs : List Cp) : (yD ws cs).imm = true := by
  unfold yD
  simp only [D.imm, D.imms, imms_wD, imms_cD, Bool.and_true]
theorem imm_sD (ss : List Int) : (sD ss).imm = true := by
  unfold sD
  simp only [D.imm, imms_int]
theorem map_at {α : Type} (f : α → D) (l : List α) {i : Nat} {d : D} (h : (l.map f)[i]? = some d) : ∃ a, l[i]? = some a ∧ d = f a := by
  rw [List.getElem?_map] at h
  cases e : l[i]? with
  | none => rw [e] at h; cases h
  | some a => rw [e] at h; exact ⟨a, rfl, (Option.some.inj h).symm⟩
theorem e_arrangement_problem {ws : List (Int × Int)} {cs : List Cp} {ss : List Int} (V : VY ws cs) (S : VS ws cs ss) : F_arrangement_problem [yD ws cs, sD ss] = pu .non := by
  unfold F_arrangement_problem g_arrangement_problem yD sD
  have b1 : decide (¬ ((ss.length : Nat) : Int) = (ws.length : Nat)) = false := decide_eq_false (by rw [S.len]; simp)
  simp (decide := true) (implicitDefEqProofs := false) only [bodyD, env0, sSeq, thenF, sIf, sRet, sRetN, sRetV, sSet, sSetN, sExpr, sNil, sAsg, sPar, resD, dV, dC, dOp, dUn, dNot, dAnd, dOr, dNotT, dAndT, dOrT, dB, dIf, dChain, dTup, dCons, dNil, dLst, dLstB, dCB, dCall, dCallK, dImm, dYes, a1, a2, bTup, bLst, bCons, bNil, bName, fSeq, seqOf, fRng1, fRng2, fEn, fZip, zip2, one1, ints1, ints2, asB, asI, negD, addD, subD, modD, ltD, gtD, geD, leD, isND, isnND, intOp, intOpC, lenD_lst, lenD_tup, lenD_frz, len_sD, tupleD, listD, absD, max2D, min2D, allD, isiD, tyN, isiT_tt, isiT_ii, isiT_ib, idxD, lsA, gw, gt, opt_some, opt_none, bd_pu, bd_fl, bd_bd, chk_true, chk_tt, D.imm, D.imms, D.isN, List.map_cons, List.map_nil, List.length_cons, List.length_nil, List.set_cons_zero, List.set_cons_succ, List.getElem?_cons_zero, List.getElem?_cons_succ, List.getElem?_nil, Option.bind_some, Option.bind_none, Option.join_some, Option.join_none, Option.map_some, Bool.and_true, Bool.true_and, Bool.and_false, Bool.false_and, Bool.not_true, Bool.not_false, Bool.false_eq_true, Bool.true_eq_false, if_true, if_false, ite_true, ite_false, List.cons_append, List.nil_append, List.append_nil, Nat.zero_add, Nat.reduceAdd, Nat.reduceSub, Nat.reduceLeDiff, Int.reduceNeg, List.replicate_succ, List.replicate_zero, true_and, and_true, List.length_map, and_pu, or_pu, tand_pu, tor_pu, idx_0, idx_1, if_tt, if_ff, dSl, dNo, dSo, slD, imm_cD, imm_wD, intsD, sAppIx, sExt, sApp, lsD, sFor, seq_sD, eq_str, ne_str, eq_int, ne_int, nc0, nc1, nc2, nc3, nc4, decide_true, decide_false, ne_eq, not_true_eq_false, Int.reduceEq, not_false_eq_true, Bool.or_false, Bool.or_true, Bool.false_or, Bool.true_or, List.all_cons, List.all_nil, id_eq, imms_wD, imms_cD, imms_int, b1, sFor]
  refine bd_for (fun i δ => ∃ x y z a b c d e : Option D, δ = [some (D.tup [.tup (ws.map wD), .tup (cs.map cD)]), some (.tup (ss.map D.int)), x, y, z, a, b, c, d, e]) ⟨_, _, _, _, _, _, _, _, rfl⟩ ?_ ?_
  · rintro i d δ hd ⟨x, y, z, a, b, c, d, e, rfl⟩
    obtain ⟨w, hw, rfl⟩ := enD_at wD ws hd
    have hi : i < ss.length := by rw [S.len]; exact (List.getElem?_eq_some_iff.mp hw).1
    obtain ⟨h1, h2⟩ := S.wal i w hw
    have b2 : (decide (w.1 ≤ ss.getD i 0) && decide (ss.getD i 0 ≤ w.2)) = true := dand h1 h2
    simp (decide := true) (implicitDefEqProofs := false) only [bodyD, env0, sSeq, thenF, sIf, sRet, sRetN, sRetV, sSet, sSetN, sExpr, sNil, sAsg, sPar, resD, dV, dC, dOp, dUn, dNot, dAnd, dOr, dNotT, dAndT, dOrT, dB, dIf, dChain, dTup, dCons, dNil, dLst, dLstB, dCB, dCall, dCallK, dImm, dYes, a1, a2, bTup, bLst, bCons, bNil, bName, fSeq, seqOf, fRng1, fRng2, fEn, fZip, zip2, one1, ints1, ints2, asB, asI, negD, addD, subD, modD, ltD, gtD, geD, leD, isND, isnND, intOp, intOpC, lenD_lst, lenD_tup, lenD_frz, len_sD, tupleD, listD, absD, max2D, min2D, allD, isiD, tyN, isiT_tt, isiT_ii, isiT_ib, idxD, lsA, gw, gt, opt_some, opt_none, bd_pu, bd_fl, bd_bd, chk_true, chk_tt, D.imm, D.imms, D.isN, List.map_cons, List.map_nil, List.length_cons, List.length_nil, List.set_cons_zero, List.set_cons_succ, List.getElem?_cons_zero, List.getElem?_cons_succ, List.getElem?_nil, Option.bind_some, Option.bind_none, Option.join_some, Option.join_none, Option.map_some, Bool.and_true, Bool.true_and, Bool.and_false, Bool.false_and, Bool.not_true, Bool.not_false, Bool.false_eq_true, Bool.true_eq_false, if_true, if_false, ite_true, ite_false, List.cons_append, List.nil_append, List.append_nil, Nat.zero_add, Nat.reduceAdd, Nat.reduceSub, Nat.reduceLeDiff, Int.reduceNeg, List.replicate_succ, List.replicate_zero, true_and, and_true, List.length_map, and_pu, or_pu, tand_pu, tor_pu, idx_0, idx_1, if_tt, if_ff, dSl, dNo, dSo, slD, imm_cD, imm_wD, intsD, sAppIx, sExt, sApp, lsD, sFor, seq_sD, eq_str, ne_str, eq_int, ne_int, nc0, nc1, nc2, nc3, nc4, decide_true, decide_false, ne_eq, not_true_eq_false, Int.reduceEq, not_false_eq_true, Bool.or_false, Bool.or_true, Bool.false_or, Bool.true_or, List.all_cons, List.all_nil, id_eq, imm_wD]
    simp (decide := true) (implicitDefEqProofs := false) only [bodyD, env0, sSeq, thenF, sIf, sRet, sRetN, sRetV, sSet, sSetN, sExpr, sNil, sAsg, sPar, resD, dV, dC, dOp, dUn, dNot, dAnd, dOr, dNotT, dAndT, dOrT, dB, dIf, dChain, dTup, dCons, dNil, dLst, dLstB, dCB, dCall, dCallK, dImm, dYes, a1, a2, bTup, bLst, bCons, bNil, bName, fSeq, seqOf, fRng1, fRng2, fEn, fZip, zip2, one1, ints1, ints2, asB, asI, negD, addD, subD, modD, ltD, gtD, geD, leD, isND, isnND, intOp, intOpC, lenD_lst, lenD_tup, lenD_frz, len_sD, tupleD, listD, absD, max2D, min2D, allD, isiD, tyN, isiT_tt, isiT_ii, isiT_ib, idxD, lsA, gw, gt, opt_some, opt_none, bd_pu, bd_fl, bd_bd, chk_true, chk_tt, D.imm, D.imms, D.isN, List.map_cons, List.map_nil, List.length_cons, List.length_nil, List.set_cons_zero, List.set_cons_succ, List.getElem?_cons_zero, List.getElem?_cons_succ, List.getElem?_nil, Option.bind_some, Option.bind_none, Option.join_some, Option.join_none, Option.map_some, Bool.and_true, Bool.true_and, Bool.and_false, Bool.false_and, Bool.not_true, Bool.not_false, Bool.false_eq_true, Bool.true_eq_false, if_true, if_false, ite_true, ite_false, List.cons_append, List.nil_append, List.append_nil, Nat.zero_add, Nat.reduceAdd, Nat.reduceSub, Nat.reduceLeDiff, Int.reduceNeg, List.replicate_succ, List.replicate_zero, true_and, and_true, List.length_map, and_pu, or_pu, tand_pu, tor_pu, idx_0, idx_1, if_tt, if_ff, dSl, dNo, dSo, slD, imm_cD, imm_wD, intsD, sAppIx, sExt, sApp, lsD, sFor, seq_sD, eq_str, ne_str, eq_int, ne_int, nc0, nc1, nc2, nc3, nc4, decide_true, decide_false, ne_eq, not_true_eq_false, Int.reduceEq, not_false_eq_true, Bool.or_false, Bool.or_true, Bool.false_or, Bool.true_or, List.all_cons, List.all_nil, id_eq, wD, idx_int hi, e_is_between, b2]
    exact ⟨_, rfl, _, _, _, _, _, _, _, _, rfl⟩
  · rintro δ' ⟨x, y, z, a, b, c, d, e, rfl⟩
    simp (decide := true) (implicitDefEqProofs := false) only [bodyD, env0, sSeq, thenF, sIf, sRet, sRetN, sRetV, sSet, sSetN, sExpr, sNil, sAsg, sPar, resD, dV, dC, dOp, dUn, dNot, dAnd, dOr, dNotT, dAndT, dOrT, dB, dIf, dChain, dTup, dCons, dNil, dLst, dLstB, dCB, dCall, dCallK, dImm, dYes, a1, a2, bTup, bLst, bCons, bNil, bName, fSeq, seqOf, fRng1, fRng2, fEn, fZip, zip2, one1, ints1, ints2, asB, asI, negD, addD, subD, modD, ltD, gtD, geD, leD, isND, isnND, intOp, intOpC, lenD_lst, lenD_tup, lenD_frz, len_sD, tupleD, listD, absD, max2D, min2D, allD, isiD, tyN, isiT_tt, isiT_ii, isiT_ib, idxD, lsA, gw, gt, opt_some, opt_none, bd_pu, bd_fl, bd_bd, chk_true, chk_tt, D.imm, D.imms, D.isN, List.map_cons, List.map_nil, List.length_cons, List.length_nil, List.set_cons_zero, List.set_cons_succ, List.getElem?_cons_zero, List.getElem?_cons_succ, List.getElem?_nil, Option.bind_some, Option.bind_none, Option.join_some, Option.join_none, Option.map_some, Bool.and_true, Bool.true_and, Bool.and_false, Bool.false_and, Bool.not_true, Bool.not_false, Bool.false_eq_true, Bool.true_eq_false, if_true, if_false, ite_true, ite_false, List.cons_append, List.nil_append, List.append_nil, Nat.zero_add, Nat.reduceAdd, Nat.reduceSub, Nat.reduceLeDiff, Int.reduceNeg, List.replicate_succ, List.replicate_zero, true_and, and_true, List.length_map, and_pu, or_pu, tand_pu, tor_pu, idx_0, idx_1, if_tt, if_ff, dSl, dNo, dSo, slD, imm_cD, imm_wD, intsD, sAppIx, sExt, sApp, lsD, sFor, seq_sD, eq_str, ne_str, eq_int, ne_int, nc0, nc1, nc2, nc3, nc4, decide_true, decide_false, ne_eq, not_true_eq_false, Int.reduceEq, not_false_eq_true, Bool.or_false, Bool.or_true, Bool.false_or, Bool.true_or, List.all_cons, List.all_nil, id_eq, imms_wD, imms_cD, imms_int]
    refine bd_for (fun i δ => ∃ x y z a b c d e : Option D, δ = [some (D.tup [.tup (ws.map wD), .tup (cs.map cD)]), some (.tup (ss.map D.int)), x, y, z, a, b, c, d, e]) ⟨_, _, _, _, _, _, _, _, rfl⟩ ?_ ?_
    · rintro i d δ hd ⟨x, y, z, a, b, c, d, e, rfl⟩
      obtain ⟨c, hc, rfl⟩ := enD_at cD cs hd
      have hm := List.mem_of_getElem? hc
      obtain ⟨c1, c2, _⟩ := V.cok c hm
      obtain ⟨h1, h2⟩ := S.cpl c hm
      have hi : c.i < ss.length := by rw [S.len]; omega
      have hj : c.j < ss.length := by rw [S.len]; omega
      have b2 : (decide (c.lo ≤ ss.getD c.j 0 - ss.getD c.i 0) && decide (ss.getD c.j 0 - ss.getD c.i 0 ≤ c.hi)) = true := dand h1 h2
      simp (decide := true) (implicitDefEqProofs := false) only [bodyD, env0, sSeq, thenF, sIf, sRet, sRetN, sRetV, sSet, sSetN, sExpr, sNil, sAsg, sPar, resD, dV, dC, dOp, dUn, dNot, dAnd, dOr, dNotT, dAndT, dOrT, dB, dIf, dChain, dTup, dCons, dNil, dLst, dLstB, dCB, dCall, dCallK, dImm, dYes, a1, a2, bTup, bLst, bCons, bNil, bName, fSeq, seqOf, fRng1, fRng2, fEn, fZip, zip2, one1, ints1, ints2, asB, asI, negD, addD, subD, modD, ltD, gtD, geD, leD, isND, isnND, intOp, intOpC, lenD_lst, lenD_tup, lenD_frz, len_sD, tupleD, listD, absD, max2D, min2D, allD, isiD, tyN, isiT_tt, isiT_ii, isiT_ib, idxD, lsA, gw, gt, opt_some, opt_none, bd_pu, bd_fl, bd_bd, chk_true, chk_tt, D.imm, D.imms, D.isN, List.map_cons, List.map_nil, List.length_cons, List.length_nil, List.set_cons_zero, List.set_cons_succ, List.getElem?_cons_zero, List.getElem?_cons_succ, List.getElem?_nil, Option.bind_some, Option.bind_none, Option.join_some, Option.join_none, Option.map_some, Bool.and_true, Bool.true_and, Bool.and_false, Bool.false_and, Bool.not_true, Bool.not_false, Bool.false_eq_true, Bool.true_eq_false, if_true, if_false, ite_true, ite_false, List.cons_append, List.nil_append, List.append_nil, Nat.zero_add, Nat.reduceAdd, Nat.reduceSub, Nat.reduceLeDiff, Int.reduceNeg, List.replicate_succ, List.replicate_zero, true_and, and_true, List.length_map, and_pu, or_pu, tand_pu, tor_pu, idx_0, idx_1, if_tt, if_ff, dSl, dNo, dSo, slD, imm_cD, imm_wD, intsD, sAppIx, sExt, sApp, lsD, sFor, seq_sD, eq_str, ne_str, eq_int, ne_int, nc0, nc1, nc2, nc3, nc4, decide_true, decide_false, ne_eq, not_true_eq_false, Int.reduceEq, not_false_eq_true, Bool.or_false, Bool.or_true, Bool.false_or, Bool.true_or, List.all_cons, List.all_nil, id_eq, imm_cD]
      simp (decide := true) (implicitDefEqProofs := false) only [bodyD, env0, sSeq, thenF, sIf, sRet, sRetN, sRetV, sSet, sSetN, sExpr, sNil, sAsg, sPar, resD, dV, dC, dOp, dUn, dNot, dAnd, dOr, dNotT, dAndT, dOrT, dB, dIf, dChain, dTup, dCons, dNil, dLst, dLstB, dCB, dCall, dCallK, dImm, dYes, a1, a2, bTup, bLst, bCons, bNil, bName, fSeq, seqOf, fRng1, fRng2, fEn, fZip, zip2, one1, ints1, ints2, asB, asI, negD, addD, subD, modD, ltD, gtD, geD, leD, isND, isnND, intOp, intOpC, lenD_lst, lenD_tup, lenD_frz, len_sD, tupleD, listD, absD, max2D, min2D, allD, isiD, tyN, isiT_tt, isiT_ii, isiT_ib, idxD, lsA, gw, gt, opt_some, opt_none, bd_pu, bd_fl, bd_bd, chk_true, chk_tt, D.imm, D.imms, D.isN, List.map_cons, List.map_nil, List.length_cons, List.length_nil, List.set_cons_zero, List.set_cons_succ, List.getElem?_cons_zero, List.getElem?_cons_succ, List.getElem?_nil, Option.bind_some, Option.bind_none, Option.join_some, Option.join_none, Option.map_some, Bool.and_true, Bool.true_and, Bool.and_false, Bool.false_and, Bool.not_true, Bool.not_false, Bool.false_eq_true, Bool.true_eq_false, if_true, if_false, ite_true, ite_false, List.cons_append, List.nil_append, List.append_nil, Nat.zero_add, Nat.reduceAdd, Nat.reduceSub, Nat.reduceLeDiff, Int.reduceNeg, List.replicate_succ, List.replicate_zero, true_and, and_true, List.length_map, and_pu, or_pu, tand_pu, tor_pu, idx_0, idx_1, if_tt, if_ff, dSl, dNo, dSo, slD, imm_cD, imm_wD, intsD, sAppIx, sExt, sApp, lsD, sFor, seq_sD, eq_str, ne_str, eq_int, ne_int, nc0, nc1, nc2, nc3, nc4, decide_true, decide_false, ne_eq, not_true_eq_false, Int.reduceEq, not_false_eq_true, Bool.or_false, Bool.or_true, Bool.false_or, Bool.true_or, List.all_cons, List.all_nil, id_eq, cD, idx_int hi, idx_int hj, b2]
      exact ⟨_, rfl, _, _, _, _, _, _, _, _, rfl⟩
    · rintro δ' ⟨x, y, z, a, b, c, d, e, rfl⟩
      simp (decide := true) (implicitDefEqProofs := false) only [bodyD, env0, sSeq, thenF, sIf, sRet, sRetN, sRetV, sSet, sSetN, sExpr, sNil, sAsg, sPar, resD, dV, dC, dOp, dUn, dNot, dAnd, dOr, dNotT, dAndT, dOrT, dB, dIf, dChain, dTup, dCons, dNil, dLst, dLstB, dCB, dCall, dCallK, dImm, dYes, a1, a2, bTup, bLst, bCons, bNil, bName, fSeq, seqOf, fRng1, fRng2, fEn, fZip, zip2, one1, ints1, ints2, asB, asI, negD, addD, subD, modD, ltD, gtD, geD, leD, isND, isnND, intOp, intOpC, lenD_lst, lenD_tup, lenD_frz, len_sD, tupleD, listD, absD, max2D, min2D, allD, isiD, tyN, isiT_tt, isiT_ii, isiT_ib, idxD, lsA, gw, gt, opt_some, opt_none, bd_pu, bd_fl, bd_bd, chk_true, chk_tt, D.imm, D.imms, D.isN, List.map_cons, List.map_nil, List.length_cons, List.length_nil, List.set_cons_zero, List.set_cons_succ, List.getElem?_cons_zero, List.getElem?_cons_succ, List.getElem?_nil, Option.bind_some, Option.bind_none, Option.join_some, Option.join_none, Option.map_some, Bool.and_true, Bool.true_and, Bool.and_false, Bool.false_and, Bool.not_true, Bool.not_false, Bool.false_eq_true, Bool.true_eq_false, if_true, if_false, ite_true, ite_false, List.cons_append, List.nil_append, List.append_nil, Nat.zero_add, Nat.reduceAdd, Nat.reduceSub, Nat.reduceLeDiff, Int.reduceNeg, List.replicate_succ, List.replicate_zero, true_and, and_true, List.length_map, and_pu, or_pu, tand_pu, tor_pu, idx_0, idx_1, if_tt, if_ff, dSl, dNo, dSo, slD, imm_cD, imm_wD, intsD, sAppIx, sExt, sApp, lsD, sFor, seq_sD, eq_str, ne_str, eq_int, ne_int, nc0, nc1, nc2, nc3, nc4, decide_true, decide_false, ne_eq, not_true_eq_false, Int.reduceEq, not_false_eq_true, Bool.or_false, Bool.or_true, Bool.false_or, Bool.true_or, List.all_cons, List.all_nil, id_eq]
theorem e_need_arrangement {ws : List (Int × Int)} {cs : List Cp} {ss : List Int} (V : VY ws cs) (S : VS ws cs ss) : F_need_arrangement [yD ws cs, sD ss] = pu .non := by
  unfold F_need_arrangement g_need_arrangement
  simp (decide := true) (implicitDefEqProofs := false) only [bodyD, env0, sSeq, thenF, sIf, sRet, sRetN, sRetV, sSet, sSetN, sExpr, sNil, sAsg, sPar, resD, dV, dC, dOp, dUn, dNot, dAnd, dOr, dNotT, dAndT, dOrT, dB, dIf, dChain, dTup, dCons, dNil, dLst, dLstB, dCB, dCall, dCallK, dImm, dYes, a1, a2, bTup, bLst, bCons, bNil, bName, fSeq, seqOf, fRng1, fRng2, fEn, fZip, zip2, one1, ints1, ints2, asB, asI, negD, addD, subD, modD, ltD, gtD, geD, leD, isND, isnND, intOp, intOpC, lenD_lst, lenD_tup, lenD_frz, len_sD, tupleD, listD, absD, max2D, min2D, allD, isiD, tyN, isiT_tt, isiT_ii, isiT_ib, idxD, lsA, gw, gt, opt_some, opt_none, bd_pu, bd_fl, bd_bd, chk_true, chk_tt, D.imm, D.imms, D.isN, List.map_cons, List.map_nil, List.length_cons, List.length_nil, List.set_cons_zero, List.set_cons_succ, List.getElem?_cons_zero, List.getElem?_cons_succ, List.getElem?_nil, Option.bind_some, Option.bind_none, Option.join_some, Option.join_none, Option.map_some, Bool.and_true, Bool.true_and, Bool.and_false, Bool.false_and, Bool.not_true, Bool.not_false, Bool.false_eq_true, Bool.true_eq_false, if_true, if_false, ite_true, ite_false, List.cons_append, List.nil_append, List.append_nil, Nat.zero_add, Nat.reduceAdd, Nat.reduceSub, Nat.reduceLeDiff, Int.reduceNeg, List.replicate_succ, List.replicate_zero, true_and, and_true, List.length_map, and_pu, or_pu, tand_pu, tor_pu, idx_0, idx_1, if_tt, if_ff, dSl, dNo, dSo, slD, imm_cD, imm_wD, intsD, sAppIx, sExt, sApp, lsD, sFor, seq_sD, eq_str, ne_str, eq_int, ne_int, nc0, nc1, nc2, nc3, nc4, decide_true, decide_false, ne_eq, not_true_eq_false, Int.reduceEq, not_false_eq_true, Bool.or_false, Bool.or_true, Bool.false_or, Bool.true_or, List.all_cons, List.all_nil, id_eq, e_arrangement_problem V S]
theorem e_validate_arrangement {ws : List (Int × Int)} {cs : List Cp} {ss : List Int} (V : VY ws cs) (S : VS ws cs ss) : F_validate_arrangement [yD ws cs, sD ss] = pu .non := by
  unfold F_validate_arrangement g_validate_arrangement
  simp (decide := true) (implicitDefEqProofs := false) only [bodyD, env0, sSeq, thenF, sIf, sRet, sRetN, sRetV, sSet, sSetN, sExpr, sNil, sAsg, sPar, resD, dV, dC, dOp, dUn, dNot, dAnd, dOr, dNotT, dAndT, dOrT, dB, dIf, dChain, dTup, dCons, dNil, dLst, dLstB, dCB, dCall, dCallK, dImm, dYes, a1, a2, bTup, bLst, bCons, bNil, bName, fSeq, seqOf, fRng1, fRng2, fEn, fZip, zip2, one1, ints1, ints2, asB, asI, negD, addD, subD, modD, ltD, gtD, geD, leD, isND, isnND, intOp, intOpC, lenD_lst, lenD_tup, lenD_frz, len_sD, tupleD, listD, absD, max2D, min2D, allD, isiD, tyN, isiT_tt, isiT_ii, isiT_ib, idxD, lsA, gw, gt, opt_some, opt_none, bd_pu, bd_fl, bd_bd, chk_true, chk_tt, D.imm, D.imms, D.isN, List.map_cons, List.map_nil, List.length_cons, List.length_nil, List.set_cons_zero, List.set_cons_succ, List.getElem?_cons_zero, List.getElem?_cons_succ, List.getElem?_nil, Option.bind_some, Option.bind_none, Option.join_some, Option.join_none, Option.map_some, Bool.and_true, Bool.true_and, Bool.and_false, Bool.false_and, Bool.not_true, Bool.not_false, Bool.false_eq_true, Bool.true_eq_false, if_true, if_false, ite_true, ite_false, List.cons_append, List.nil_append, List.append_nil, Nat.zero_add, Nat.reduceAdd, Nat.reduceSub, Nat.reduceLeDiff, Int.reduceNeg, List.replicate_succ, List.replicate_zero, true_and, and_true, List.length_map, and_pu, or_pu, tand_pu, tor_pu, idx_0, idx_1, if_tt, if_ff, dSl, dNo, dSo, slD, imm_cD, imm_wD, intsD, sAppIx, sExt, sApp, lsD, sFor, seq_sD, eq_str, ne_str, eq_int, ne_int, nc0, nc1, nc2, nc3, nc4, decide_true, decide_false, ne_eq, not_true_eq_false, Int.reduceEq, not_false_eq_true, Bool.or_false, Bool.or_true, Bool.false_or, Bool.true_or, List.all_cons, List.all_nil, id_eq, e_validate_yard V, e_need_arrangement V S]
/-! ### links -/
structure Lk where
  o : Nat
  lo : Int
  hi : Int
def kD (k : Lk) : D := .tup [.int k.o, .int k.lo, .int k.hi]
def lksD (ls : List (List Lk)) : D := .lst (ls.map fun l => .lst (l.map kD))
/-- the links of wagon v by the first couplings -/
def lks (v : Nat) : List Cp → List Lk
  | [] => []
  | c :: cs => (if c.i = v then [⟨c.j, c.lo, c.hi⟩] else []) ++ (if c.j = v then [⟨c.i, -c.hi, -c.lo⟩] else []) ++ lks v cs
def lkAll (n : Nat) (cs : List Cp) : List (List Lk) := (List.range n).map fun v => lks v cs
theorem lks_app (v : Nat) : ∀ (cs cs' : List Cp), lks v (cs ++ cs') = lks v cs ++ lks v cs'
  | [], cs' => rfl
  | c :: cs, cs' => by simp only [List.cons_append, lks, lks_app v cs cs', List.append_assoc]
theorem imms_kD : ∀ (l : List Lk), D.imms (l.map kD) = true
  | [] => rfl
  | a :: l => by simp only [List.map_cons, D.imms, imms_kD l]; rfl
end CY
namespace CY
open PySem L2 DL
theorem ixN_nat {n k : Nat} (h : k < n) : L2.ixN n (k : Int) = some k := by
  unfold L2.ixN
  rw [if_pos (Int.natCast_nonneg k), if_pos (by omega)]
  simp
theorem lcN_map {h : D → DL.Env → DL.W DL.Env} {f : DL.Env → DL.W D} {δ : DL.Env} (m : D → D) : ∀ (ds acc : List D), acc.length + ds.length < sizeLine → (∀ d ∈ ds, ∃ δ1, h d δ = pu δ1 ∧ f δ1 = pu (m d)) → lcWN h dYes f δ ds acc = pu (acc ++ ds.map m)
  | [], acc, _, _ => by rw [List.map_nil, List.append_nil]; rfl
  | d :: ds, acc, hl, st => by
    obtain ⟨δ1, e1, e2⟩ := st d List.mem_cons_self
    have hl' : acc.length + ds.length + 1 < sizeLine := by simpa [Nat.add_assoc] using hl
    show (bd (h d δ) fun δ1 => bd (pu true) fun b => if b = true then bd (f δ1) fun e => chk (acc.length < sizeLine) (lcWN h dYes f δ ds (acc ++ [e])) else lcWN h dYes f δ ds acc) = _
    rw [e1, bd_pu, bd_pu, if_pos rfl, e2, bd_pu, chk_pos (by omega), lcN_map m ds _ (by rw [List.length_append, List.length_singleton]; omega) (fun d' q => st d' (List.mem_cons_of_mem _ q)), List.map_cons, List.append_assoc]
    rfl
theorem set_rng {α : Type} (F : Nat → α) (n a : Nat) (x : α) : ((List.range n).map F).set a x = (List.range n).map fun v => if v = a then x else F v := by
  refine List.ext_getElem (by simp) fun i h1 h2 => ?_
  rw [List.getElem_set]
  simp only [List.getElem_map, List.getElem_range]
  by_cases h : a = i
  · rw [if_pos h, if_pos h.symm]
  · rw [if_neg h, if_neg fun z => h z.symm]
theorem rng_at {α : Type} (F : Nat → α) {n a : Nat} (h : a < n) : ((List.range n).map F)[a]? = some (F a) := by
  rw [List.getElem?_map, List.getElem?_range h]
  rfl
def lkV (n : Nat) (cs : List Cp) : List D := (List.range n).map fun v => .lst ((lks v cs).map kD)
theorem lkV_len (n : Nat) (cs : List Cp) : (lkV n cs).length = n := by simp [lkV]
theorem lkV_next (n : Nat) (cs : List Cp) (c : Cp) (hc : c.i ≠ c.j) :
    ((lkV n cs).set c.i (.lst ((lks c.i cs).map kD ++ [.tup [.int c.j, .int c.lo, .int c.hi]]))).set c.j (.lst ((lks c.j cs).map kD ++ [.tup [.int c.i, .int (-c.hi), .int (-c.lo)]])) = lkV n (cs ++ [c]) := by
  unfold lkV
  rw [set_rng, set_rng]
  refine List.map_congr_left fun v _ => ?_
  rw [lks_app]
  simp only [lks, List.append_nil]
  by_cases h1 : c.j = v
  · subst h1
    rw [if_pos rfl, if_neg hc, if_pos rfl]
    simp [kD]
  · rw [if_neg (fun z => h1 z.symm), if_neg (show ¬ c.j = v from h1)]
    by_cases h2 : c.i = v
    · subst h2
      rw [if_pos rfl, if_pos rfl]
      simp [kD]
    · rw [if_neg (fun z => h2 z.symm), if_neg h2]
      simp
theorem lks_len (v : Nat) : ∀ cs : List Cp, (lks v cs).length ≤ 2 * cs.length
  | [] => Nat.le_refl _
  | c :: cs => by
    have := lks_len v cs
    simp only [lks, List.length_append, List.length_cons]
    split <;> split <;> simp <;> omega
theorem e_own_links {ws : List (Int × Int)} {cs : List Cp} (V : VY ws cs) : F_own_links [yD ws cs] = pu (.lst (lkV ws.length cs)) := by
  unfold F_own_links g_own_links yD
  simp (decide := true) (implicitDefEqProofs := false) only [bodyD, env0, sSeq, thenF, sIf, sRet, sRetN, sRetV, sSet, sSetN, sExpr, sNil, sAsg, sPar, resD, dV, dC, dOp, dUn, dNot, dAnd, dOr, dNotT, dAndT, dOrT, dB, dIf, dChain, dTup, dCons, dNil, dLst, dLstB, dCB, dCall, dCallK, dImm, dYes, a1, a2, bTup, bLst, bCons, bNil, bName, fSeq, seqOf, fRng1, fRng2, fEn, fZip, zip2, one1, ints1, ints2, asB, asI, negD, addD, subD, modD, ltD, gtD, geD, leD, isND, isnND, intOp, intOpC, lenD_lst, lenD_tup, lenD_frz, len_sD, tupleD, listD, absD, max2D, min2D, allD, isiD, tyN, isiT_tt, isiT_ii, isiT_ib, idxD, lsA, gw, gt, opt_some, opt_none, bd_pu, bd_fl, bd_bd, chk_true, chk_tt, D.imm, D.imms, D.isN, List.map_cons, List.map_nil, List.length_cons, List.length_nil, List.set_cons_zero, List.set_cons_succ, List.getElem?_cons_zero, List.getElem?_cons_succ, List.getElem?_nil, Option.bind_some, Option.bind_none, Option.join_some, Option.join_none, Option.map_some, Bool.and_true, Bool.true_and, Bool.and_false, Bool.false_and, Bool.not_true, Bool.not_false, Bool.false_eq_true, Bool.true_eq_false, if_true, if_false, ite_true, ite_false, List.cons_append, List.nil_append, List.append_nil, Nat.zero_add, Nat.reduceAdd, Nat.reduceSub, Nat.reduceLeDiff, Int.reduceNeg, List.replicate_succ, List.replicate_zero, true_and, and_true, List.length_map, and_pu, or_pu, tand_pu, tor_pu, idx_0, idx_1, if_tt, if_ff, dSl, dNo, dSo, slD, imm_cD, imm_wD, intsD, sAppIx, sExt, sApp, lsD, sFor, seq_sD, eq_str, ne_str, eq_int, ne_int, nc0, nc1, nc2, nc3, nc4, decide_true, decide_false, ne_eq, not_true_eq_false, Int.reduceEq, not_false_eq_true, Bool.or_false, Bool.or_true, Bool.false_or, Bool.true_or, List.all_cons, List.all_nil, id_eq, dLcN, wipeE, imms_wD, imms_cD]
  rw [lcN_map (fun _ => .lst []) _ _ (by rw [List.length_nil, List.length_map]; exact small (by have := V.n40; omega)) (fun d q => by
    obtain ⟨w, _, rfl⟩ := List.mem_map.mp q
    refine ⟨_, by simp (decide := true) (implicitDefEqProofs := false) only [bodyD, env0, sSeq, thenF, sIf, sRet, sRetN, sRetV, sSet, sSetN, sExpr, sNil, sAsg, sPar, resD, dV, dC, dOp, dUn, dNot, dAnd, dOr, dNotT, dAndT, dOrT, dB, dIf, dChain, dTup, dCons, dNil, dLst, dLstB, dCB, dCall, dCallK, dImm, dYes, a1, a2, bTup, bLst, bCons, bNil, bName, fSeq, seqOf, fRng1, fRng2, fEn, fZip, zip2, one1, ints1, ints2, asB, asI, negD, addD, subD, modD, ltD, gtD, geD, leD, isND, isnND, intOp, intOpC, lenD_lst, lenD_tup, lenD_frz, len_sD, tupleD, listD, absD, max2D, min2D, allD, isiD, tyN, isiT_tt, isiT_ii, isiT_ib, idxD, lsA, gw, gt, opt_some, opt_none, bd_pu, bd_fl, bd_bd, chk_true, chk_tt, D.imm, D.imms, D.isN, List.map_cons, List.map_nil, List.length_cons, List.length_nil, List.set_cons_zero, List.set_cons_succ, List.getElem?_cons_zero, List.getElem?_cons_succ, List.getElem?_nil, Option.bind_some, Option.bind_none, Option.join_some, Option.join_none, Option.map_some, Bool.and_true, Bool.true_and, Bool.and_false, Bool.false_and, Bool.not_true, Bool.not_false, Bool.false_eq_true, Bool.true_eq_false, if_true, if_false, ite_true, ite_false, List.cons_append, List.nil_append, List.append_nil, Nat.zero_add, Nat.reduceAdd, Nat.reduceSub, Nat.reduceLeDiff, Int.reduceNeg, List.replicate_succ, List.replicate_zero, true_and, and_true, List.length_map, and_pu, or_pu, tand_pu, tor_pu, idx_0, idx_1, if_tt, if_ff, dSl, dNo, dSo, slD, imm_cD, imm_wD, intsD, sAppIx, sExt, sApp, lsD, sFor, seq_sD, eq_str, ne_str, eq_int, ne_int, nc0, nc1, nc2, nc3, nc4, decide_true, decide_false, ne_eq, not_true_eq_false, Int.reduceEq, not_false_eq_true, Bool.or_false, Bool.or_true, Bool.false_or, Bool.true_or, List.all_cons, List.all_nil, id_eq]; rfl, ?_⟩
    simp (decide := true) (implicitDefEqProofs := false) only [bodyD, env0, sSeq, thenF, sIf, sRet, sRetN, sRetV, sSet, sSetN, sExpr, sNil, sAsg, sPar, resD, dV, dC, dOp, dUn, dNot, dAnd, dOr, dNotT, dAndT, dOrT, dB, dIf, dChain, dTup, dCons, dNil, dLst, dLstB, dCB, dCall, dCallK, dImm, dYes, a1, a2, bTup, bLst, bCons, bNil, bName, fSeq, seqOf, fRng1, fRng2, fEn, fZip, zip2, one1, ints1, ints2, asB, asI, negD, addD, subD, modD, ltD, gtD, geD, leD, isND, isnND, intOp, intOpC, lenD_lst, lenD_tup, lenD_frz, len_sD, tupleD, listD, absD, max2D, min2D, allD, isiD, tyN, isiT_tt, isiT_ii, isiT_ib, idxD, lsA, gw, gt, opt_some, opt_none, bd_pu, bd_fl, bd_bd, chk_true, chk_tt, D.imm, D.imms, D.isN, List.map_cons, List.map_nil, List.length_cons, List.length_nil, List.set_cons_zero, List.set_cons_succ, List.getElem?_cons_zero, List.getElem?_cons_succ, List.getElem?_nil, Option.bind_some, Option.bind_none, Option.join_some, Option.join_none, Option.map_some, Bool.and_true, Bool.true_and, Bool.and_false, Bool.false_and, Bool.not_true, Bool.not_false, Bool.false_eq_true, Bool.true_eq_false, if_true, if_false, ite_true, ite_false, List.cons_append, List.nil_append, List.append_nil, Nat.zero_add, Nat.reduceAdd, Nat.reduceSub, Nat.reduceLeDiff, Int.reduceNeg, List.replicate_succ, List.replicate_zero, true_and, and_true, List.length_map, and_pu, or_pu, tand_pu, tor_pu, idx_0, idx_1, if_tt, if_ff, dSl, dNo, dSo, slD, imm_cD, imm_wD, intsD, sAppIx, sExt, sApp, lsD, sFor, seq_sD, eq_str, ne_str, eq_int, ne_int, nc0, nc1, nc2, nc3, nc4, decide_true, decide_false, ne_eq, not_true_eq_false, Int.reduceEq, not_false_eq_true, Bool.or_false, Bool.or_true, Bool.false_or, Bool.true_or, List.all_cons, List.all_nil, id_eq])]
  simp (decide := true) (implicitDefEqProofs := false) only [bodyD, env0, sSeq, thenF, sIf, sRet, sRetN, sRetV, sSet, sSetN, sExpr, sNil, sAsg, sPar, resD, dV, dC, dOp, dUn, dNot, dAnd, dOr, dNotT, dAndT, dOrT, dB, dIf, dChain, dTup, dCons, dNil, dLst, dLstB, dCB, dCall, dCallK, dImm, dYes, a1, a2, bTup, bLst, bCons, bNil, bName, fSeq, seqOf, fRng1, fRng2, fEn, fZip, zip2, one1, ints1, ints2, asB, asI, negD, addD, subD, modD, ltD, gtD, geD, leD, isND, isnND, intOp, intOpC, lenD_lst, lenD_tup, lenD_frz, len_sD, tupleD, listD, absD, max2D, min2D, allD, isiD, tyN, isiT_tt, isiT_ii, isiT_ib, idxD, lsA, gw, gt, opt_some, opt_none, bd_pu, bd_fl, bd_bd, chk_true, chk_tt, D.imm, D.imms, D.isN, List.map_cons, List.map_nil, List.length_cons, List.length_nil, List.set_cons_zero, List.set_cons_succ, List.getElem?_cons_zero, List.getElem?_cons_succ, List.getElem?_nil, Option.bind_some, Option.bind_none, Option.join_some, Option.join_none, Option.map_some, Bool.and_true, Bool.true_and, Bool.and_false, Bool.false_and, Bool.not_true, Bool.not_false, Bool.false_eq_true, Bool.true_eq_false, if_true, if_false, ite_true, ite_false, List.cons_append, List.nil_append, List.append_nil, Nat.zero_add, Nat.reduceAdd, Nat.reduceSub, Nat.reduceLeDiff, Int.reduceNeg, List.replicate_succ, List.replicate_zero, true_and, and_true, List.length_map, and_pu, or_pu, tand_pu, tor_pu, idx_0, idx_1, if_tt, if_ff, dSl, dNo, dSo, slD, imm_cD, imm_wD, intsD, sAppIx, sExt, sApp, lsD, sFor, seq_sD, eq_str, ne_str, eq_int, ne_int, nc0, nc1, nc2, nc3, nc4, decide_true, decide_false, ne_eq, not_true_eq_false, Int.reduceEq, not_false_eq_true, Bool.or_false, Bool.or_true, Bool.false_or, Bool.true_or, List.all_cons, List.all_nil, id_eq, imms_cD]
  refine bd_for (fun i δ => ∃ x y z a b : Option D, δ = [some (D.tup [.tup (ws.map wD), .tup (cs.map cD)]), some (.lst (lkV ws.length (cs.take i))), x, y, z, a, b]) ⟨none, none, none, none, none, ?_⟩ ?_ ?_
  · have e : (ws.map wD).map (fun _ => D.lst []) = lkV ws.length (cs.take 0) := by
      unfold lkV
      refine List.ext_getElem (by simp) fun i h1 h2 => ?_
      simp [lks]
    rw [e]
  · rintro i d δ hd ⟨x, y, z, a, b, rfl⟩
    obtain ⟨c, hc, rfl⟩ := map_at cD cs hd
    obtain ⟨c1, c2, _⟩ := V.cok c (List.mem_of_getElem? hc)
    have hi : c.i < ws.length := by omega
    have bd1 : ∀ v, (lks v (cs.take i)).length < sizeLine := fun v => by
      have h1 := lks_len v (cs.take i)
      have h2 := V.few
      have h40 := V.n40
      have h3 : (cs.take i).length ≤ cs.length := by simp; omega
      exact Nat.lt_of_le_of_lt (show _ ≤ 2000 by omega) (by decide)
    have k1 : (lkV ws.length (cs.take i))[c.i]? = some (.lst ((lks c.i (cs.take i)).map kD)) := rng_at _ hi
    have k2 : ((lkV ws.length (cs.take i)).set c.i (.lst ((lks c.i (cs.take i)).map kD ++ [.tup [.int c.j, .int c.lo, .int c.hi]])))[c.j]? = some (.lst ((lks c.j (cs.take i)).map kD)) := by
      rw [List.getElem?_set_ne (by omega)]
      exact rng_at _ c2
    simp (decide := true) (implicitDefEqProofs := false) only [bodyD, env0, sSeq, thenF, sIf, sRet, sRetN, sRetV, sSet, sSetN, sExpr, sNil, sAsg, sPar, resD, dV, dC, dOp, dUn, dNot, dAnd, dOr, dNotT, dAndT, dOrT, dB, dIf, dChain, dTup, dCons, dNil, dLst, dLstB, dCB, dCall, dCallK, dImm, dYes, a1, a2, bTup, bLst, bCons, bNil, bName, fSeq, seqOf, fRng1, fRng2, fEn, fZip, zip2, one1, ints1, ints2, asB, asI, negD, addD, subD, modD, ltD, gtD, geD, leD, isND, isnND, intOp, intOpC, lenD_lst, lenD_tup, lenD_frz, len_sD, tupleD, listD, absD, max2D, min2D, allD, isiD, tyN, isiT_tt, isiT_ii, isiT_ib, idxD, lsA, gw, gt, opt_some, opt_none, bd_pu, bd_fl, bd_bd, chk_true, chk_tt, D.imm, D.imms, D.isN, List.map_cons, List.map_nil, List.length_cons, List.length_nil, List.set_cons_zero, List.set_cons_succ, List.getElem?_cons_zero, List.getElem?_cons_succ, List.getElem?_nil, Option.bind_some, Option.bind_none, Option.join_some, Option.join_none, Option.map_some, Bool.and_true, Bool.true_and, Bool.and_false, Bool.false_and, Bool.not_true, Bool.not_false, Bool.false_eq_true, Bool.true_eq_false, if_true, if_false, ite_true, ite_false, List.cons_append, List.nil_append, List.append_nil, Nat.zero_add, Nat.reduceAdd, Nat.reduceSub, Nat.reduceLeDiff, Int.reduceNeg, List.replicate_succ, List.replicate_zero, true_and, and_true, List.length_map, and_pu, or_pu, tand_pu, tor_pu, idx_0, idx_1, if_tt, if_ff, dSl, dNo, dSo, slD, imm_cD, imm_wD, intsD, sAppIx, sExt, sApp, lsD, sFor, seq_sD, eq_str, ne_str, eq_int, ne_int, nc0, nc1, nc2, nc3, nc4, decide_true, decide_false, ne_eq, not_true_eq_false, Int.reduceEq, not_false_eq_true, Bool.or_false, Bool.or_true, Bool.false_or, Bool.true_or, List.all_cons, List.all_nil, id_eq, cD, ixN_nat (lkV_len ws.length (cs.take i) ▸ hi), k1, imms_kD, bd1]
    simp (decide := true) (implicitDefEqProofs := false) only [bodyD, env0, sSeq, thenF, sIf, sRet, sRetN, sRetV, sSet, sSetN, sExpr, sNil, sAsg, sPar, resD, dV, dC, dOp, dUn, dNot, dAnd, dOr, dNotT, dAndT, dOrT, dB, dIf, dChain, dTup, dCons, dNil, dLst, dLstB, dCB, dCall, dCallK, dImm, dYes, a1, a2, bTup, bLst, bCons, bNil, bName, fSeq, seqOf, fRng1, fRng2, fEn, fZip, zip2, one1, ints1, ints2, asB, asI, negD, addD, subD, modD, ltD, gtD, geD, leD, isND, isnND, intOp, intOpC, lenD_lst, lenD_tup, lenD_frz, len_sD, tupleD, listD, absD, max2D, min2D, allD, isiD, tyN, isiT_tt, isiT_ii, isiT_ib, idxD, lsA, gw, gt, opt_some, opt_none, bd_pu, bd_fl, bd_bd, chk_true, chk_tt, D.imm, D.imms, D.isN, List.map_cons, List.map_nil, List.length_cons, List.length_nil, List.set_cons_zero, List.set_cons_succ, List.getElem?_cons_zero, List.getElem?_cons_succ, List.getElem?_nil, Option.bind_some, Option.bind_none, Option.join_some, Option.join_none, Option.map_some, Bool.and_true, Bool.true_and, Bool.and_false, Bool.false_and, Bool.not_true, Bool.not_false, Bool.false_eq_true, Bool.true_eq_false, if_true, if_false, ite_true, ite_false, List.cons_append, List.nil_append, List.append_nil, Nat.zero_add, Nat.reduceAdd, Nat.reduceSub, Nat.reduceLeDiff, Int.reduceNeg, List.replicate_succ, List.replicate_zero, true_and, and_true, List.length_map, and_pu, or_pu, tand_pu, tor_pu, idx_0, idx_1, if_tt, if_ff, dSl, dNo, dSo, slD, imm_cD, imm_wD, intsD, sAppIx, sExt, sApp, lsD, sFor, seq_sD, eq_str, ne_str, eq_int, ne_int, nc0, nc1, nc2, nc3, nc4, decide_true, decide_false, ne_eq, not_true_eq_false, Int.reduceEq, not_false_eq_true, Bool.or_false, Bool.or_true, Bool.false_or, Bool.true_or, List.all_cons, List.all_nil, id_eq, List.length_set, ixN_nat (lkV_len ws.length (cs.take i) ▸ c2), k2, imms_kD, bd1]
    rw [lkV_next _ _ _ (by omega), show cs.take i ++ [c] = cs.take (i + 1) by rw [List.take_succ, hc]; rfl]
    exact ⟨_, rfl, _, _, _, _, _, rfl⟩
  · rintro δ' ⟨x, y, z, a, b, rfl⟩
    simp (decide := true) (implicitDefEqProofs := false) only [bodyD, env0, sSeq, thenF, sIf, sRet, sRetN, sRetV, sSet, sSetN, sExpr, sNil, sAsg, sPar, resD, dV, dC, dOp, dUn, dNot, dAnd, dOr, dNotT, dAndT, dOrT, dB, dIf, dChain, dTup, dCons, dNil, dLst, dLstB, dCB, dCall, dCallK, dImm, dYes, a1, a2, bTup, bLst, bCons, bNil, bName, fSeq, seqOf, fRng1, fRng2, fEn, fZip, zip2, one1, ints1, ints2, asB, asI, negD, addD, subD, modD, ltD, gtD, geD, leD, isND, isnND, intOp, intOpC, lenD_lst, lenD_tup, lenD_frz, len_sD, tupleD, listD, absD, max2D, min2D, allD, isiD, tyN, isiT_tt, isiT_ii, isiT_ib, idxD, lsA, gw, gt, opt_some, opt_none, bd_pu, bd_fl, bd_bd, chk_true, chk_tt, D.imm, D.imms, D.isN, List.map_cons, List.map_nil, List.length_cons, List.length_nil, List.set_cons_zero, List.set_cons_succ, List.getElem?_cons_zero, List.getElem?_cons_succ, List.getElem?_nil, Option.bind_some, Option.bind_none, Option.join_some, Option.join_none, Option.map_some, Bool.and_true, Bool.true_and, Bool.and_false, Bool.false_and, Bool.not_true, Bool.not_false, Bool.false_eq_true, Bool.true_eq_false, if_true, if_false, ite_true, ite_false, List.cons_append, List.nil_append, List.append_nil, Nat.zero_add, Nat.reduceAdd, Nat.reduceSub, Nat.reduceLeDiff, Int.reduceNeg, List.replicate_succ, List.replicate_zero, true_and, and_true, List.length_map, and_pu, or_pu, tand_pu, tor_pu, idx_0, idx_1, if_tt, if_ff, dSl, dNo, dSo, slD, imm_cD, imm_wD, intsD, sAppIx, sExt, sApp, lsD, sFor, seq_sD, eq_str, ne_str, eq_int, ne_int, nc0, nc1, nc2, nc3, nc4, decide_true, decide_false, ne_eq, not_true_eq_false, Int.reduceEq, not_false_eq_true, Bool.or_false, Bool.or_true, Bool.false_or, Bool.true_or, List.all_cons, List.all_nil, id_eq, List.take_length]
/-! ### steps -/
/-- a link lets w move by g -/
def okL (ss : List Int) (w : Nat) (g : Int) (k : Lk) : Bool := decide (k.lo ≤ ss.getD k.o 0 - ss.getD w 0 - g) && decide (ss.getD k.o 0 - ss.getD w 0 - g ≤ k.hi)
def holdD : Option Lk → D
  | none => .non
  | some k => .int k.o
theorem find_first {α : Type} {p : α → Bool} {l : List α} {i : Nat} {a : α} (h : l[i]? = some a) (ha : p a = true) (hb : ∀ j, j < i → ∀ b, l[j]? = some b → p b = false) : l.find? p = some a := by
  induction l generalizing i with
  | nil => simp at h
  | cons x l ih =>
    cases i with
    | zero =>
      have e : x = a := by simpa using h
      subst e
      rw [List.find?_cons_of_pos ha]
    | succ i =>
      rw [List.find?_cons_of_neg (by rw [hb 0 (Nat.succ_pos _) x rfl]; exact Bool.false_ne_true)]
      exact ih (by simpa using h) fun j hj b q => hb (j + 1) (by omega) b (by simpa using q)
theorem lks_lt {cs : List Cp} {n v : Nat} (h : ∀ c ∈ cs, c.i < c.j ∧ c.j < n) : ∀ k ∈ lks v cs, k.o < n := by
  induction cs with
  | nil => intro k hk; cases hk
  | cons c cs ih =>
    intro k hk
    obtain ⟨c1, c2⟩ := h c List.mem_cons_self
    simp only [lks, List.mem_append] at hk
    rcases hk with (hk | hk) | hk
    · split at hk
      · rw [List.mem_singleton.mp hk]; exact c2
      · cases hk
    · split at hk
      · rw [List.mem_singleton.mp hk]; show c.i < n; omega
      · cases hk
    · exact ih (fun c hc => h c (List.mem_cons_of_mem _ hc)) k hk
theorem VY.lt {ws : List (Int × Int)} {cs : List Cp} (V : VY ws cs) {v : Nat} : ∀ k ∈ lks v cs, k.o < ws.length := lks_lt fun c hc => ⟨(V.cok c hc).1, (V.cok c hc).2.1⟩
theorem e_holder_of {ws : List (Int × Int)} {cs : List Cp} {ss : List Int} {w : Nat} {g : Int} (V : VY ws cs) (S : ss.length = ws.length) (hw : w < ws.length) :
    F_holder_of [.lst (lkV ws.length cs), sD ss, .int w, .int g] = pu (holdD ((lks w cs).find? fun k => !okL ss w g k)) := by
  unfold F_holder_of g_holder_of sD
  have k1 : (lkV ws.length cs)[w]? = some (.lst ((lks w cs).map kD)) := rng_at _ hw
  have hw' : w < ss.length := by rw [S]; exact hw
  simp (decide := true) (implicitDefEqProofs := false) only [bodyD, env0, sSeq, thenF, sIf, sRet, sRetN, sRetV, sSet, sSetN, sExpr, sNil, sAsg, sPar, resD, dV, dC, dOp, dUn, dNot, dAnd, dOr, dNotT, dAndT, dOrT, dB, dIf, dChain, dTup, dCons, dNil, dLst, dLstB, dCB, dCall, dCallK, dImm, dYes, a1, a2, bTup, bLst, bCons, bNil, bName, fSeq, seqOf, fRng1, fRng2, fEn, fZip, zip2, one1, ints1, ints2, asB, asI, negD, addD, subD, modD, ltD, gtD, geD, leD, isND, isnND, intOp, intOpC, lenD_lst, lenD_tup, lenD_frz, len_sD, tupleD, listD, absD, max2D, min2D, allD, isiD, tyN, isiT_tt, isiT_ii, isiT_ib, idxD, lsA, gw, gt, opt_some, opt_none, bd_pu, bd_fl, bd_bd, chk_true, chk_tt, D.imm, D.imms, D.isN, List.map_cons, List.map_nil, List.length_cons, List.length_nil, List.set_cons_zero, List.set_cons_succ, List.getElem?_cons_zero, List.getElem?_cons_succ, List.getElem?_nil, Option.bind_some, Option.bind_none, Option.join_some, Option.join_none, Option.map_some, Bool.and_true, Bool.true_and, Bool.and_false, Bool.false_and, Bool.not_true, Bool.not_false, Bool.false_eq_true, Bool.true_eq_false, if_true, if_false, ite_true, ite_false, List.cons_append, List.nil_append, List.append_nil, Nat.zero_add, Nat.reduceAdd, Nat.reduceSub, Nat.reduceLeDiff, Int.reduceNeg, List.replicate_succ, List.replicate_zero, true_and, and_true, List.length_map, and_pu, or_pu, tand_pu, tor_pu, idx_0, idx_1, if_tt, if_ff, dSl, dNo, dSo, slD, imm_cD, imm_wD, intsD, sAppIx, sExt, sApp, lsD, sFor, seq_sD, eq_str, ne_str, eq_int, ne_int, nc0, nc1, nc2, nc3, nc4, decide_true, decide_false, ne_eq, not_true_eq_false, Int.reduceEq, not_false_eq_true, Bool.or_false, Bool.or_true, Bool.false_or, Bool.true_or, List.all_cons, List.all_nil, id_eq, idx_nat k1, imms_kD]
  refine bd_forR (fun i δ => ∃ x y z : Option D, δ = [some (.lst (lkV ws.length cs)), some (.tup (ss.map D.int)), some (.int w), some (.int g), x, y, z]) (fun i => ∃ k, (lks w cs)[i]? = some k ∧ okL ss w g k = true) (fun i => match (lks w cs)[i]? with | some k => .int k.o | none => .non) ⟨none, none, none, rfl⟩ ?_ ?_ ?_
  · rintro i d δ hd ⟨x, y, z, rfl⟩
    obtain ⟨k, hk, rfl⟩ := map_at kD _ hd
    have ho : k.o < ss.length := by rw [S]; exact V.lt k (List.mem_of_getElem? hk)
    cases e : okL ss w g k with
    | true =>
      refine .inl ?_
      unfold okL at e
      simp (decide := true) (implicitDefEqProofs := false) only [bodyD, env0, sSeq, thenF, sIf, sRet, sRetN, sRetV, sSet, sSetN, sExpr, sNil, sAsg, sPar, resD, dV, dC, dOp, dUn, dNot, dAnd, dOr, dNotT, dAndT, dOrT, dB, dIf, dChain, dTup, dCons, dNil, dLst, dLstB, dCB, dCall, dCallK, dImm, dYes, a1, a2, bTup, bLst, bCons, bNil, bName, fSeq, seqOf, fRng1, fRng2, fEn, fZip, zip2, one1, ints1, ints2, asB, asI, negD, addD, subD, modD, ltD, gtD, geD, leD, isND, isnND, intOp, intOpC, lenD_lst, lenD_tup, lenD_frz, len_sD, tupleD, listD, absD, max2D, min2D, allD, isiD, tyN, isiT_tt, isiT_ii, isiT_ib, idxD, lsA, gw, gt, opt_some, opt_none, bd_pu, bd_fl, bd_bd, chk_true, chk_tt, D.imm, D.imms, D.isN, List.map_cons, List.map_nil, List.length_cons, List.length_nil, List.set_cons_zero, List.set_cons_succ, List.getElem?_cons_zero, List.getElem?_cons_succ, List.getElem?_nil, Option.bind_some, Option.bind_none, Option.join_some, Option.join_none, Option.map_some, Bool.and_true, Bool.true_and, Bool.and_false, Bool.false_and, Bool.not_true, Bool.not_false, Bool.false_eq_true, Bool.true_eq_false, if_true, if_false, ite_true, ite_false, List.cons_append, List.nil_append, List.append_nil, Nat.zero_add, Nat.reduceAdd, Nat.reduceSub, Nat.reduceLeDiff, Int.reduceNeg, List.replicate_succ, List.replicate_zero, true_and, and_true, List.length_map, and_pu, or_pu, tand_pu, tor_pu, idx_0, idx_1, if_tt, if_ff, dSl, dNo, dSo, slD, imm_cD, imm_wD, intsD, sAppIx, sExt, sApp, lsD, sFor, seq_sD, eq_str, ne_str, eq_int, ne_int, nc0, nc1, nc2, nc3, nc4, decide_true, decide_false, ne_eq, not_true_eq_false, Int.reduceEq, not_false_eq_true, Bool.or_false, Bool.or_true, Bool.false_or, Bool.true_or, List.all_cons, List.all_nil, id_eq, kD, idx_int ho, idx_int hw', e]
      exact ⟨_, rfl, ⟨_, _, _, rfl⟩, k, hk, e⟩
    | false =>
      refine .inr ?_
      rw [hk]
      unfold okL at e
      simp (decide := true) (implicitDefEqProofs := false) only [bodyD, env0, sSeq, thenF, sIf, sRet, sRetN, sRetV, sSet, sSetN, sExpr, sNil, sAsg, sPar, resD, dV, dC, dOp, dUn, dNot, dAnd, dOr, dNotT, dAndT, dOrT, dB, dIf, dChain, dTup, dCons, dNil, dLst, dLstB, dCB, dCall, dCallK, dImm, dYes, a1, a2, bTup, bLst, bCons, bNil, bName, fSeq, seqOf, fRng1, fRng2, fEn, fZip, zip2, one1, ints1, ints2, asB, asI, negD, addD, subD, modD, ltD, gtD, geD, leD, isND, isnND, intOp, intOpC, lenD_lst, lenD_tup, lenD_frz, len_sD, tupleD, listD, absD, max2D, min2D, allD, isiD, tyN, isiT_tt, isiT_ii, isiT_ib, idxD, lsA, gw, gt, opt_some, opt_none, bd_pu, bd_fl, bd_bd, chk_true, chk_tt, D.imm, D.imms, D.isN, List.map_cons, List.map_nil, List.length_cons, List.length_nil, List.set_cons_zero, List.set_cons_succ, List.getElem?_cons_zero, List.getElem?_cons_succ, List.getElem?_nil, Option.bind_some, Option.bind_none, Option.join_some, Option.join_none, Option.map_some, Bool.and_true, Bool.true_and, Bool.and_false, Bool.false_and, Bool.not_true, Bool.not_false, Bool.false_eq_true, Bool.true_eq_false, if_true, if_false, ite_true, ite_false, List.cons_append, List.nil_append, List.append_nil, Nat.zero_add, Nat.reduceAdd, Nat.reduceSub, Nat.reduceLeDiff, Int.reduceNeg, List.replicate_succ, List.replicate_zero, true_and, and_true, List.length_map, and_pu, or_pu, tand_pu, tor_pu, idx_0, idx_1, if_tt, if_ff, dSl, dNo, dSo, slD, imm_cD, imm_wD, intsD, sAppIx, sExt, sApp, lsD, sFor, seq_sD, eq_str, ne_str, eq_int, ne_int, nc0, nc1, nc2, nc3, nc4, decide_true, decide_false, ne_eq, not_true_eq_false, Int.reduceEq, not_false_eq_true, Bool.or_false, Bool.or_true, Bool.false_or, Bool.true_or, List.all_cons, List.all_nil, id_eq, kD, idx_int ho, idx_int hw', e]
      exact ⟨_, rfl, fun ⟨k', hk', e'⟩ => by
        cases hk'
        unfold okL at e'
        rw [e] at e'
        cases e'⟩
  · rintro δ' ⟨x, y, z, rfl⟩ h
    simp (decide := true) (implicitDefEqProofs := false) only [bodyD, env0, sSeq, thenF, sIf, sRet, sRetN, sRetV, sSet, sSetN, sExpr, sNil, sAsg, sPar, resD, dV, dC, dOp, dUn, dNot, dAnd, dOr, dNotT, dAndT, dOrT, dB, dIf, dChain, dTup, dCons, dNil, dLst, dLstB, dCB, dCall, dCallK, dImm, dYes, a1, a2, bTup, bLst, bCons, bNil, bName, fSeq, seqOf, fRng1, fRng2, fEn, fZip, zip2, one1, ints1, ints2, asB, asI, negD, addD, subD, modD, ltD, gtD, geD, leD, isND, isnND, intOp, intOpC, lenD_lst, lenD_tup, lenD_frz, len_sD, tupleD, listD, absD, max2D, min2D, allD, isiD, tyN, isiT_tt, isiT_ii, isiT_ib, idxD, lsA, gw, gt, opt_some, opt_none, bd_pu, bd_fl, bd_bd, chk_true, chk_tt, D.imm, D.imms, D.isN, List.map_cons, List.map_nil, List.length_cons, List.length_nil, List.set_cons_zero, List.set_cons_succ, List.getElem?_cons_zero, List.getElem?_cons_succ, List.getElem?_nil, Option.bind_some, Option.bind_none, Option.join_some, Option.join_none, Option.map_some, Bool.and_true, Bool.true_and, Bool.and_false, Bool.false_and, Bool.not_true, Bool.not_false, Bool.false_eq_true, Bool.true_eq_false, if_true, if_false, ite_true, ite_false, List.cons_append, List.nil_append, List.append_nil, Nat.zero_add, Nat.reduceAdd, Nat.reduceSub, Nat.reduceLeDiff, Int.reduceNeg, List.replicate_succ, List.replicate_zero, true_and, and_true, List.length_map, and_pu, or_pu, tand_pu, tor_pu, idx_0, idx_1, if_tt, if_ff, dSl, dNo, dSo, slD, imm_cD, imm_wD, intsD, sAppIx, sExt, sApp, lsD, sFor, seq_sD, eq_str, ne_str, eq_int, ne_int, nc0, nc1, nc2, nc3, nc4, decide_true, decide_false, ne_eq, not_true_eq_false, Int.reduceEq, not_false_eq_true, Bool.or_false, Bool.or_true, Bool.false_or, Bool.true_or, List.all_cons, List.all_nil, id_eq]
    have e : (lks w cs).find? (fun k => !okL ss w g k) = none := by
      refine List.find?_eq_none.mpr fun k hk => ?_
      obtain ⟨i, hi⟩ := List.mem_iff_getElem?.mp hk
      obtain ⟨k', hk', e⟩ := h i (by rw [List.length_map]; exact (List.getElem?_eq_some_iff.mp hi).1)
      rw [hi] at hk'
      cases hk'
      simp [e]
    rw [e]
    rfl
  · intro i δ' hi np bf
    have hi' : i < (lks w cs).length := by simpa using hi
    have hk := List.getElem?_eq_getElem hi'
    rw [hk]
    simp (decide := true) (implicitDefEqProofs := false) only [bodyD, env0, sSeq, thenF, sIf, sRet, sRetN, sRetV, sSet, sSetN, sExpr, sNil, sAsg, sPar, resD, dV, dC, dOp, dUn, dNot, dAnd, dOr, dNotT, dAndT, dOrT, dB, dIf, dChain, dTup, dCons, dNil, dLst, dLstB, dCB, dCall, dCallK, dImm, dYes, a1, a2, bTup, bLst, bCons, bNil, bName, fSeq, seqOf, fRng1, fRng2, fEn, fZip, zip2, one1, ints1, ints2, asB, asI, negD, addD, subD, modD, ltD, gtD, geD, leD, isND, isnND, intOp, intOpC, lenD_lst, lenD_tup, lenD_frz, len_sD, tupleD, listD, absD, max2D, min2D, allD, isiD, tyN, isiT_tt, isiT_ii, isiT_ib, idxD, lsA, gw, gt, opt_some, opt_none, bd_pu, bd_fl, bd_bd, chk_true, chk_tt, D.imm, D.imms, D.isN, List.map_cons, List.map_nil, List.length_cons, List.length_nil, List.set_cons_zero, List.set_cons_succ, List.getElem?_cons_zero, List.getElem?_cons_succ, List.getElem?_nil, Option.bind_some, Option.bind_none, Option.join_some, Option.join_none, Option.map_some, Bool.and_true, Bool.true_and, Bool.and_false, Bool.false_and, Bool.not_true, Bool.not_false, Bool.false_eq_true, Bool.true_eq_false, if_true, if_false, ite_true, ite_false, List.cons_append, List.nil_append, List.append_nil, Nat.zero_add, Nat.reduceAdd, Nat.reduceSub, Nat.reduceLeDiff, Int.reduceNeg, List.replicate_succ, List.replicate_zero, true_and, and_true, List.length_map, and_pu, or_pu, tand_pu, tor_pu, idx_0, idx_1, if_tt, if_ff, dSl, dNo, dSo, slD, imm_cD, imm_wD, intsD, sAppIx, sExt, sApp, lsD, sFor, seq_sD, eq_str, ne_str, eq_int, ne_int, nc0, nc1, nc2, nc3, nc4, decide_true, decide_false, ne_eq, not_true_eq_false, Int.reduceEq, not_false_eq_true, Bool.or_false, Bool.or_true, Bool.false_or, Bool.true_or, List.all_cons, List.all_nil, id_eq]
    have e1 : okL ss w g (lks w cs)[i] = false := by
      cases e : okL ss w g (lks w cs)[i] with
      | true => exact absurd ⟨_, hk, e⟩ np
      | false => rfl
    rw [find_first hk (by simp [e1]) fun j hj b hb => by
      obtain ⟨k', hk', e⟩ := bf j hj
      rw [hb] at hk'
      cases hk'
      simp [e]]
    rfl
end CY
namespace CY
open PySem L2 DL
/-- the far end for g -/
def wallOf (w : Int × Int) (g : Int) : Int := if g = 1 then w.2 else w.1
/-- w may step by g -/
def canB (ws : List (Int × Int)) (cs : List Cp) (ss : List Int) (w : Nat) (g : Int) : Bool := (!decide (ss.getD w 0 = wallOf (ws.getD w (0, 0)) g)) && (lks w cs).all (okL ss w g)
theorem getW {ws : List (Int × Int)} {w : Nat} (h : w < ws.length) : ws[w]? = some (ws.getD w (0, 0)) := by
  rw [List.getElem?_eq_getElem h, List.getD_eq_getElem?_getD, List.getElem?_eq_getElem h]
  rfl
theorem idx_w {ws : List (Int × Int)} {w : Nat} (h : w < ws.length) : idxL (ws.map wD) (w : Int) = pu (wD (ws.getD w (0, 0))) := by
  refine idx_nat ?_
  rw [List.getElem?_map, getW h]
  rfl
theorem e_is_at_wall {ws : List (Int × Int)} {cs : List Cp} {ss : List Int} {w : Nat} {g : Int} (S : ss.length = ws.length) (hw : w < ws.length) : F_is_at_wall [yD ws cs, sD ss, .int w, .int g] = pu (.bl (decide (ss.getD w 0 = wallOf (ws.getD w (0, 0)) g))) := by
  unfold F_is_at_wall g_is_at_wall yD sD
  have hw' : w < ss.length := by rw [S]; exact hw
  simp (decide := true) (implicitDefEqProofs := false) only [bodyD, env0, sSeq, thenF, sIf, sRet, sRetN, sRetV, sSet, sSetN, sExpr, sNil, sAsg, sPar, resD, dV, dC, dOp, dUn, dNot, dAnd, dOr, dNotT, dAndT, dOrT, dB, dIf, dChain, dTup, dCons, dNil, dLst, dLstB, dCB, dCall, dCallK, dImm, dYes, a1, a2, bTup, bLst, bCons, bNil, bName, fSeq, seqOf, fRng1, fRng2, fEn, fZip, zip2, one1, ints1, ints2, asB, asI, negD, addD, subD, modD, ltD, gtD, geD, leD, isND, isnND, intOp, intOpC, lenD_lst, lenD_tup, lenD_frz, len_sD, tupleD, listD, absD, max2D, min2D, allD, isiD, tyN, isiT_tt, isiT_ii, isiT_ib, idxD, lsA, gw, gt, opt_some, opt_none, bd_pu, bd_fl, bd_bd, chk_true, chk_tt, D.imm, D.imms, D.isN, List.map_cons, List.map_nil, List.length_cons, List.length_nil, List.set_cons_zero, List.set_cons_succ, List.getElem?_cons_zero, List.getElem?_cons_succ, List.getElem?_nil, Option.bind_some, Option.bind_none, Option.join_some, Option.join_none, Option.map_some, Bool.and_true, Bool.true_and, Bool.and_false, Bool.false_and, Bool.not_true, Bool.not_false, Bool.false_eq_true, Bool.true_eq_false, if_true, if_false, ite_true, ite_false, List.cons_append, List.nil_append, List.append_nil, Nat.zero_add, Nat.reduceAdd, Nat.reduceSub, Nat.reduceLeDiff, Int.reduceNeg, List.replicate_succ, List.replicate_zero, true_and, and_true, List.length_map, and_pu, or_pu, tand_pu, tor_pu, idx_0, idx_1, if_tt, if_ff, dSl, dNo, dSo, slD, imm_cD, imm_wD, intsD, sAppIx, sExt, sApp, lsD, sFor, seq_sD, eq_str, ne_str, eq_int, ne_int, nc0, nc1, nc2, nc3, nc4, decide_true, decide_false, ne_eq, not_true_eq_false, Int.reduceEq, not_false_eq_true, Bool.or_false, Bool.or_true, Bool.false_or, Bool.true_or, List.all_cons, List.all_nil, id_eq, idx_int hw', idx_w hw]
  unfold wallOf
  by_cases h : g = 1
  · rw [if_pos h, if_pos (decide_eq_true h)]
    simp (decide := true) (implicitDefEqProofs := false) only [bodyD, env0, sSeq, thenF, sIf, sRet, sRetN, sRetV, sSet, sSetN, sExpr, sNil, sAsg, sPar, resD, dV, dC, dOp, dUn, dNot, dAnd, dOr, dNotT, dAndT, dOrT, dB, dIf, dChain, dTup, dCons, dNil, dLst, dLstB, dCB, dCall, dCallK, dImm, dYes, a1, a2, bTup, bLst, bCons, bNil, bName, fSeq, seqOf, fRng1, fRng2, fEn, fZip, zip2, one1, ints1, ints2, asB, asI, negD, addD, subD, modD, ltD, gtD, geD, leD, isND, isnND, intOp, intOpC, lenD_lst, lenD_tup, lenD_frz, len_sD, tupleD, listD, absD, max2D, min2D, allD, isiD, tyN, isiT_tt, isiT_ii, isiT_ib, idxD, lsA, gw, gt, opt_some, opt_none, bd_pu, bd_fl, bd_bd, chk_true, chk_tt, D.imm, D.imms, D.isN, List.map_cons, List.map_nil, List.length_cons, List.length_nil, List.set_cons_zero, List.set_cons_succ, List.getElem?_cons_zero, List.getElem?_cons_succ, List.getElem?_nil, Option.bind_some, Option.bind_none, Option.join_some, Option.join_none, Option.map_some, Bool.and_true, Bool.true_and, Bool.and_false, Bool.false_and, Bool.not_true, Bool.not_false, Bool.false_eq_true, Bool.true_eq_false, if_true, if_false, ite_true, ite_false, List.cons_append, List.nil_append, List.append_nil, Nat.zero_add, Nat.reduceAdd, Nat.reduceSub, Nat.reduceLeDiff, Int.reduceNeg, List.replicate_succ, List.replicate_zero, true_and, and_true, List.length_map, and_pu, or_pu, tand_pu, tor_pu, idx_0, idx_1, if_tt, if_ff, dSl, dNo, dSo, slD, imm_cD, imm_wD, intsD, sAppIx, sExt, sApp, lsD, sFor, seq_sD, eq_str, ne_str, eq_int, ne_int, nc0, nc1, nc2, nc3, nc4, decide_true, decide_false, ne_eq, not_true_eq_false, Int.reduceEq, not_false_eq_true, Bool.or_false, Bool.or_true, Bool.false_or, Bool.true_or, List.all_cons, List.all_nil, id_eq, wD]
  · rw [if_neg h, if_neg (by simpa using h)]
    simp (decide := true) (implicitDefEqProofs := false) only [bodyD, env0, sSeq, thenF, sIf, sRet, sRetN, sRetV, sSet, sSetN, sExpr, sNil, sAsg, sPar, resD, dV, dC, dOp, dUn, dNot, dAnd, dOr, dNotT, dAndT, dOrT, dB, dIf, dChain, dTup, dCons, dNil, dLst, dLstB, dCB, dCall, dCallK, dImm, dYes, a1, a2, bTup, bLst, bCons, bNil, bName, fSeq, seqOf, fRng1, fRng2, fEn, fZip, zip2, one1, ints1, ints2, asB, asI, negD, addD, subD, modD, ltD, gtD, geD, leD, isND, isnND, intOp, intOpC, lenD_lst, lenD_tup, lenD_frz, len_sD, tupleD, listD, absD, max2D, min2D, allD, isiD, tyN, isiT_tt, isiT_ii, isiT_ib, idxD, lsA, gw, gt, opt_some, opt_none, bd_pu, bd_fl, bd_bd, chk_true, chk_tt, D.imm, D.imms, D.isN, List.map_cons, List.map_nil, List.length_cons, List.length_nil, List.set_cons_zero, List.set_cons_succ, List.getElem?_cons_zero, List.getElem?_cons_succ, List.getElem?_nil, Option.bind_some, Option.bind_none, Option.join_some, Option.join_none, Option.map_some, Bool.and_true, Bool.true_and, Bool.and_false, Bool.false_and, Bool.not_true, Bool.not_false, Bool.false_eq_true, Bool.true_eq_false, if_true, if_false, ite_true, ite_false, List.cons_append, List.nil_append, List.append_nil, Nat.zero_add, Nat.reduceAdd, Nat.reduceSub, Nat.reduceLeDiff, Int.reduceNeg, List.replicate_succ, List.replicate_zero, true_and, and_true, List.length_map, and_pu, or_pu, tand_pu, tor_pu, idx_0, idx_1, if_tt, if_ff, dSl, dNo, dSo, slD, imm_cD, imm_wD, intsD, sAppIx, sExt, sApp, lsD, sFor, seq_sD, eq_str, ne_str, eq_int, ne_int, nc0, nc1, nc2, nc3, nc4, decide_true, decide_false, ne_eq, not_true_eq_false, Int.reduceEq, not_false_eq_true, Bool.or_false, Bool.or_true, Bool.false_or, Bool.true_or, List.all_cons, List.all_nil, id_eq, wD]
theorem hold_isN (o : Option Lk) : (holdD o).isN = o.isNone := by cases o <;> rfl
theorem find_all {α : Type} (p : α → Bool) : ∀ l : List α, (l.find? fun k => !p k).isNone = l.all p
  | [] => rfl
  | a :: l => by
    rw [List.all_cons, ← find_all p l]
    cases e : p a with
    | true => rw [List.find?_cons_of_neg (by simp [e])]; simp
    | false => rw [List.find?_cons_of_pos (by simp [e])]; simp
theorem e_can_step {ws : List (Int × Int)} {cs : List Cp} {ss : List Int} {w : Nat} {g : Int} (V : VY ws cs) (S : ss.length = ws.length) (hw : w < ws.length) : F_can_step [yD ws cs, .lst (lkV ws.length cs), sD ss, .int w, .int g] = pu (.bl (canB ws cs ss w g)) := by
  unfold F_can_step g_can_step
  simp (decide := true) (implicitDefEqProofs := false) only [bodyD, env0, sSeq, thenF, sIf, sRet, sRetN, sRetV, sSet, sSetN, sExpr, sNil, sAsg, sPar, resD, dV, dC, dOp, dUn, dNot, dAnd, dOr, dNotT, dAndT, dOrT, dB, dIf, dChain, dTup, dCons, dNil, dLst, dLstB, dCB, dCall, dCallK, dImm, dYes, a1, a2, bTup, bLst, bCons, bNil, bName, fSeq, seqOf, fRng1, fRng2, fEn, fZip, zip2, one1, ints1, ints2, asB, asI, negD, addD, subD, modD, ltD, gtD, geD, leD, isND, isnND, intOp, intOpC, lenD_lst, lenD_tup, lenD_frz, len_sD, tupleD, listD, absD, max2D, min2D, allD, isiD, tyN, isiT_tt, isiT_ii, isiT_ib, idxD, lsA, gw, gt, opt_some, opt_none, bd_pu, bd_fl, bd_bd, chk_true, chk_tt, D.imm, D.imms, D.isN, List.map_cons, List.map_nil, List.length_cons, List.length_nil, List.set_cons_zero, List.set_cons_succ, List.getElem?_cons_zero, List.getElem?_cons_succ, List.getElem?_nil, Option.bind_some, Option.bind_none, Option.join_some, Option.join_none, Option.map_some, Bool.and_true, Bool.true_and, Bool.and_false, Bool.false_and, Bool.not_true, Bool.not_false, Bool.false_eq_true, Bool.true_eq_false, if_true, if_false, ite_true, ite_false, List.cons_append, List.nil_append, List.append_nil, Nat.zero_add, Nat.reduceAdd, Nat.reduceSub, Nat.reduceLeDiff, Int.reduceNeg, List.replicate_succ, List.replicate_zero, true_and, and_true, List.length_map, and_pu, or_pu, tand_pu, tor_pu, idx_0, idx_1, if_tt, if_ff, dSl, dNo, dSo, slD, imm_cD, imm_wD, intsD, sAppIx, sExt, sApp, lsD, sFor, seq_sD, eq_str, ne_str, eq_int, ne_int, nc0, nc1, nc2, nc3, nc4, decide_true, decide_false, ne_eq, not_true_eq_false, Int.reduceEq, not_false_eq_true, Bool.or_false, Bool.or_true, Bool.false_or, Bool.true_or, List.all_cons, List.all_nil, id_eq, e_is_at_wall S hw, e_holder_of V S hw]
  unfold canB
  cases e : (lks w cs).find? fun k => !okL ss w g k with
  | none =>
    have e2 := find_all (okL ss w g) (lks w cs)
    rw [e] at e2
    simp (decide := true) (implicitDefEqProofs := false) only [bodyD, env0, sSeq, thenF, sIf, sRet, sRetN, sRetV, sSet, sSetN, sExpr, sNil, sAsg, sPar, resD, dV, dC, dOp, dUn, dNot, dAnd, dOr, dNotT, dAndT, dOrT, dB, dIf, dChain, dTup, dCons, dNil, dLst, dLstB, dCB, dCall, dCallK, dImm, dYes, a1, a2, bTup, bLst, bCons, bNil, bName, fSeq, seqOf, fRng1, fRng2, fEn, fZip, zip2, one1, ints1, ints2, asB, asI, negD, addD, subD, modD, ltD, gtD, geD, leD, isND, isnND, intOp, intOpC, lenD_lst, lenD_tup, lenD_frz, len_sD, tupleD, listD, absD, max2D, min2D, allD, isiD, tyN, isiT_tt, isiT_ii, isiT_ib, idxD, lsA, gw, gt, opt_some, opt_none, bd_pu, bd_fl, bd_bd, chk_true, chk_tt, D.imm, D.imms, D.isN, List.map_cons, List.map_nil, List.length_cons, List.length_nil, List.set_cons_zero, List.set_cons_succ, List.getElem?_cons_zero, List.getElem?_cons_succ, List.getElem?_nil, Option.bind_some, Option.bind_none, Option.join_some, Option.join_none, Option.map_some, Bool.and_true, Bool.true_and, Bool.and_false, Bool.false_and, Bool.not_true, Bool.not_false, Bool.false_eq_true, Bool.true_eq_false, if_true, if_false, ite_true, ite_false, List.cons_append, List.nil_append, List.append_nil, Nat.zero_add, Nat.reduceAdd, Nat.reduceSub, Nat.reduceLeDiff, Int.reduceNeg, List.replicate_succ, List.replicate_zero, true_and, and_true, List.length_map, and_pu, or_pu, tand_pu, tor_pu, idx_0, idx_1, if_tt, if_ff, dSl, dNo, dSo, slD, imm_cD, imm_wD, intsD, sAppIx, sExt, sApp, lsD, sFor, seq_sD, eq_str, ne_str, eq_int, ne_int, nc0, nc1, nc2, nc3, nc4, decide_true, decide_false, ne_eq, not_true_eq_false, Int.reduceEq, not_false_eq_true, Bool.or_false, Bool.or_true, Bool.false_or, Bool.true_or, List.all_cons, List.all_nil, id_eq, holdD, ← e2, Option.isNone_none]
  | some k =>
    have e2 := find_all (okL ss w g) (lks w cs)
    rw [e] at e2
    simp (decide := true) (implicitDefEqProofs := false) only [bodyD, env0, sSeq, thenF, sIf, sRet, sRetN, sRetV, sSet, sSetN, sExpr, sNil, sAsg, sPar, resD, dV, dC, dOp, dUn, dNot, dAnd, dOr, dNotT, dAndT, dOrT, dB, dIf, dChain, dTup, dCons, dNil, dLst, dLstB, dCB, dCall, dCallK, dImm, dYes, a1, a2, bTup, bLst, bCons, bNil, bName, fSeq, seqOf, fRng1, fRng2, fEn, fZip, zip2, one1, ints1, ints2, asB, asI, negD, addD, subD, modD, ltD, gtD, geD, leD, isND, isnND, intOp, intOpC, lenD_lst, lenD_tup, lenD_frz, len_sD, tupleD, listD, absD, max2D, min2D, allD, isiD, tyN, isiT_tt, isiT_ii, isiT_ib, idxD, lsA, gw, gt, opt_some, opt_none, bd_pu, bd_fl, bd_bd, chk_true, chk_tt, D.imm, D.imms, D.isN, List.map_cons, List.map_nil, List.length_cons, List.length_nil, List.set_cons_zero, List.set_cons_succ, List.getElem?_cons_zero, List.getElem?_cons_succ, List.getElem?_nil, Option.bind_some, Option.bind_none, Option.join_some, Option.join_none, Option.map_some, Bool.and_true, Bool.true_and, Bool.and_false, Bool.false_and, Bool.not_true, Bool.not_false, Bool.false_eq_true, Bool.true_eq_false, if_true, if_false, ite_true, ite_false, List.cons_append, List.nil_append, List.append_nil, Nat.zero_add, Nat.reduceAdd, Nat.reduceSub, Nat.reduceLeDiff, Int.reduceNeg, List.replicate_succ, List.replicate_zero, true_and, and_true, List.length_map, and_pu, or_pu, tand_pu, tor_pu, idx_0, idx_1, if_tt, if_ff, dSl, dNo, dSo, slD, imm_cD, imm_wD, intsD, sAppIx, sExt, sApp, lsD, sFor, seq_sD, eq_str, ne_str, eq_int, ne_int, nc0, nc1, nc2, nc3, nc4, decide_true, decide_false, ne_eq, not_true_eq_false, Int.reduceEq, not_false_eq_true, Bool.or_false, Bool.or_true, Bool.false_or, Bool.true_or, List.all_cons, List.all_nil, id_eq, holdD, ← e2, Option.isNone_some]
def pD (p : Nat × Int) : D := .tup [.int p.1, .int p.2]
theorem imms_pD : ∀ (l : List (Nat × Int)), D.imms (l.map pD) = true
  | [] => rfl
  | a :: l => by simp only [List.map_cons, D.imms, imms_pD l]; rfl
/-- the steps of w that f allows -/
def stW (f : Nat → Int → Bool) (w : Nat) : List (Nat × Int) := ([-1, 1].filter (f w)).map fun g => (w, g)
def stA (f : Nat → Int → Bool) (n : Nat) : List (Nat × Int) := ((List.range n).map (stW f)).flatten
theorem stA_succ (f : Nat → Int → Bool) (n : Nat) : stA f (n + 1) = stA f n ++ stW f n := by
  unfold stA
  rw [List.range_succ, List.map_append, List.flatten_append]
  simp
theorem stW_len (f : Nat → Int → Bool) (w : Nat) : (stW f w).length ≤ 2 := by
  unfold stW
  rw [List.length_map]
  exact List.length_filter_le _ _
theorem stA_len (f : Nat → Int → Bool) : ∀ n, (stA f n).length ≤ 2 * n
  | 0 => Nat.le_refl _
  | n + 1 => by
    rw [stA_succ, List.length_append]
    have := stA_len f n
    have := stW_len f n
    omega
theorem rngD_at {n i : Nat} {d : D} (h : (rngD 0 n)[i]? = some d) : i < n ∧ d = .int i := by
  unfold rngD at h
  rw [List.getElem?_map] at h
  by_cases hi : i < n
  · rw [List.getElem?_range hi] at h
    have := Option.some.inj h
    rw [← this]
    exact ⟨hi, by simp⟩
  · rw [List.getElem?_eq_none (by simpa using hi)] at h
    cases h
theorem rngD_len {n : Nat} : (rngD 0 n).length = n := by simp [rngD]
def onI (p : Int → Bool) : D → Bool
  | .int g => p g
  | _ => false
theorem onI_int (p : Int → Bool) (g : Int) : onI p (.int g) = p g := rfl
theorem stW_D (f : Nat → Int → Bool) (w : Nat) : (([D.int (-1), D.int 1].filter (onI (f w))).map fun d => D.tup [.int (w : Nat), d]) = (stW f w).map pD := by
  unfold stW
  cases h1 : f w (-1) <;> cases h2 : f w 1 <;> simp [h1, h2, pD, onI]
theorem e_possible_steps {ws : List (Int × Int)} {cs : List Cp} {ss : List Int} (V : VY ws cs) (S : VS ws cs ss) : F_possible_steps [yD ws cs, sD ss] = pu (.tup ((stA (canB ws cs ss) ws.length).map pD)) := by
  unfold F_possible_steps g_possible_steps
  have hn : -(2 ^ 62) ≤ ((ws.length : Nat) : Int) ∧ ((ws.length : Nat) : Int) < 2 ^ 62 := by have := V.n40; omega
  simp (decide := true) (implicitDefEqProofs := false) only [bodyD, env0, sSeq, thenF, sIf, sRet, sRetN, sRetV, sSet, sSetN, sExpr, sNil, sAsg, sPar, resD, dV, dC, dOp, dUn, dNot, dAnd, dOr, dNotT, dAndT, dOrT, dB, dIf, dChain, dTup, dCons, dNil, dLst, dLstB, dCB, dCall, dCallK, dImm, dYes, a1, a2, bTup, bLst, bCons, bNil, bName, fSeq, seqOf, fRng1, fRng2, fEn, fZip, zip2, one1, ints1, ints2, asB, asI, negD, addD, subD, modD, ltD, gtD, geD, leD, isND, isnND, intOp, intOpC, lenD_lst, lenD_tup, lenD_frz, len_sD, tupleD, listD, absD, max2D, min2D, allD, isiD, tyN, isiT_tt, isiT_ii, isiT_ib, idxD, lsA, gw, gt, opt_some, opt_none, bd_pu, bd_fl, bd_bd, chk_true, chk_tt, D.imm, D.imms, D.isN, List.map_cons, List.map_nil, List.length_cons, List.length_nil, List.set_cons_zero, List.set_cons_succ, List.getElem?_cons_zero, List.getElem?_cons_succ, List.getElem?_nil, Option.bind_some, Option.bind_none, Option.join_some, Option.join_none, Option.map_some, Bool.and_true, Bool.true_and, Bool.and_false, Bool.false_and, Bool.not_true, Bool.not_false, Bool.false_eq_true, Bool.true_eq_false, if_true, if_false, ite_true, ite_false, List.cons_append, List.nil_append, List.append_nil, Nat.zero_add, Nat.reduceAdd, Nat.reduceSub, Nat.reduceLeDiff, Int.reduceNeg, List.replicate_succ, List.replicate_zero, true_and, and_true, List.length_map, and_pu, or_pu, tand_pu, tor_pu, idx_0, idx_1, if_tt, if_ff, dSl, dNo, dSo, slD, imm_cD, imm_wD, intsD, sAppIx, sExt, sApp, lsD, sFor, seq_sD, eq_str, ne_str, eq_int, ne_int, nc0, nc1, nc2, nc3, nc4, decide_true, decide_false, ne_eq, not_true_eq_false, Int.reduceEq, not_false_eq_true, Bool.or_false, Bool.or_true, Bool.false_or, Bool.true_or, List.all_cons, List.all_nil, id_eq, e_validate_arrangement V S, e_own_links V]
  simp (decide := true) (implicitDefEqProofs := false) only [bodyD, env0, sSeq, thenF, sIf, sRet, sRetN, sRetV, sSet, sSetN, sExpr, sNil, sAsg, sPar, resD, dV, dC, dOp, dUn, dNot, dAnd, dOr, dNotT, dAndT, dOrT, dB, dIf, dChain, dTup, dCons, dNil, dLst, dLstB, dCB, dCall, dCallK, dImm, dYes, a1, a2, bTup, bLst, bCons, bNil, bName, fSeq, seqOf, fRng1, fRng2, fEn, fZip, zip2, one1, ints1, ints2, asB, asI, negD, addD, subD, modD, ltD, gtD, geD, leD, isND, isnND, intOp, intOpC, lenD_lst, lenD_tup, lenD_frz, len_sD, tupleD, listD, absD, max2D, min2D, allD, isiD, tyN, isiT_tt, isiT_ii, isiT_ib, idxD, lsA, gw, gt, opt_some, opt_none, bd_pu, bd_fl, bd_bd, chk_true, chk_tt, D.imm, D.imms, D.isN, List.map_cons, List.map_nil, List.length_cons, List.length_nil, List.set_cons_zero, List.set_cons_succ, List.getElem?_cons_zero, List.getElem?_cons_succ, List.getElem?_nil, Option.bind_some, Option.bind_none, Option.join_some, Option.join_none, Option.map_some, Bool.and_true, Bool.true_and, Bool.and_false, Bool.false_and, Bool.not_true, Bool.not_false, Bool.false_eq_true, Bool.true_eq_false, if_true, if_false, ite_true, ite_false, List.cons_append, List.nil_append, List.append_nil, Nat.zero_add, Nat.reduceAdd, Nat.reduceSub, Nat.reduceLeDiff, Int.reduceNeg, List.replicate_succ, List.replicate_zero, true_and, and_true, List.length_map, and_pu, or_pu, tand_pu, tor_pu, idx_0, idx_1, if_tt, if_ff, dSl, dNo, dSo, slD, imm_cD, imm_wD, intsD, sAppIx, sExt, sApp, lsD, sFor, seq_sD, eq_str, ne_str, eq_int, ne_int, nc0, nc1, nc2, nc3, nc4, decide_true, decide_false, ne_eq, not_true_eq_false, Int.reduceEq, not_false_eq_true, Bool.or_false, Bool.or_true, Bool.false_or, Bool.true_or, List.all_cons, List.all_nil, id_eq, chk_pos hn, Int.toNat_natCast, S.len]
  refine bd_for (fun i δ => ∃ x y : Option D, δ = [some (yD ws cs), some (sD ss), some (.lst (lkV ws.length cs)), some (.lst ((stA (canB ws cs ss) i).map pD)), x, y]) ⟨none, none, rfl⟩ ?_ ?_
  · rintro i d δ hd ⟨x, y, rfl⟩
    obtain ⟨hi, rfl⟩ := rngD_at hd
    simp (decide := true) (implicitDefEqProofs := false) only [bodyD, env0, sSeq, thenF, sIf, sRet, sRetN, sRetV, sSet, sSetN, sExpr, sNil, sAsg, sPar, resD, dV, dC, dOp, dUn, dNot, dAnd, dOr, dNotT, dAndT, dOrT, dB, dIf, dChain, dTup, dCons, dNil, dLst, dLstB, dCB, dCall, dCallK, dImm, dYes, a1, a2, bTup, bLst, bCons, bNil, bName, fSeq, seqOf, fRng1, fRng2, fEn, fZip, zip2, one1, ints1, ints2, asB, asI, negD, addD, subD, modD, ltD, gtD, geD, leD, isND, isnND, intOp, intOpC, lenD_lst, lenD_tup, lenD_frz, len_sD, tupleD, listD, absD, max2D, min2D, allD, isiD, tyN, isiT_tt, isiT_ii, isiT_ib, idxD, lsA, gw, gt, opt_some, opt_none, bd_pu, bd_fl, bd_bd, chk_true, chk_tt, D.imm, D.imms, D.isN, List.map_cons, List.map_nil, List.length_cons, List.length_nil, List.set_cons_zero, List.set_cons_succ, List.getElem?_cons_zero, List.getElem?_cons_succ, List.getElem?_nil, Option.bind_some, Option.bind_none, Option.join_some, Option.join_none, Option.map_some, Bool.and_true, Bool.true_and, Bool.and_false, Bool.false_and, Bool.not_true, Bool.not_false, Bool.false_eq_true, Bool.true_eq_false, if_true, if_false, ite_true, ite_false, List.cons_append, List.nil_append, List.append_nil, Nat.zero_add, Nat.reduceAdd, Nat.reduceSub, Nat.reduceLeDiff, Int.reduceNeg, List.replicate_succ, List.replicate_zero, true_and, and_true, List.length_map, and_pu, or_pu, tand_pu, tor_pu, idx_0, idx_1, if_tt, if_ff, dSl, dNo, dSo, slD, imm_cD, imm_wD, intsD, sAppIx, sExt, sApp, lsD, sFor, seq_sD, eq_str, ne_str, eq_int, ne_int, nc0, nc1, nc2, nc3, nc4, decide_true, decide_false, ne_eq, not_true_eq_false, Int.reduceEq, not_false_eq_true, Bool.or_false, Bool.or_true, Bool.false_or, Bool.true_or, List.all_cons, List.all_nil, id_eq, dLc, wipeE]
    rw [lc_pick (onI (canB ws cs ss i)) (fun d => .tup [.int i, d]) [D.int (-1), D.int 1] [] (by exact small (show 0 + 2 ≤ 1000 by decide)) (fun d q => by
      obtain ⟨g, rfl⟩ : ∃ g, d = .int g := by
        simp only [List.mem_cons, List.not_mem_nil, or_false] at q
        rcases q with rfl | rfl
        · exact ⟨_, rfl⟩
        · exact ⟨_, rfl⟩
      refine ⟨_, by simp (decide := true) (implicitDefEqProofs := false) only [bodyD, env0, sSeq, thenF, sIf, sRet, sRetN, sRetV, sSet, sSetN, sExpr, sNil, sAsg, sPar, resD, dV, dC, dOp, dUn, dNot, dAnd, dOr, dNotT, dAndT, dOrT, dB, dIf, dChain, dTup, dCons, dNil, dLst, dLstB, dCB, dCall, dCallK, dImm, dYes, a1, a2, bTup, bLst, bCons, bNil, bName, fSeq, seqOf, fRng1, fRng2, fEn, fZip, zip2, one1, ints1, ints2, asB, asI, negD, addD, subD, modD, ltD, gtD, geD, leD, isND, isnND, intOp, intOpC, lenD_lst, lenD_tup, lenD_frz, len_sD, tupleD, listD, absD, max2D, min2D, allD, isiD, tyN, isiT_tt, isiT_ii, isiT_ib, idxD, lsA, gw, gt, opt_some, opt_none, bd_pu, bd_fl, bd_bd, chk_true, chk_tt, D.imm, D.imms, D.isN, List.map_cons, List.map_nil, List.length_cons, List.length_nil, List.set_cons_zero, List.set_cons_succ, List.getElem?_cons_zero, List.getElem?_cons_succ, List.getElem?_nil, Option.bind_some, Option.bind_none, Option.join_some, Option.join_none, Option.map_some, Bool.and_true, Bool.true_and, Bool.and_false, Bool.false_and, Bool.not_true, Bool.not_false, Bool.false_eq_true, Bool.true_eq_false, if_true, if_false, ite_true, ite_false, List.cons_append, List.nil_append, List.append_nil, Nat.zero_add, Nat.reduceAdd, Nat.reduceSub, Nat.reduceLeDiff, Int.reduceNeg, List.replicate_succ, List.replicate_zero, true_and, and_true, List.length_map, and_pu, or_pu, tand_pu, tor_pu, idx_0, idx_1, if_tt, if_ff, dSl, dNo, dSo, slD, imm_cD, imm_wD, intsD, sAppIx, sExt, sApp, lsD, sFor, seq_sD, eq_str, ne_str, eq_int, ne_int, nc0, nc1, nc2, nc3, nc4, decide_true, decide_false, ne_eq, not_true_eq_false, Int.reduceEq, not_false_eq_true, Bool.or_false, Bool.or_true, Bool.false_or, Bool.true_or, List.all_cons, List.all_nil, id_eq]; rfl, ?_, fun _ => ⟨?_, rfl⟩⟩
      · simp (decide := true) (implicitDefEqProofs := false) only [bodyD, env0, sSeq, thenF, sIf, sRet, sRetN, sRetV, sSet, sSetN, sExpr, sNil, sAsg, sPar, resD, dV, dC, dOp, dUn, dNot, dAnd, dOr, dNotT, dAndT, dOrT, dB, dIf, dChain, dTup, dCons, dNil, dLst, dLstB, dCB, dCall, dCallK, dImm, dYes, a1, a2, bTup, bLst, bCons, bNil, bName, fSeq, seqOf, fRng1, fRng2, fEn, fZip, zip2, one1, ints1, ints2, asB, asI, negD, addD, subD, modD, ltD, gtD, geD, leD, isND, isnND, intOp, intOpC, lenD_lst, lenD_tup, lenD_frz, len_sD, tupleD, listD, absD, max2D, min2D, allD, isiD, tyN, isiT_tt, isiT_ii, isiT_ib, idxD, lsA, gw, gt, opt_some, opt_none, bd_pu, bd_fl, bd_bd, chk_true, chk_tt, D.imm, D.imms, D.isN, List.map_cons, List.map_nil, List.length_cons, List.length_nil, List.set_cons_zero, List.set_cons_succ, List.getElem?_cons_zero, List.getElem?_cons_succ, List.getElem?_nil, Option.bind_some, Option.bind_none, Option.join_some, Option.join_none, Option.map_some, Bool.and_true, Bool.true_and, Bool.and_false, Bool.false_and, Bool.not_true, Bool.not_false, Bool.false_eq_true, Bool.true_eq_false, if_true, if_false, ite_true, ite_false, List.cons_append, List.nil_append, List.append_nil, Nat.zero_add, Nat.reduceAdd, Nat.reduceSub, Nat.reduceLeDiff, Int.reduceNeg, List.replicate_succ, List.replicate_zero, true_and, and_true, List.length_map, and_pu, or_pu, tand_pu, tor_pu, idx_0, idx_1, if_tt, if_ff, dSl, dNo, dSo, slD, imm_cD, imm_wD, intsD, sAppIx, sExt, sApp, lsD, sFor, seq_sD, eq_str, ne_str, eq_int, ne_int, nc0, nc1, nc2, nc3, nc4, decide_true, decide_false, ne_eq, not_true_eq_false, Int.reduceEq, not_false_eq_true, Bool.or_false, Bool.or_true, Bool.false_or, Bool.true_or, List.all_cons, List.all_nil, id_eq, e_can_step V S.len hi, onI_int]
      · simp (decide := true) (implicitDefEqProofs := false) only [bodyD, env0, sSeq, thenF, sIf, sRet, sRetN, sRetV, sSet, sSetN, sExpr, sNil, sAsg, sPar, resD, dV, dC, dOp, dUn, dNot, dAnd, dOr, dNotT, dAndT, dOrT, dB, dIf, dChain, dTup, dCons, dNil, dLst, dLstB, dCB, dCall, dCallK, dImm, dYes, a1, a2, bTup, bLst, bCons, bNil, bName, fSeq, seqOf, fRng1, fRng2, fEn, fZip, zip2, one1, ints1, ints2, asB, asI, negD, addD, subD, modD, ltD, gtD, geD, leD, isND, isnND, intOp, intOpC, lenD_lst, lenD_tup, lenD_frz, len_sD, tupleD, listD, absD, max2D, min2D, allD, isiD, tyN, isiT_tt, isiT_ii, isiT_ib, idxD, lsA, gw, gt, opt_some, opt_none, bd_pu, bd_fl, bd_bd, chk_true, chk_tt, D.imm, D.imms, D.isN, List.map_cons, List.map_nil, List.length_cons, List.length_nil, List.set_cons_zero, List.set_cons_succ, List.getElem?_cons_zero, List.getElem?_cons_succ, List.getElem?_nil, Option.bind_some, Option.bind_none, Option.join_some, Option.join_none, Option.map_some, Bool.and_true, Bool.true_and, Bool.and_false, Bool.false_and, Bool.not_true, Bool.not_false, Bool.false_eq_true, Bool.true_eq_false, if_true, if_false, ite_true, ite_false, List.cons_append, List.nil_append, List.append_nil, Nat.zero_add, Nat.reduceAdd, Nat.reduceSub, Nat.reduceLeDiff, Int.reduceNeg, List.replicate_succ, List.replicate_zero, true_and, and_true, List.length_map, and_pu, or_pu, tand_pu, tor_pu, idx_0, idx_1, if_tt, if_ff, dSl, dNo, dSo, slD, imm_cD, imm_wD, intsD, sAppIx, sExt, sApp, lsD, sFor, seq_sD, eq_str, ne_str, eq_int, ne_int, nc0, nc1, nc2, nc3, nc4, decide_true, decide_false, ne_eq, not_true_eq_false, Int.reduceEq, not_false_eq_true, Bool.or_false, Bool.or_true, Bool.false_or, Bool.true_or, List.all_cons, List.all_nil, id_eq])]
    rw [stW_D (canB ws cs ss) i]
    have hl : (stA (canB ws cs ss) i).length + (stW (canB ws cs ss) i).length ≤ sizeLine := by
      have h1 := stA_len (canB ws cs ss) i
      have h2 := stW_len (canB ws cs ss) i
      have h3 := V.n40
      exact Nat.le_trans (show _ ≤ 1000 by omega) (by decide)
    simp (decide := true) (implicitDefEqProofs := false) only [bodyD, env0, sSeq, thenF, sIf, sRet, sRetN, sRetV, sSet, sSetN, sExpr, sNil, sAsg, sPar, resD, dV, dC, dOp, dUn, dNot, dAnd, dOr, dNotT, dAndT, dOrT, dB, dIf, dChain, dTup, dCons, dNil, dLst, dLstB, dCB, dCall, dCallK, dImm, dYes, a1, a2, bTup, bLst, bCons, bNil, bName, fSeq, seqOf, fRng1, fRng2, fEn, fZip, zip2, one1, ints1, ints2, asB, asI, negD, addD, subD, modD, ltD, gtD, geD, leD, isND, isnND, intOp, intOpC, lenD_lst, lenD_tup, lenD_frz, len_sD, tupleD, listD, absD, max2D, min2D, allD, isiD, tyN, isiT_tt, isiT_ii, isiT_ib, idxD, lsA, gw, gt, opt_some, opt_none, bd_pu, bd_fl, bd_bd, chk_true, chk_tt, D.imm, D.imms, D.isN, List.map_cons, List.map_nil, List.length_cons, List.length_nil, List.set_cons_zero, List.set_cons_succ, List.getElem?_cons_zero, List.getElem?_cons_succ, List.getElem?_nil, Option.bind_some, Option.bind_none, Option.join_some, Option.join_none, Option.map_some, Bool.and_true, Bool.true_and, Bool.and_false, Bool.false_and, Bool.not_true, Bool.not_false, Bool.false_eq_true, Bool.true_eq_false, if_true, if_false, ite_true, ite_false, List.cons_append, List.nil_append, List.append_nil, Nat.zero_add, Nat.reduceAdd, Nat.reduceSub, Nat.reduceLeDiff, Int.reduceNeg, List.replicate_succ, List.replicate_zero, true_and, and_true, List.length_map, and_pu, or_pu, tand_pu, tor_pu, idx_0, idx_1, if_tt, if_ff, dSl, dNo, dSo, slD, imm_cD, imm_wD, intsD, sAppIx, sExt, sApp, lsD, sFor, seq_sD, eq_str, ne_str, eq_int, ne_int, nc0, nc1, nc2, nc3, nc4, decide_true, decide_false, ne_eq, not_true_eq_false, Int.reduceEq, not_false_eq_true, Bool.or_false, Bool.or_true, Bool.false_or, Bool.true_or, List.all_cons, List.all_nil, id_eq, imms_pD, hl]
    rw [← List.map_append, ← stA_succ]
    exact ⟨_, rfl, _, _, rfl⟩
  · rintro δ' ⟨x, y, rfl⟩
    rw [rngD_len]
    simp (decide := true) (implicitDefEqProofs := false) only [bodyD, env0, sSeq, thenF, sIf, sRet, sRetN, sRetV, sSet, sSetN, sExpr, sNil, sAsg, sPar, resD, dV, dC, dOp, dUn, dNot, dAnd, dOr, dNotT, dAndT, dOrT, dB, dIf, dChain, dTup, dCons, dNil, dLst, dLstB, dCB, dCall, dCallK, dImm, dYes, a1, a2, bTup, bLst, bCons, bNil, bName, fSeq, seqOf, fRng1, fRng2, fEn, fZip, zip2, one1, ints1, ints2, asB, asI, negD, addD, subD, modD, ltD, gtD, geD, leD, isND, isnND, intOp, intOpC, lenD_lst, lenD_tup, lenD_frz, len_sD, tupleD, listD, absD, max2D, min2D, allD, isiD, tyN, isiT_tt, isiT_ii, isiT_ib, idxD, lsA, gw, gt, opt_some, opt_none, bd_pu, bd_fl, bd_bd, chk_true, chk_tt, D.imm, D.imms, D.isN, List.map_cons, List.map_nil, List.length_cons, List.length_nil, List.set_cons_zero, List.set_cons_succ, List.getElem?_cons_zero, List.getElem?_cons_succ, List.getElem?_nil, Option.bind_some, Option.bind_none, Option.join_some, Option.join_none, Option.map_some, Bool.and_true, Bool.true_and, Bool.and_false, Bool.false_and, Bool.not_true, Bool.not_false, Bool.false_eq_true, Bool.true_eq_false, if_true, if_false, ite_true, ite_false, List.cons_append, List.nil_append, List.append_nil, Nat.zero_add, Nat.reduceAdd, Nat.reduceSub, Nat.reduceLeDiff, Int.reduceNeg, List.replicate_succ, List.replicate_zero, true_and, and_true, List.length_map, and_pu, or_pu, tand_pu, tor_pu, idx_0, idx_1, if_tt, if_ff, dSl, dNo, dSo, slD, imm_cD, imm_wD, intsD, sAppIx, sExt, sApp, lsD, sFor, seq_sD, eq_str, ne_str, eq_int, ne_int, nc0, nc1, nc2, nc3, nc4, decide_true, decide_false, ne_eq, not_true_eq_false, Int.reduceEq, not_false_eq_true, Bool.or_false, Bool.or_true, Bool.false_or, Bool.true_or, List.all_cons, List.all_nil, id_eq, imms_pD]
end CY
namespace CY
open PySem L2 DL
theorem e_is_step {ws : List (Int × Int)} {cs : List Cp} {w : Nat} {g : Int} (hw : w < ws.length) (hg : g = -1 ∨ g = 1) : F_is_step [yD ws cs, .tup [.int w, .int g]] = pu (.bl true) := by
  unfold F_is_step g_is_step yD
  have b1 : (decide ((0 : Int) ≤ (w : Nat)) && decide (((w : Nat) : Int) ≤ (ws.length : Nat) - 1)) = true := dand (by omega) (by omega)
  have b2 : (decide ((-1 : Int) ≤ g) && decide (g ≤ 1)) = true := dand (by omega) (by omega)
  have b3 : decide (¬ g = 0) = true := decide_eq_true (by omega)
  simp (decide := true) (implicitDefEqProofs := false) only [bodyD, env0, sSeq, thenF, sIf, sRet, sRetN, sRetV, sSet, sSetN, sExpr, sNil, sAsg, sPar, resD, dV, dC, dOp, dUn, dNot, dAnd, dOr, dNotT, dAndT, dOrT, dB, dIf, dChain, dTup, dCons, dNil, dLst, dLstB, dCB, dCall, dCallK, dImm, dYes, a1, a2, bTup, bLst, bCons, bNil, bName, fSeq, seqOf, fRng1, fRng2, fEn, fZip, zip2, one1, ints1, ints2, asB, asI, negD, addD, subD, modD, ltD, gtD, geD, leD, isND, isnND, intOp, intOpC, lenD_lst, lenD_tup, lenD_frz, len_sD, tupleD, listD, absD, max2D, min2D, allD, isiD, tyN, isiT_tt, isiT_ii, isiT_ib, idxD, lsA, gw, gt, opt_some, opt_none, bd_pu, bd_fl, bd_bd, chk_true, chk_tt, D.imm, D.imms, D.isN, List.map_cons, List.map_nil, List.length_cons, List.length_nil, List.set_cons_zero, List.set_cons_succ, List.getElem?_cons_zero, List.getElem?_cons_succ, List.getElem?_nil, Option.bind_some, Option.bind_none, Option.join_some, Option.join_none, Option.map_some, Bool.and_true, Bool.true_and, Bool.and_false, Bool.false_and, Bool.not_true, Bool.not_false, Bool.false_eq_true, Bool.true_eq_false, if_true, if_false, ite_true, ite_false, List.cons_append, List.nil_append, List.append_nil, Nat.zero_add, Nat.reduceAdd, Nat.reduceSub, Nat.reduceLeDiff, Int.reduceNeg, List.replicate_succ, List.replicate_zero, true_and, and_true, List.length_map, and_pu, or_pu, tand_pu, tor_pu, idx_0, idx_1, if_tt, if_ff, dSl, dNo, dSo, slD, imm_cD, imm_wD, intsD, sAppIx, sExt, sApp, lsD, sFor, seq_sD, eq_str, ne_str, eq_int, ne_int, nc0, nc1, nc2, nc3, nc4, decide_true, decide_false, ne_eq, not_true_eq_false, Int.reduceEq, not_false_eq_true, Bool.or_false, Bool.or_true, Bool.false_or, Bool.true_or, List.all_cons, List.all_nil, id_eq, e_is_between, b1, b2, b3]
theorem e_validate_step {ws : List (Int × Int)} {cs : List Cp} {w : Nat} {g : Int} (hw : w < ws.length) (hg : g = -1 ∨ g = 1) : F_validate_step [yD ws cs, .tup [.int w, .int g]] = pu .non := by
  unfold F_validate_step g_validate_step
  simp (decide := true) (implicitDefEqProofs := false) only [bodyD, env0, sSeq, thenF, sIf, sRet, sRetN, sRetV, sSet, sSetN, sExpr, sNil, sAsg, sPar, resD, dV, dC, dOp, dUn, dNot, dAnd, dOr, dNotT, dAndT, dOrT, dB, dIf, dChain, dTup, dCons, dNil, dLst, dLstB, dCB, dCall, dCallK, dImm, dYes, a1, a2, bTup, bLst, bCons, bNil, bName, fSeq, seqOf, fRng1, fRng2, fEn, fZip, zip2, one1, ints1, ints2, asB, asI, negD, addD, subD, modD, ltD, gtD, geD, leD, isND, isnND, intOp, intOpC, lenD_lst, lenD_tup, lenD_frz, len_sD, tupleD, listD, absD, max2D, min2D, allD, isiD, tyN, isiT_tt, isiT_ii, isiT_ib, idxD, lsA, gw, gt, opt_some, opt_none, bd_pu, bd_fl, bd_bd, chk_true, chk_tt, D.imm, D.imms, D.isN, List.map_cons, List.map_nil, List.length_cons, List.length_nil, List.set_cons_zero, List.set_cons_succ, List.getElem?_cons_zero, List.getElem?_cons_succ, List.getElem?_nil, Option.bind_some, Option.bind_none, Option.join_some, Option.join_none, Option.map_some, Bool.and_true, Bool.true_and, Bool.and_false, Bool.false_and, Bool.not_true, Bool.not_false, Bool.false_eq_true, Bool.true_eq_false, if_true, if_false, ite_true, ite_false, List.cons_append, List.nil_append, List.append_nil, Nat.zero_add, Nat.reduceAdd, Nat.reduceSub, Nat.reduceLeDiff, Int.reduceNeg, List.replicate_succ, List.replicate_zero, true_and, and_true, List.length_map, and_pu, or_pu, tand_pu, tor_pu, idx_0, idx_1, if_tt, if_ff, dSl, dNo, dSo, slD, imm_cD, imm_wD, intsD, sAppIx, sExt, sApp, lsD, sFor, seq_sD, eq_str, ne_str, eq_int, ne_int, nc0, nc1, nc2, nc3, nc4, decide_true, decide_false, ne_eq, not_true_eq_false, Int.reduceEq, not_false_eq_true, Bool.or_false, Bool.or_true, Bool.false_or, Bool.true_or, List.all_cons, List.all_nil, id_eq, e_is_step hw hg]
theorem e_is_possible {ws : List (Int × Int)} {cs : List Cp} {ss : List Int} {w : Nat} {g : Int} (V : VY ws cs) (S : VS ws cs ss) (hw : w < ws.length) (hg : g = -1 ∨ g = 1) : F_is_possible [yD ws cs, sD ss, .tup [.int w, .int g]] = pu (.bl (canB ws cs ss w g)) := by
  unfold F_is_possible g_is_possible
  simp (decide := true) (implicitDefEqProofs := false) only [bodyD, env0, sSeq, thenF, sIf, sRet, sRetN, sRetV, sSet, sSetN, sExpr, sNil, sAsg, sPar, resD, dV, dC, dOp, dUn, dNot, dAnd, dOr, dNotT, dAndT, dOrT, dB, dIf, dChain, dTup, dCons, dNil, dLst, dLstB, dCB, dCall, dCallK, dImm, dYes, a1, a2, bTup, bLst, bCons, bNil, bName, fSeq, seqOf, fRng1, fRng2, fEn, fZip, zip2, one1, ints1, ints2, asB, asI, negD, addD, subD, modD, ltD, gtD, geD, leD, isND, isnND, intOp, intOpC, lenD_lst, lenD_tup, lenD_frz, len_sD, tupleD, listD, absD, max2D, min2D, allD, isiD, tyN, isiT_tt, isiT_ii, isiT_ib, idxD, lsA, gw, gt, opt_some, opt_none, bd_pu, bd_fl, bd_bd, chk_true, chk_tt, D.imm, D.imms, D.isN, List.map_cons, List.map_nil, List.length_cons, List.length_nil, List.set_cons_zero, List.set_cons_succ, List.getElem?_cons_zero, List.getElem?_cons_succ, List.getElem?_nil, Option.bind_some, Option.bind_none, Option.join_some, Option.join_none, Option.map_some, Bool.and_true, Bool.true_and, Bool.and_false, Bool.false_and, Bool.not_true, Bool.not_false, Bool.false_eq_true, Bool.true_eq_false, if_true, if_false, ite_true, ite_false, List.cons_append, List.nil_append, List.append_nil, Nat.zero_add, Nat.reduceAdd, Nat.reduceSub, Nat.reduceLeDiff, Int.reduceNeg, List.replicate_succ, List.replicate_zero, true_and, and_true, List.length_map, and_pu, or_pu, tand_pu, tor_pu, idx_0, idx_1, if_tt, if_ff, dSl, dNo, dSo, slD, imm_cD, imm_wD, intsD, sAppIx, sExt, sApp, lsD, sFor, seq_sD, eq_str, ne_str, eq_int, ne_int, nc0, nc1, nc2, nc3, nc4, decide_true, decide_false, ne_eq, not_true_eq_false, Int.reduceEq, not_false_eq_true, Bool.or_false, Bool.or_true, Bool.false_or, Bool.true_or, List.all_cons, List.all_nil, id_eq, e_validate_arrangement V S, e_validate_step hw hg, e_own_links V, e_can_step V S.len hw]
/-! ### what the walls and couplings allow -/
def holdsB (ws : List (Int × Int)) (cs : List Cp) (ss : List Int) : Bool := ((ws.zip ss).all fun p => decide (p.1.1 ≤ p.2) && decide (p.2 ≤ p.1.2)) && cs.all fun c => decide (c.lo ≤ ss.getD c.j 0 - ss.getD c.i 0) && decide (ss.getD c.j 0 - ss.getD c.i 0 ≤ c.hi)
def mvd (ss : List Int) (w : Nat) (g : Int) : List Int := ss.set w (ss.getD w 0 + g)
theorem getD_set {l : List Int} {w v : Nat} {x : Int} (h : w < l.length) : (l.set w x).getD v 0 = if v = w then x else l.getD v 0 := by
  rw [List.getD_eq_getElem?_getD, List.getD_eq_getElem?_getD]
  by_cases e : v = w
  · subst e; rw [if_pos rfl, List.getElem?_set_self h]; rfl
  · rw [if_neg e, List.getElem?_set_ne (fun z => e z.symm)]
theorem zip_all {ws : List (Int × Int)} {ss : List Int} (hl : ss.length = ws.length) (p : Int × Int → Int → Prop) [∀ a b, Decidable (p a b)] : ((ws.zip ss).all fun q => decide (p q.1 q.2)) = true ↔ ∀ v w, ws[v]? = some w → p w (ss.getD v 0) := by
  rw [List.all_eq_true]
  constructor
  · intro h v w hv
    have hv' : v < ws.length := (List.getElem?_eq_some_iff.mp hv).1
    have hs : ss[v]? = some (ss.getD v 0) := getD_at (α := Int) (by omega)
    have hz : (ws.zip ss)[v]? = some (w, ss.getD v 0) := by
      rw [List.getElem?_zip_eq_some]
      exact ⟨hv, hs⟩
    exact of_decide_eq_true (h _ (List.mem_of_getElem? hz))
  · intro h q hq
    obtain ⟨v, hv⟩ := List.mem_iff_getElem?.mp hq
    obtain ⟨h1, h2⟩ := List.getElem?_zip_eq_some.mp hv
    have hs : ss.getD v 0 = q.2 := by rw [List.getD_eq_getElem?_getD, h2]; rfl
    have := h v q.1 h1
    rw [hs] at this
    exact decide_eq_true this
theorem holds_iff {ws : List (Int × Int)} {cs : List Cp} {ss : List Int} (hl : ss.length = ws.length) : holdsB ws cs ss = true ↔ VS ws cs ss := by
  unfold holdsB
  have e : ((ws.zip ss).all fun p => decide (p.1.1 ≤ p.2) && decide (p.2 ≤ p.1.2)) = ((ws.zip ss).all fun p => decide (p.1.1 ≤ p.2 ∧ p.2 ≤ p.1.2)) := by
    congr 1
    funext p
    simp [Bool.decide_and]
  rw [e, Bool.and_eq_true, zip_all hl (fun a b => a.1 ≤ b ∧ b ≤ a.2), List.all_eq_true]
  constructor
  · rintro ⟨h1, h2⟩
    exact ⟨hl, h1, fun c hc => by simpa using h2 c hc⟩
  · intro S
    exact ⟨S.wal, fun c hc => by simpa using S.cpl c hc⟩
theorem lks_all {p : Lk → Bool} {v : Nat} : ∀ {cs : List Cp}, (lks v cs).all p = true ↔ ∀ c ∈ cs, (c.i = v → p ⟨c.j, c.lo, c.hi⟩ = true) ∧ (c.j = v → p ⟨c.i, -c.hi, -c.lo⟩ = true)
  | [] => by simp [lks]
  | c :: cs => by
    simp only [lks, List.all_append, Bool.and_eq_true, lks_all (cs := cs), List.forall_mem_cons]
    constructor
    · rintro ⟨⟨h1, h2⟩, h3⟩
      refine ⟨⟨fun e => ?_, fun e => ?_⟩, h3⟩
      · simpa [e] using h1
      · simpa [e] using h2
    · rintro ⟨⟨h1, h2⟩, h3⟩
      refine ⟨⟨?_, ?_⟩, h3⟩
      · by_cases e : c.i = v
        · simp [e, h1 e]
        · simp [e]
      · by_cases e : c.j = v
        · simp [e, h2 e]
        · simp [e]
/-- THE LAW of steps: a step can be made where the moved places hold -/
theorem can_iff {ws : List (Int × Int)} {cs : List Cp} {ss : List Int} {w : Nat} {g : Int} (V : VY ws cs) (S : VS ws cs ss) (hw : w < ws.length) (hg : g = -1 ∨ g = 1) : canB ws cs ss w g = holdsB ws cs (mvd ss w g) := by
  have hw' : w < ss.length := by rw [S.len]; exact hw
  have hl : (mvd ss w g).length = ws.length := by unfold mvd; rw [List.length_set, S.len]
  rw [Bool.eq_iff_iff, holds_iff hl]
  have gm : ∀ v, (mvd ss w g).getD v 0 = if v = w then ss.getD w 0 + g else ss.getD v 0 := fun v => getD_set hw'
  obtain ⟨s1, s2⟩ := S.wal w _ (getW hw)
  unfold canB
  rw [Bool.and_eq_true, lks_all]
  simp only [Bool.not_eq_true', decide_eq_false_iff_not]
  constructor
  · rintro ⟨h1, h2⟩
    refine ⟨hl, fun v u hv => ?_, fun c hc => ?_⟩
    · rw [gm]
      by_cases e : v = w
      · subst e
        rw [if_pos rfl]
        have eu : u = ws.getD v (0, 0) := by rw [getW hw] at hv; exact (Option.some.inj hv).symm
        subst eu
        unfold wallOf at h1
        rcases hg with rfl | rfl
        · rw [if_neg (by decide)] at h1; omega
        · rw [if_pos rfl] at h1; omega
      · rw [if_neg e]; exact S.wal v u hv
    · obtain ⟨c1, c2, _⟩ := V.cok c hc
      obtain ⟨p1, p2⟩ := S.cpl c hc
      obtain ⟨q1, q2⟩ := h2 c hc
      rw [gm, gm]
      by_cases e1 : c.i = w
      · have := q1 e1
        unfold okL at this
        simp only [Bool.and_eq_true, decide_eq_true_eq] at this
        rw [if_neg (by omega), if_pos e1]
        omega
      · by_cases e2 : c.j = w
        · have := q2 e2
          unfold okL at this
          simp only [Bool.and_eq_true, decide_eq_true_eq] at this
          rw [if_pos e2, if_neg e1]
          omega
        · rw [if_neg e2, if_neg e1]
          exact ⟨p1, p2⟩
  · intro T
    refine ⟨fun h => ?_, fun c hc => ?_⟩
    · have := T.wal w _ (getW hw)
      rw [gm, if_pos rfl] at this
      unfold wallOf at h
      rcases hg with rfl | rfl
      · rw [if_neg (by decide)] at h; omega
      · rw [if_pos rfl] at h; omega
    · obtain ⟨c1, c2, _⟩ := V.cok c hc
      have t := T.cpl c hc
      rw [gm, gm] at t
      refine ⟨fun e => ?_, fun e => ?_⟩
      · rw [if_neg (by omega), if_pos e] at t
        unfold okL
        simp only [Bool.and_eq_true, decide_eq_true_eq]
        omega
      · rw [if_pos e, if_neg (by omega)] at t
        unfold okL
        simp only [Bool.and_eq_true, decide_eq_true_eq]
        omega
end CY
namespace CY
open PySem L2 DL
/-! ### repr -/
mutual
/-- of small whole numbers, bools, None, tuples, lists -/
def rok : D → Bool
  | .non => true
  | .bl _ => true
  | .int i => decide (i.natAbs < 10 ^ 30)
  | .str s => s.cps.toList.all fun c => decide (c < 16 ^ 8)
  | .lst ds => roks ds
  | .frz ds => roks ds
  | .tup ds => roks ds
  | _ => false
def roks : List D → Bool
  | [] => true
  | d :: ds => rok d && roks ds
end
mutual
def wt : D → Nat
  | .lst ds => wts ds
  | .frz ds => wts ds
  | .tup ds => wts ds
  | .int _ => 101
  | .str s => s.cps.size
  | _ => 0
def wts : List D → Nat
  | [] => 0
  | d :: ds => wt d + 1 + wts ds
end
mutual
def dpt : D → Nat
  | .lst ds => dpts ds + 1
  | .frz ds => dpts ds + 1
  | .tup ds => dpts ds + 1
  | _ => 0
def dpts : List D → Nat
  | [] => 0
  | d :: ds => max (dpt d) (dpts ds)
end
theorem int_leaf {i : Int} (h : i.natAbs < 10 ^ 30) : (PyData.shown (.int i)).length ≤ 31 := by
  have e : (PyData.shown (.int i)) = Str.ofString (toString i) := rfl
  rw [e, ofString_length]
  exact int_text_length_le10 (by decide) h
mutual
theorem rok_py : ∀ d : D, rok d = true → ∃ p, d.py = some p ∧ p.showable = true ∧ p.depth = dpt d ∧ p.leavesShort 31 = true ∧ p.weight ≤ wt d
  | .non, _ => ⟨_, rfl, rfl, rfl, rfl, Nat.le_refl _⟩
  | .bl _, _ => ⟨_, rfl, rfl, rfl, rfl, Nat.le_refl _⟩
  | .int i, h => by
    have h' : i.natAbs < 10 ^ 30 := by simpa only [rok, decide_eq_true_eq] using h
    have hb : i.natAbs < 2 ^ 100 := Nat.lt_trans h' (by decide)
    have hl := PySem.Flt.log2_lt_of (by decide) hb
    refine ⟨_, rfl, by simp only [PyData.showable, decide_eq_true_eq]; omega, rfl, by simp only [PyData.leavesShort, decide_eq_true_eq]; exact int_leaf h', ?_⟩
    show (if i == 0 then 0 else i.natAbs.log2 + 1) ≤ 101
    split <;> omega
  | .str s, h => ⟨.str s, rfl, rfl, rfl, by simpa only [PyData.leavesShort, rok] using h, Nat.le_refl _⟩
  | .lst ds, h => by
    obtain ⟨ps, e, h1, h2, h3, h4⟩ := roks_py ds (by simpa [rok] using h)
    exact ⟨.list ps, by simp [D.py, e], by simpa [PyData.showable] using h1, by simp [PyData.depth, dpt, h2], by simpa [PyData.leavesShort] using h3, by simpa only [PyData.weight, wt] using h4⟩
  | .frz ds, h => by
    obtain ⟨ps, e, h1, h2, h3, h4⟩ := roks_py ds (by simpa [rok] using h)
    exact ⟨.list ps, by simp [D.py, e], by simpa [PyData.showable] using h1, by simp [PyData.depth, dpt, h2], by simpa [PyData.leavesShort] using h3, by simpa only [PyData.weight, wt] using h4⟩
  | .tup ds, h => by
    obtain ⟨ps, e, h1, h2, h3, h4⟩ := roks_py ds (by simpa [rok] using h)
    exact ⟨.tuple ps, by simp [D.py, e], by simpa [PyData.showable] using h1, by simp [PyData.depth, dpt, h2], by simpa [PyData.leavesShort] using h3, by simpa only [PyData.weight, wt] using h4⟩
theorem roks_py : ∀ ds : List D, roks ds = true → ∃ ps, D.pys ds = some ps ∧ PyData.showableAll ps = true ∧ PyData.depthAll ps = dpts ds ∧ PyData.leavesShortAll 31 ps = true ∧ PyData.weightAll ps ≤ wts ds
  | [], _ => ⟨[], rfl, rfl, rfl, rfl, Nat.le_refl _⟩
  | d :: ds, h => by
    have h' : rok d = true ∧ roks ds = true := by simpa [roks] using h
    obtain ⟨p, e, h1, h2, h3, h4⟩ := rok_py d h'.1
    obtain ⟨ps, e', g1, g2, g3, g4⟩ := roks_py ds h'.2
    exact ⟨p :: ps, by simp [D.pys, e, e'], by simp [PyData.showableAll, h1, g1], by simp [PyData.depthAll, dpts, h2, g2], by simp [PyData.leavesShortAll, h3, g3], by simp only [PyData.weightAll, wts]; omega⟩
end
/-- its text -/
def shD (d : D) : Str := match d.py with
  | some p => p.shown
  | none => Str.empty
theorem e_repr {d : D} (h : rok d = true) (hd : dpt d ≤ 60) (hw : wt d ≤ 500000) : reprD d = pu (.str (shD d)) := by
  obtain ⟨p, e, h1, h2, h3, h4⟩ := rok_py d h
  have hs := PyData.shown_le 31 (by decide) p h3
  have hl : p.shown.length ≤ sizeLine := Nat.le_trans hs (Nat.le_trans (show _ ≤ 33 * 500000 + 31 by omega) (by decide))
  unfold reprD shD
  rw [e, opt_some, chk_pos ⟨h1, by rw [h2]; exact hd, hl⟩]
end CY
namespace CY
open PySem L2 DL
abbrev N_need_all : List Str := ["yard", "arrangements", "arrangement"]
def g_need_all : DL.Env → DL.W (Fl × DL.Env) := (sSeq (sExpr (dCall F_validate_yard (dCons (dV 0) dNil))) (sFor (fSeq (dV 1)) (bName 2) (sExpr (dCall F_need_arrangement (dCons (dV 0) (dCons (dV 2) dNil))))))
def F_need_all : List D → DL.W D := bodyD 2 N_need_all.length g_need_all
abbrev N_own_distances : List Str := ["start", "goal", "one", "other"]
def g_own_distances : DL.Env → DL.W (Fl × DL.Env) := (sRetN (dLc [2, 3] (fZip (dCons (dV 0) (dCons (dV 1) dNil))) (bTup 2 (bCons (bName 2) (bCons (bName 3) bNil))) dYes (dCB (a1 absD) (dCons (dOp subD (dV 2) (dV 3)) dNil))))
def F_own_distances : List D → DL.W D := bodyD 2 N_own_distances.length g_own_distances
abbrev N_distance : List Str := ["yard", "start", "goal"]
def g_distance : DL.Env → DL.W (Fl × DL.Env) := (sSeq (sExpr (dCall F_need_all (dCons (dV 0) (dCons (dTup (dCons (dV 1) (dCons (dV 2) dNil))) dNil)))) (sRet (dCB (a1 sumD) (dCons (dCall F_own_distances (dCons (dV 1) (dCons (dV 2) dNil))) dNil))))
def F_distance : List D → DL.W D := bodyD 3 N_distance.length g_distance
abbrev N_stretch : List Str := ["yard", "start", "goal"]
def g_stretch : DL.Env → DL.W (Fl × DL.Env) := (sSeq (sExpr (dCall F_need_all (dCons (dV 0) (dCons (dTup (dCons (dV 1) (dCons (dV 2) dNil))) dNil)))) (sRet (dCB (a1 maxLD) (dCons (dCall F_own_distances (dCons (dV 1) (dCons (dV 2) dNil))) dNil))))
def F_stretch : List D → DL.W D := bodyD 3 N_stretch.length g_stretch
abbrev N_is_allowed : List Str := ["yard", "places"]
def g_is_allowed : DL.Env → DL.W (Fl × DL.Env) := (sRet (dOp isND (dCall F_arrangement_problem (dCons (dV 0) (dCons (dV 1) dNil))) (dC .non)))
def F_is_allowed : List D → DL.W D := bodyD 2 N_is_allowed.length g_is_allowed
abbrev N_is_arrangement : List Str := ["yard", "value"]
def g_is_arrangement : DL.Env → DL.W (Fl × DL.Env) := (sSeq (sExpr (dCall F_validate_yard (dCons (dV 0) dNil))) (sRetN (dCall F_is_allowed (dCons (dV 0) (dCons (dV 1) dNil)))))
def F_is_arrangement : List D → DL.W D := bodyD 2 N_is_arrangement.length g_is_arrangement
abbrev N_minimum : List Str := ["yard", "arrangements", "wagon", "places"]
def g_minimum : DL.Env → DL.W (Fl × DL.Env) := (sSeq (sExpr (dCall F_need_all (dCons (dV 0) (dCons (dV 1) dNil)))) (sRet (dCB (a1 tupleD) (dCons (dLc [2] (fRng1 (dCons (dCB (a1 lenD) (dCons (dOp idxD (dV 0) (dC (.int 0))) dNil)) dNil)) (bName 2) dYes (dCB (a1 minLD) (dCons (dLc [3] (fSeq (dV 1)) (bName 3) dYes (dOp idxD (dV 3) (dV 2))) dNil))) dNil))))
def F_minimum : List D → DL.W D := starD 1 (bodyD 2 N_minimum.length g_minimum)
abbrev N_maximum : List Str := ["yard", "arrangements", "wagon", "places"]
def g_maximum : DL.Env → DL.W (Fl × DL.Env) := (sSeq (sExpr (dCall F_need_all (dCons (dV 0) (dCons (dV 1) dNil)))) (sRet (dCB (a1 tupleD) (dCons (dLc [2] (fRng1 (dCons (dCB (a1 lenD) (dCons (dOp idxD (dV 0) (dC (.int 0))) dNil)) dNil)) (bName 2) dYes (dCB (a1 maxLD) (dCons (dLc [3] (fSeq (dV 1)) (bName 3) dYes (dOp idxD (dV 3) (dV 2))) dNil))) dNil))))
def F_maximum : List D → DL.W D := starD 1 (bodyD 2 N_maximum.length g_maximum)
end CY
namespace DB
open PySem L2 DL CY
abbrev N__law_begun : List Str := ["script"]
/-- a draw: any number below t -/
def F__law_next : List D → DL.W D := fun ds Q _ n => ∃ t : Int, ds = [.src, .int t] ∧ 0 < t ∧ t < 2 ^ 40 ∧ n < 2 ^ 50 ∧ ∀ r : Int, 0 ≤ r → r < t → Q (.int r) (n + 1)
theorem ln__law_next : Ln 2 F__law_next := fun ds _ _ _ h => by obtain ⟨t, e, _⟩ := h; rw [e]; rfl
abbrev N__law_next : List Str := ["m", "total", "found", "k", "cell", "number"]
abbrev N__law_of : List Str := ["m", "items"]
def g__law_of : DL.Env → DL.W (Fl × DL.Env) := (sRet (dOp idxD (dV 1) (dCall F__law_next (dCons (dV 0) (dCons (dCB (a1 lenD) (dCons (dV 1) dNil)) dNil)))))
def F__law_of : List D → DL.W D := bodyD 2 N__law_of.length g__law_of
abbrev N__law_shuffled : List Str := ["m", "items", "left", "found"]
def g__law_shuffled : DL.Env → DL.W (Fl × DL.Env) := (sSeq (sPar 2 3 (dCB (a1 listD) (dCons (dV 1) dNil)) (dLst dNil)) (sSeq (sWh (dB (dOp neS (dV 2) (dLstB dNil))) (sAppPop 3 2 (dCall F__law_next (dCons (dV 0) (dCons (dCB (a1 lenD) (dCons (dV 2) dNil)) dNil))))) (sRetV 3)))
def F__law_shuffled : List D → DL.W D := bodyD 2 N__law_shuffled.length g__law_shuffled
abbrev N__law_lot : List Str := ["m", "most", "many", "far", "row", "line", "rows", "k", "i", "j", "below", "above", "walls", "spot"]
def g__law_lot : DL.Env → DL.W (Fl × DL.Env) := (sSeq (sPar 2 3 (dImm (dOp addD (dC (.int 1)) (dCall F__law_next (dCons (dV 0) (dCons (dV 1) dNil))))) (dImm (dOp idxD (dLstB (dCons (dC (.int 4)) (dCons (dC (.int 12)) (dCons (dC (.int 300)) (dCons (dOp mulD (dC (.int 4)) (dOp powD (dC (.int 10)) (dC (.int 8)))) dNil))))) (dCall F__law_next (dCons (dV 0) (dCons (dC (.int 4)) dNil)))))) (sSeq (sSetN 4 (dLc [7] (fRng1 (dCons (dV 2) dNil)) (bName 7) dYes (dOp subD (dCall F__law_next (dCons (dV 0) (dCons (dOp addD (dOp mulD (dC (.int 2)) (dV 3)) (dC (.int 1))) dNil))) (dV 3)))) (sSeq (sPar 5 6 (dCall F__law_shuffled (dCons (dV 0) (dCons (listRng (dCons (dV 2) dNil)) dNil))) (dLst dNil)) (sSeq (sFor (fRng2 (dCons (dC (.int 1)) (dCons (dV 2) dNil))) (bName 7) (sIf (dB (dOp gtD (dCall F__law_next (dCons (dV 0) (dCons (dC (.int 5)) dNil))) (dC (.int 0)))) (sSeq (sAsg (dCB (a1 sortID) (dCons (dLstB (dCons (dOp idxD (dV 5) (dV 7)) (dCons (dOp idxD (dV 5) (dCall F__law_next (dCons (dV 0) (dCons (dV 7) dNil)))) dNil))) dNil)) (bLst 2 (bCons (bName 8) (bCons (bName 9) bNil)))) (sSeq (sPar 10 11 (dCall F__law_of (dCons (dV 0) (dCons (dLstB (dCons (dC (.int 0)) (dCons (dC (.int 1)) (dCons (dC (.int 2)) (dCons (dV 3) dNil))))) dNil))) (dCall F__law_of (dCons (dV 0) (dCons (dLstB (dCons (dC (.int 0)) (dCons (dC (.int 1)) (dCons (dC (.int 3)) (dCons (dV 3) dNil))))) dNil)))) (sApp 6 (dTup (dCons (dV 8) (dCons (dV 9) (dCons (dOp subD (dOp subD (dOp idxD (dV 4) (dV 9)) (dOp idxD (dV 4) (dV 8))) (dV 10)) (dCons (dOp addD (dOp addD (dOp subD (dOp idxD (dV 4) (dV 9)) (dOp idxD (dV 4) (dV 8))) (dV 11)) (dCB (a1 int1D) (dCons (dOp eqS (dOp addD (dV 10) (dV 11)) (dC (.int 0))) dNil))) dNil)))))))) sNil)) (sSeq (sSetN 12 (dLst dNil)) (sSeq (sFor (fSeq (dV 4)) (bName 13) (sApp 12 (dTup (dCons (dOp subD (dV 13) (dCall F__law_of (dCons (dV 0) (dCons (dLstB (dCons (dC (.int 0)) (dCons (dC (.int 1)) (dCons (dC (.int 5)) (dCons (dV 3) dNil))))) dNil)))) (dCons (dOp addD (dV 13) (dCall F__law_of (dCons (dV 0) (dCons (dLstB (dCons (dC (.int 0)) (dCons (dC (.int 1)) (dCons (dC (.int 5)) (dCons (dV 3) dNil))))) dNil)))) dNil))))) (sRet (dTup (dCons (dTup (dCons (dCB (a1 tupleD) (dCons (dV 12) dNil)) (dCons (dCB (a1 tupleD) (dCons (dCB (a1 sortTD) (dCons (dV 6) dNil)) dNil)) dNil))) (dCons (dCB (a1 tupleD) (dCons (dV 4) dNil)) dNil))))))))))
def F__law_lot : List D → DL.W D := bodyD 2 N__law_lot.length g__law_lot
abbrev N__law_room : List Str := ["lot", "row", "v", "low", "high", "i", "j", "least", "greatest"]
def g__law_room : DL.Env → DL.W (Fl × DL.Env) := (sSeq (sAsg (dOp idxD (dOp idxD (dV 0) (dC (.int 0))) (dV 2)) (bTup 2 (bCons (bName 3) (bCons (bName 4) bNil)))) (sSeq (sFor (fSeq (dOp idxD (dV 0) (dC (.int 1)))) (bTup 4 (bCons (bName 5) (bCons (bName 6) (bCons (bName 7) (bCons (bName 8) bNil))))) (sSeq (sIf (dB (dOp eqS (dV 6) (dV 2))) (sPar 3 4 (dImm (dCB (a2 max2D) (dCons (dV 3) (dCons (dOp addD (dOp idxD (dV 1) (dV 5)) (dV 7)) dNil)))) (dImm (dCB (a2 min2D) (dCons (dV 4) (dCons (dOp addD (dOp idxD (dV 1) (dV 5)) (dV 8)) dNil))))) sNil) (sIf (dB (dOp eqS (dV 5) (dV 2))) (sPar 3 4 (dImm (dCB (a2 max2D) (dCons (dV 3) (dCons (dOp subD (dOp idxD (dV 1) (dV 6)) (dV 8)) dNil)))) (dImm (dCB (a2 min2D) (dCons (dV 4) (dCons (dOp subD (dOp idxD (dV 1) (dV 6)) (dV 7)) dNil))))) sNil))) (sRet (dTup (dCons (dV 3) (dCons (dV 4) dNil))))))
def F__law_room : List D → DL.W D := bodyD 3 N__law_room.length g__law_room
abbrev N__law_moved : List Str := ["m", "lot", "row", "found", "turn", "v", "low", "high"]
def g__law_moved : DL.Env → DL.W (Fl × DL.Env) := (sSeq (sSetN 3 (dCB (a1 listD) (dCons (dV 2) dNil))) (sSeq (sFor (fRng1 (dCons (dCall F__law_next (dCons (dV 0) (dCons (dC (.int 4)) dNil))) dNil)) (bName 4) (sFor (fSeq (dCall F__law_shuffled (dCons (dV 0) (dCons (listRng (dCons (dCB (a1 lenD) (dCons (dV 2) dNil)) dNil)) dNil)))) (bName 5) (sSeq (sAsg (dCall F__law_room (dCons (dV 1) (dCons (dV 3) (dCons (dV 5) dNil)))) (bTup 2 (bCons (bName 6) (bCons (bName 7) bNil)))) (sPut 3 (dV 5) (dCall F__law_of (dCons (dV 0) (dCons (dLstB (dCons (dV 6) (dCons (dV 7) (dCons (dOp idxD (dV 3) (dV 5)) (dCons (dOp addD (dV 6) (dCall F__law_next (dCons (dV 0) (dCons (dOp addD (dOp subD (dV 7) (dV 6)) (dC (.int 1))) dNil)))) dNil))))) dNil))))))) (sRet (dCB (a1 tupleD) (dCons (dV 3) dNil)))))
def F__law_moved : List D → DL.W D := bodyD 3 N__law_moved.length g__law_moved
end DB
namespace DB
open PySem L2 DL CY
def nI (l : List Nat) : List Int := l.map fun v : Nat => (v : Int)
theorem pys_int : ∀ l : List Int, D.pys (l.map D.int) = some (l.map PyData.int)
  | [] => rfl
  | p :: l => by simp [D.pys, D.py, pys_int l]
theorem lay_int : ∀ l : List Int, PyData.canLayAll0 (l.map PyData.int) = true
  | [] => rfl
  | p :: l => by simp [PyData.canLayAll0, lay_int l, PyData.canLay0]
theorem dep_int : ∀ l : List Int, PyData.depthAll (l.map PyData.int) ≤ 0
  | [] => Nat.le_refl _
  | p :: l => by
    have := dep_int l
    simp only [List.map_cons, PyData.depthAll, PyData.depth]
    omega
theorem ne_nilI (l : List Int) : neS (.lst (l.map D.int)) (.lst []) = pu (.bl (!l.isEmpty)) := by
  have := dep_int l
  have hs : SeqAt.shaped (.list (l.map PyData.int)) = true := Bool.and_eq_true_iff.mpr ⟨lay_int l, decide_eq_true (by show PyData.depthAll (l.map PyData.int) + 1 ≤ 64; omega)⟩
  show neD _ _ = _
  unfold neD eqvD
  have e : (D.lst (l.map D.int)).py = some (.list (l.map PyData.int)) := by simp [D.py, pys_int]
  have e2 : (D.lst []).py = some (.list []) := by simp [D.py, D.pys]
  rw [e, opt_some, e2, opt_some, chk_pos ⟨hs, rfl⟩]
  cases l <;> simp [PyData.eqv, PyData.eqvAll]
theorem rngD_nI (n : Nat) : rngD 0 n = (nI (List.range n)).map D.int := by
  unfold rngD nI
  rw [List.map_map]
  simp
theorem erase_map {α β : Type} (f : α → β) : ∀ (k : Nat) (l : List α), (l.map f).eraseIdx k = (l.eraseIdx k).map f
  | _, [] => by simp
  | 0, a :: l => rfl
  | k + 1, a :: l => by simp [erase_map f k l]
theorem erase_perm {α : Type} : ∀ (k : Nat) (l : List α) (h : k < l.length), (l[k] :: l.eraseIdx k).Perm l
  | _, [], h => absurd h (Nat.not_lt_zero _)
  | 0, a :: l, _ => List.Perm.refl _
  | k + 1, a :: l, h => by
    have ih := erase_perm k l (by simpa using h)
    simp only [List.getElem_cons_succ, List.eraseIdx_cons_succ]
    exact (List.Perm.swap _ _ _).trans (ih.cons a)
theorem relabel_cf {env : PySem.Env} : ∀ {names : List (Str × NameKind)} {x : Str}, (names.lookup x = some .cell ∨ names.lookup x = some .free) →
    ((names.map fun (n, k) => if (k == NameKind.free && env.scope.kind == .function && env.kindOf n == some .cell) then (n, NameKind.cell) else (n, k)).lookup x = some .cell ∨ (names.map fun (n, k) => if (k == NameKind.free && env.scope.kind == .function && env.kindOf n == some .cell) then (n, NameKind.cell) else (n, k)).lookup x = some .free)
  | [], _, h => by simp at h
  | (n, k) :: r, x, h => by
    have ih := @relabel_cf env r x
    show List.lookup x ((if (k == NameKind.free && env.scope.kind == .function && env.kindOf n == some .cell) = true then (n, NameKind.cell) else (n, k)) :: _) = _ ∨ List.lookup x ((if (k == NameKind.free && env.scope.kind == .function && env.kindOf n == some .cell) = true then (n, NameKind.cell) else (n, k)) :: _) = _
    cases hx : x == n with
    | true =>
      simp only [List.lookup_cons, hx] at h
      by_cases hc : (k == NameKind.free && env.scope.kind == .function && env.kindOf n == some .cell) = true
      · rw [if_pos hc]; simp [List.lookup_cons, hx]
      · rw [if_neg hc]; simp only [List.lookup_cons, hx]; exact h
    | false =>
      simp only [List.lookup_cons, hx] at h
      by_cases hc : (k == NameKind.free && env.scope.kind == .function && env.kindOf n == some .cell) = true
      · rw [if_pos hc]; simp only [List.lookup_cons, hx]; exact ih h
      · rw [if_neg hc]; simp only [List.lookup_cons, hx]; exact ih h
theorem blkOk_in {X : Cx} {s : Shared} {H : Hp} {scope scope2 : Scope} {C : Addr} {cl : List (Str × Addr)} {env : PySem.Env} {fp : List Addr} {own2 : List (Str × Nat)} (b : BlkOk X.N scope scope2 own2) : BlkOk (X.blk s H scope (compEnvC scope cl C env) fp).N (X.blk s H scope (compEnvC scope cl C env) fp).env.scope scope2 own2 :=
  ⟨b.kind, b.uniq, b.ix, fun y hy e => relabel_cf (b.free y hy e), b.own⟩
/-! the source's heap, family B -/
structure Ds (K : PySem.W.Frag) (H0 H : Hp) (d l : Addr) (xs : List Int) (t f : Int) : Prop where
  hd : H d = some (.dK (dkv l t f))
  hl : ScrL K H l (xs.map V.int)
  kp : ∀ b o, H0 b = some o → b ≠ d → H b = some o
  dm : ∀ b, H0 b ≠ none → H b ≠ none
theorem scr_ne {K : PySem.W.Frag} {H : Hp} {l : Addr} {xs : List V} (h : ScrL K H l xs) {H' : Hp} (k : ∀ b o, H b = some o → ¬ Mut (some o) → H' b = some o) : ScrL K H' l xs := h.elim (fun ⟨o, e⟩ => .inl ⟨o, k _ _ e fun z => z⟩) .inr
theorem Ds.fresh {K : PySem.W.Frag} {H0 H : Hp} {d l : Addr} {xs : List Int} {t f : Int} (D : Ds K H0 H d l xs t f) {p : Addr} (hp : H p = none) (o : HO) : Ds K H0 (upd H p o) d l xs t f := by
  have n : ∀ {b : Addr} {u : HO}, H b = some u → b ≠ p := fun e z => by rw [z, hp] at e; cases e
  exact ⟨by rw [upd_ne (n D.hd)]; exact D.hd, scr_ne D.hl fun b o e _ => by rw [upd_ne (n e)]; exact e, fun b u e m => by rw [upd_ne (n (D.kp b u e m))]; exact D.kp b u e m, fun b e => by
    by_cases z : b = p
    · rw [z, upd_same]; exact fun z => nomatch z
    · rw [upd_ne z]; exact D.dm b e⟩
theorem Ds.put {K : PySem.W.Frag} {H0 H : Hp} {d l : Addr} {xs : List Int} {t f : Int} (D : Ds K H0 H d l xs t f) (t' f' : Int) : Ds K H0 (upd H d (.dK (dkv l t' f'))) d l xs t' f' :=
  ⟨upd_same, scr_ne D.hl fun b o e m => by rw [upd_ne (fun z : b = d => m (by rw [z, D.hd] at e; cases e; trivial))]; exact e, fun b u e m => by rw [upd_ne m]; exact D.kp b u e m, fun b e => by
    by_cases z : b = d
    · rw [z, upd_same]; exact fun z => nomatch z
    · rw [upd_ne z]; exact D.dm b e⟩
theorem Ds.kpG {K : PySem.W.Frag} {G : Gx K} {H0 H : Hp} {d l : Addr} {xs : List Int} {t f : Int} (D : Ds K H0 H d l xs t f) (hrt : G.rt = some d) (hS : G.S = [d]) (x63 : xs.length ≤ 63) {n0 n1 : Nat} (ok : G.ok H0 n0) (h0 : 0 ≤ t) (h1 : t ≤ n1) : Kp G H0 H n1 :=
  ⟨fun b o e n => D.kp b o e (fun z => n (by rw [hS, z]; simp)), D.dm, ⟨_, ok⟩, (G.fam d hrt H _).mpr ⟨l, xs, t, f, hS, x63, h0, h1, D.hd, D.hl⟩⟩
def gNo (K : PySem.W.Frag) : Gx K := ⟨none, [], fun _ _ => True, fun _ _ _ _ _ _ => trivial, fun _ _ _ _ z => (nomatch z), fun _ z => (nomatch z)⟩
theorem dpS {K : PySem.W.Frag} {H : Hp} {a : Addr} {ns : List Int} (h : ScrL K H a (ns.map V.int)) : Dp K H (.ref a) (.list (ns.map PyData.int)) :=
  Rp.dp (G := gNo K) (.frz (ns.map D.int)) _ _ _ (.frz h .of_ints) (by simp [D.py, pys_int])
theorem dpI {K : PySem.W.Frag} {H : Hp} {a : Addr} {ns : List Int} (h : H a = some (.lst (ns.map V.int))) : Dp K H (.ref a) (.list (ns.map PyData.int)) :=
  Rp.dp (G := gNo K) (.lst (ns.map D.int)) _ _ _ (.lst h .of_ints) (by simp [D.py, pys_int])
theorem sqS {K : PySem.W.Frag} {H : Hp} {a : Addr} {xs : List V} (h : ScrL K H a xs) : SqL K H a xs := h.elim (fun ⟨o, e⟩ => .inl (.inr ⟨o, e⟩)) .inr
/-- script != [] -/
theorem rd_ne {K : PySem.W.Frag} {H0 H : Hp} {d l : Addr} {xs : List Int} {t f : Int} (D : Ds K H0 H d l xs t f) {Q : Bool → Hp → Prop} (k : ∀ q, H q = none → Ds K H0 (upd H q (.lst [])) d l xs t f → Q (!xs.isEmpty) (upd H q (.lst []))) {q : Addr} (hq : H q = none) :
    rNeD K (.ref l) (.ref q) (upd H q (.lst [])) fun v H' => ∃ b, v = .bl b ∧ Q b H' := by
  have D2 := D.fresh hq (.lst [])
  have := dep_int xs
  have hs : SeqAt.shaped (.list (xs.map PyData.int)) = true := Bool.and_eq_true_iff.mpr ⟨lay_int xs, decide_eq_true (by show PyData.depthAll (xs.map PyData.int) + 1 ≤ 64; omega)⟩
  refine ⟨_, .list [], dpS D2.hl, dpI (ns := []) upd_same, hs, rfl, _, rfl, ?_⟩
  have e : (!PyData.eqv (.list (xs.map PyData.int)) (.list [])) = !xs.isEmpty := by cases xs <;> simp [PyData.eqv, PyData.eqvAll]
  rw [e]
  exact k q hq D2
/-- m['script'][k % len(m['script'])] if m['script'] != [] else 0 -/
theorem rd_cell {K : PySem.W.Frag} {σ : St} {H0 H : Hp} {d l : Addr} {xs : List Int} {t f a : Int} {Q : VK} (h0 : σ[0]? = some (some (.ref d))) (h3 : σ[3]? = some (some (.int a))) (D : Ds K H0 H d l xs t f) (k : ∀ cv H', Ds K H0 H' d l xs t f → Q (.int cv) H') :
    L2.tIf (tTest (tOp (rNeD K) (tDGet (tVar 0) (tC (.str "script"))) (tLst tNil))) (tOp (rIxL K) (tDGet (tVar 0) (tC (.str "script"))) (tOp (rI (fun _ j => 0 < j) fun i j => .int (i % j)) (tVar 3) (tCB (fun xs H Q => ∃ p ys, xs = [.ref p] ∧ (SqL K H p ys ∨ SqT K H p ys) ∧ Q (.int ys.length) H) (tCons (tDGet (tVar 0) (tC (.str "script"))) tNil)))) (tC (.int 0)) σ H Q := by
  refine ⟨_, h0, d, .ref l, rfl, DGet.k (k := .inr "script") D.hd, Nat.zero_le _, fun q hq => ?_⟩
  refine rd_ne D (fun q hq D3 => ?_) hq
  cases hx : xs with
  | nil => exact k 0 _ D3
  | cons n rest =>
    refine iteT ?_
    have hlen : ((xs.map V.int).length : Int) = (xs.length : Nat) := by rw [List.length_map]
    have hz : (0 : Int) < (xs.length : Nat) := by rw [hx]; simp
    have q1 : 0 ≤ a % (xs.length : Nat) := Int.emod_nonneg _ (by omega)
    have q2 : a % (xs.length : Nat) < (xs.length : Nat) := Int.emod_lt_of_pos _ (by omega)
    obtain ⟨j, hj⟩ := Int.eq_ofNat_of_zero_le q1
    have hj' : j < xs.length := by omega
    refine ⟨_, h0, d, .ref l, rfl, DGet.k (k := .inr "script") D3.hd, _, h3, _, h0, d, .ref l, rfl, DGet.k (k := .inr "script") D3.hd, l, xs.map V.int, rfl, .inl (sqS D3.hl), a, _, rfl, rfl, by rw [hlen]; exact hz, l, xs.map V.int, _, .int (xs[j]), rfl, rfl, sqS D3.hl, ?_, k _ _ D3⟩
    rw [hlen, hj]
    refine CY.atI_nat ?_
    rw [List.getElem?_map, List.getElem?_eq_getElem hj']
    rfl
/-- cell >= 10 ** 18 and k < len(m['script']) -/
theorem rd_big {K : PySem.W.Frag} {σ : St} {H0 H : Hp} {d l : Addr} {xs : List Int} {t f a cv : Int} {Q : Bool → Hp → Prop} (h0 : σ[0]? = some (some (.ref d))) (h3 : σ[3]? = some (some (.int a))) (h4 : σ[4]? = some (some (.int cv))) (D : Ds K H0 H d l xs t f) (k : ∀ b, Q b H) :
    tAnd (tTest (tOp (rI0 fun i j => .bl (decide (j ≤ i))) (tVar 4) (tOp (rI CPow fun i j => .int (i ^ j.toNat)) (tC (.int 10)) (tC (.int 18)))))
      (tTest (tOp (rI0 fun i j => .bl (decide (i < j))) (tVar 3) (tCB (fun xs H Q => ∃ p ys, xs = [.ref p] ∧ (SqL K H p ys ∨ SqT K H p ys) ∧ Q (.int ys.length) H) (tCons (tDGet (tVar 0) (tC (.str "script"))) tNil)))) σ H Q := by
  refine ⟨_, h4, _, _, rfl, rfl, ⟨by decide, by decide, by decide⟩, cv, _, rfl, rfl, _, rfl, ?_⟩
  cases decide ((10 : Int) ^ (18 : Int).toNat ≤ cv) with
  | false => exact k false
  | true =>
    refine iteT ?_
    exact ⟨_, h3, _, h0, d, .ref l, rfl, DGet.k (k := .inr "script") D.hd, l, xs.map V.int, rfl, .inl (sqS D.hl), a, _, rfl, rfl, _, rfl, k _⟩
end DB
namespace K08
open PySem L2 DL CY DB
abbrev N__law_bounds_right : List Str := ["lot", "rows", "a", "b", "c", "d", "low", "high", "found", "spots", "one"]
def g__law_bounds_right : DL.Env → DL.W (Fl × DL.Env) := (sSeq (sAsg (dV 1) (bLst 4 (bCons (bName 2) (bCons (bName 3) (bCons (bName 4) (bCons (bName 5) bNil)))))) (sSeq (sPar 6 7 (dImm (dCB (a1 tupleD) (dCons (dLc [9] (fZipN 4 (dCons (dV 2) (dCons (dV 3) (dCons (dV 4) (dCons (dV 5) dNil))))) (bName 9) dYes (dCB (a1 minTD) (dCons (dV 9) dNil))) dNil))) (dImm (dCB (a1 tupleD) (dCons (dLc [9] (fZipN 4 (dCons (dV 2) (dCons (dV 3) (dCons (dV 4) (dCons (dV 5) dNil))))) (bName 9) dYes (dCB (a1 maxTD) (dCons (dV 9) dNil))) dNil)))) (sSeq (sSetN 8 (dLst (dCons (dCall F_minimum (dCons (dV 0) (dCons (dV 2) (dCons (dV 3) (dCons (dV 4) (dCons (dV 5) dNil)))))) (dCons (dCall F_minimum (dCons (dV 0) (dCons (dV 5) (dCons (dV 3) (dCons (dV 3) (dCons (dV 4) (dCons (dV 2) dNil))))))) dNil)))) (sSeq (sSetN 8 (dOp catD (dV 8) (dLstB (dCons (dCall F_maximum (dCons (dV 0) (dCons (dV 2) (dCons (dV 3) (dCons (dV 4) (dCons (dV 5) dNil)))))) (dCons (dCall F_maximum (dCons (dV 0) (dCons (dV 4) (dCons (dV 5) (dCons (dV 2) (dCons (dV 2) (dCons (dV 3) dNil))))))) dNil))))) (sSeq (sIf (dB (dOp neS (dCB (a1 reprD) (dCons (dV 8) dNil)) (dCB (a1 reprD) (dCons (dLstB (dCons (dV 6) (dCons (dV 6) (dCons (dV 7) (dCons (dV 7) dNil))))) dNil)))) (sRet (dC (.bl false))) sNil) (sSeq (sPar 6 7 (dImm (dCB (a1 tupleD) (dCons (dLc [9] (fZipN 2 (dCons (dV 2) (dCons (dV 3) dNil))) (bName 9) dYes (dCB (a1 minTD) (dCons (dV 9) dNil))) dNil))) (dImm (dCB (a1 tupleD) (dCons (dLc [9] (fZipN 2 (dCons (dV 2) (dCons (dV 3) dNil))) (bName 9) dYes (dCB (a1 maxTD) (dCons (dV 9) dNil))) dNil)))) (sSeq (sIf (dB (dOp neS (dCB (a1 reprD) (dCons (dLstB (dCons (dCall F_minimum (dCons (dV 0) (dCons (dV 2) (dCons (dV 3) dNil)))) (dCons (dCall F_maximum (dCons (dV 0) (dCons (dV 3) (dCons (dV 2) dNil)))) dNil))) dNil)) (dCB (a1 reprD) (dCons (dLstB (dCons (dV 6) (dCons (dV 7) dNil))) dNil)))) (sRet (dC (.bl false))) sNil) (sSeq (sIf (dB (dOp neS (dCB (a1 reprD) (dCons (dLstB (dCons (dCall F_minimum (dCons (dV 0) (dCons (dV 4) dNil))) (dCons (dCall F_maximum (dCons (dV 0) (dCons (dV 4) dNil))) dNil))) dNil)) (dCB (a1 reprD) (dCons (dLstB (dCons (dV 4) (dCons (dV 4) dNil))) dNil)))) (sRet (dC (.bl false))) sNil) (sRet (dOp eqS (dLc [10] (fSeq (dOp catD (dV 8) (dLstB (dCons (dV 6) (dCons (dV 7) dNil))))) (bName 10) (dNotT (dB (dCall F_is_arrangement (dCons (dV 0) (dCons (dV 10) dNil))))) (dV 10)) (dLstB dNil)))))))))))
def F__law_bounds_right : List D → DL.W D := bodyD 2 N__law_bounds_right.length g__law_bounds_right
abbrev N__law_far_right : List Str := ["lot", "one", "other", "gaps", "found", "low", "high", "near", "far"]
def g__law_far_right : DL.Env → DL.W (Fl × DL.Env) := (sSeq (sSetN 3 (dLc [7, 8] (fZip (dCons (dV 1) (dCons (dV 2) dNil))) (bTup 2 (bCons (bName 7) (bCons (bName 8) bNil))) dYes (dCB (a1 absD) (dCons (dOp subD (dV 7) (dV 8)) dNil)))) (sSeq (sSetN 4 (dLst (dCons (dCall F_distance (dCons (dV 0) (dCons (dV 1) (dCons (dV 2) dNil)))) (dCons (dCallK F_distance 0 3 [2, 1, 0] dNil (dCons (dV 1) (dCons (dV 2) (dCons (dV 0) dNil)))) dNil)))) (sSeq (sSetN 4 (dOp catD (dV 4) (dLstB (dCons (dCall F_stretch (dCons (dV 0) (dCons (dV 1) (dCons (dV 2) dNil)))) (dCons (dCallK F_stretch 0 3 [2, 1, 0] dNil (dCons (dV 1) (dCons (dV 2) (dCons (dV 0) dNil)))) dNil))))) (sSeq (sIf (dB (dOp neS (dCB (a1 reprD) (dCons (dV 4) dNil)) (dCB (a1 reprD) (dCons (dOp catD (dOp mulD (dLstB (dCons (dCB (a1 sumD) (dCons (dV 3) dNil)) dNil)) (dC (.int 2))) (dOp mulD (dLstB (dCons (dCB (a1 maxLD) (dCons (dV 3) dNil)) dNil)) (dC (.int 2)))) dNil)))) (sRet (dC (.bl false))) sNil) (sSeq (sPar 5 6 (dCall F_minimum (dCons (dV 0) (dCons (dV 1) (dCons (dV 2) dNil)))) (dCall F_maximum (dCons (dV 0) (dCons (dV 1) (dCons (dV 2) dNil))))) (sSeq (sIf (dB (dOp neS (dOp addD (dCall F_distance (dCons (dV 0) (dCons (dV 1) (dCons (dV 5) dNil)))) (dCall F_distance (dCons (dV 0) (dCons (dV 5) (dCons (dV 2) dNil))))) (dCB (a1 sumD) (dCons (dV 3) dNil)))) (sRet (dC (.bl false))) sNil) (sRet (dChain eqS eqS (dOp addD (dCall F_distance (dCons (dV 0) (dCons (dV 1) (dCons (dV 6) dNil)))) (dCall F_distance (dCons (dV 0) (dCons (dV 6) (dCons (dV 2) dNil))))) (dCB (a1 sumD) (dCons (dV 3) dNil)) (dCall F_distance (dCons (dV 0) (dCons (dV 5) (dCons (dV 6) dNil))))))))))))
def F__law_far_right : List D → DL.W D := bodyD 3 N__law_far_right.length g__law_far_right
abbrev N_law : List Str := ["script", "m", "turn", "lot", "row", "rows", "kept", "k"]
def g_lawR : DL.Env → DL.W (Fl × DL.Env) := (sSeq (sFor (fRng1 (dCons (dOp addD (dC (.int 1)) (dCB (a2 min2D) (dCons (dC (.int 5)) (dCons (dCB (a1 lenD) (dCons (dV 0) dNil)) dNil)))) dNil)) (bName 2) (sSeq (sAsg (dCall F__law_lot (dCons (dV 1) (dCons (dOp idxD (dLstB (dCons (dC (.int 7)) (dCons (dC (.int 3)) (dCons (dC (.int 40)) dNil)))) (dOp modD (dV 2) (dC (.int 3)))) dNil))) (bTup 2 (bCons (bName 3) (bCons (bName 4) bNil)))) (sSeq (sSetN 5 (dOp catD (dLstB (dCons (dV 4) dNil)) (dLc [7] (fRng1 (dCons (dC (.int 3)) dNil)) (bName 7) dYes (dCall F__law_moved (dCons (dV 1) (dCons (dV 3) (dCons (dV 4) dNil))))))) (sSeq (sSet 6 (dCB (a1 reprD) (dCons (dLstB (dCons (dV 3) (dCons (dV 5) dNil))) dNil))) (sSeq (sIf (dOrT (dNotT (dB (dCall F__law_bounds_right (dCons (dV 3) (dCons (dV 5) dNil))))) (dNotT (dB (dCall F__law_far_right (dCons (dV 3) (dCons (dOp idxD (dV 5) (dC (.int 0))) (dCons (dOp idxD (dV 5) (dC (.int 1))) dNil))))))) (sRet (dC (.bl false))) sNil) (sSeq (sIf (dOrT (dNotT (dB (dCall F__law_far_right (dCons (dV 3) (dCons (dOp idxD (dV 5) (dC (.int 2))) (dCons (dOp idxD (dV 5) (dC (.int 3))) dNil)))))) (dNotT (dB (dCall F__law_far_right (dCons (dV 3) (dCons (dV 4) (dCons (dV 4) dNil))))))) (sRet (dC (.bl false))) sNil) (sSeq (sIf (dB (dOp gtD (dCall F_distance (dCons (dV 3) (dCons (dOp idxD (dV 5) (dC (.int 0))) (dCons (dOp idxD (dV 5) (dC (.int 3))) dNil)))) (dOp addD (dCall F_distance (dCons (dV 3) (dCons (dOp idxD (dV 5) (dC (.int 0))) (dCons (dOp idxD (dV 5) (dC (.int 1))) dNil)))) (dCall F_distance (dCons (dV 3) (dCons (dOp idxD (dV 5) (dC (.int 1))) (dCons (dOp idxD (dV 5) (dC (.int 3))) dNil))))))) (sRet (dC (.bl false))) sNil) (sIf (dB (dOp neS (dCB (a1 reprD) (dCons (dLstB (dCons (dV 3) (dCons (dV 5) dNil))) dNil)) (dV 6))) (sRet (dC (.bl false))) sNil)))))))) (sSeq (sSet 3 (dTup (dCons (dOp mulD (dTup (dCons (dTup (dCons (dC (.int 0)) (dCons (dC (.int 9)) dNil))) dNil)) (dC (.int 3))) (dCons (dTup (dCons (dTup (dCons (dC (.int 0)) (dCons (dC (.int 1)) (dCons (dC (.int 1)) (dCons (dC (.int 2)) dNil))))) (dCons (dTup (dCons (dC (.int 1)) (dCons (dC (.int 2)) (dCons (dC (.int 1)) (dCons (dC (.int 2)) dNil))))) dNil))) dNil)))) (sRet (dOp eqS (dLstB (dCons (dCall F_distance (dCons (dV 3) (dCons (dTup (dCons (dC (.int 0)) (dCons (dC (.int 1)) (dCons (dC (.int 2)) dNil)))) (dCons (dTup (dCons (dC (.int 3)) (dCons (dC (.int 4)) (dCons (dC (.int 6)) dNil)))) dNil)))) (dCons (dCall F_stretch (dCons (dV 3) (dCons (dTup (dCons (dC (.int 0)) (dCons (dC (.int 1)) (dCons (dC (.int 2)) dNil)))) (dCons (dTup (dCons (dC (.int 3)) (dCons (dC (.int 4)) (dCons (dC (.int 6)) dNil)))) dNil)))) dNil))) (dLstB (dCons (dC (.int 10)) (dCons (dC (.int 4)) dNil)))))))
end K08
namespace CY
open PySem L2 DL
theorem imms_sD : ∀ (l : List (List Int)), D.imms (l.map sD) = true
  | [] => rfl
  | w :: l => by simp [D.imms, imm_sD, imms_sD l]
theorem e_need_all {ws : List (Int × Int)} {cs : List Cp} {rows : List (List Int)} (V : VY ws cs) (h : ∀ r ∈ rows, VS ws cs r) : F_need_all [yD ws cs, .tup (rows.map sD)] = pu .non := by
  unfold F_need_all g_need_all
  simp (decide := true) (implicitDefEqProofs := false) only [bodyD, env0, sSeq, thenF, sIf, sRet, sRetN, sRetV, sSet, sSetN, sExpr, sNil, sAsg, sPar, resD, dV, dC, dOp, dUn, dNot, dAnd, dOr, dNotT, dAndT, dOrT, dB, dIf, dChain, dTup, dCons, dNil, dLst, dLstB, dCB, dCall, dCallK, dImm, dYes, a1, a2, bTup, bLst, bCons, bNil, bName, fSeq, seqOf, fRng1, fRng2, fEn, fZip, zip2, one1, ints1, ints2, asB, asI, negD, addD, subD, modD, ltD, gtD, geD, leD, isND, isnND, intOp, intOpC, lenD_lst, lenD_tup, lenD_frz, len_sD, tupleD, listD, absD, max2D, min2D, allD, isiD, tyN, isiT_tt, isiT_ii, isiT_ib, idxD, lsA, gw, gt, opt_some, opt_none, bd_pu, bd_fl, bd_bd, chk_true, chk_tt, D.imm, D.imms, D.isN, List.map_cons, List.map_nil, List.length_cons, List.length_nil, List.set_cons_zero, List.set_cons_succ, List.getElem?_cons_zero, List.getElem?_cons_succ, List.getElem?_nil, Option.bind_some, Option.bind_none, Option.join_some, Option.join_none, Option.map_some, Bool.and_true, Bool.true_and, Bool.and_false, Bool.false_and, Bool.not_true, Bool.not_false, Bool.false_eq_true, Bool.true_eq_false, if_true, if_false, ite_true, ite_false, List.cons_append, List.nil_append, List.append_nil, Nat.zero_add, Nat.reduceAdd, Nat.reduceSub, Nat.reduceLeDiff, Int.reduceNeg, List.replicate_succ, List.replicate_zero, true_and, and_true, List.length_map, and_pu, or_pu, tand_pu, tor_pu, idx_0, idx_1, if_tt, if_ff, dSl, dNo, dSo, slD, imm_cD, imm_wD, intsD, sAppIx, sExt, sApp, lsD, sFor, seq_sD, eq_str, ne_str, eq_int, ne_int, nc0, nc1, nc2, nc3, nc4, decide_true, decide_false, ne_eq, not_true_eq_false, Int.reduceEq, not_false_eq_true, Bool.or_false, Bool.or_true, Bool.false_or, Bool.true_or, List.all_cons, List.all_nil, id_eq, e_validate_yard V, imms_sD]
  refine bd_for (fun i δ => ∃ x : Option D, δ = [some (yD ws cs), some (.tup (rows.map sD)), x]) ⟨_, rfl⟩ ?_ ?_
  · rintro i d δ hd ⟨x, rfl⟩
    obtain ⟨u, hu, rfl⟩ := map_at sD rows hd
    simp (decide := true) (implicitDefEqProofs := false) only [bodyD, env0, sSeq, thenF, sIf, sRet, sRetN, sRetV, sSet, sSetN, sExpr, sNil, sAsg, sPar, resD, dV, dC, dOp, dUn, dNot, dAnd, dOr, dNotT, dAndT, dOrT, dB, dIf, dChain, dTup, dCons, dNil, dLst, dLstB, dCB, dCall, dCallK, dImm, dYes, a1, a2, bTup, bLst, bCons, bNil, bName, fSeq, seqOf, fRng1, fRng2, fEn, fZip, zip2, one1, ints1, ints2, asB, asI, negD, addD, subD, modD, ltD, gtD, geD, leD, isND, isnND, intOp, intOpC, lenD_lst, lenD_tup, lenD_frz, len_sD, tupleD, listD, absD, max2D, min2D, allD, isiD, tyN, isiT_tt, isiT_ii, isiT_ib, idxD, lsA, gw, gt, opt_some, opt_none, bd_pu, bd_fl, bd_bd, chk_true, chk_tt, D.imm, D.imms, D.isN, List.map_cons, List.map_nil, List.length_cons, List.length_nil, List.set_cons_zero, List.set_cons_succ, List.getElem?_cons_zero, List.getElem?_cons_succ, List.getElem?_nil, Option.bind_some, Option.bind_none, Option.join_some, Option.join_none, Option.map_some, Bool.and_true, Bool.true_and, Bool.and_false, Bool.false_and, Bool.not_true, Bool.not_false, Bool.false_eq_true, Bool.true_eq_false, if_true, if_false, ite_true, ite_false, List.cons_append, List.nil_append, List.append_nil, Nat.zero_add, Nat.reduceAdd, Nat.reduceSub, Nat.reduceLeDiff, Int.reduceNeg, List.replicate_succ, List.replicate_zero, true_and, and_true, List.length_map, and_pu, or_pu, tand_pu, tor_pu, idx_0, idx_1, if_tt, if_ff, dSl, dNo, dSo, slD, imm_cD, imm_wD, intsD, sAppIx, sExt, sApp, lsD, sFor, seq_sD, eq_str, ne_str, eq_int, ne_int, nc0, nc1, nc2, nc3, nc4, decide_true, decide_false, ne_eq, not_true_eq_false, Int.reduceEq, not_false_eq_true, Bool.or_false, Bool.or_true, Bool.false_or, Bool.true_or, List.all_cons, List.all_nil, id_eq, imm_sD, e_need_arrangement V (h u (List.mem_of_getElem? hu))]
    exact ⟨_, rfl, _, rfl⟩
  · rintro δ' ⟨x, rfl⟩
    simp (decide := true) (implicitDefEqProofs := false) only [bodyD, env0, sSeq, thenF, sIf, sRet, sRetN, sRetV, sSet, sSetN, sExpr, sNil, sAsg, sPar, resD, dV, dC, dOp, dUn, dNot, dAnd, dOr, dNotT, dAndT, dOrT, dB, dIf, dChain, dTup, dCons, dNil, dLst, dLstB, dCB, dCall, dCallK, dImm, dYes, a1, a2, bTup, bLst, bCons, bNil, bName, fSeq, seqOf, fRng1, fRng2, fEn, fZip, zip2, one1, ints1, ints2, asB, asI, negD, addD, subD, modD, ltD, gtD, geD, leD, isND, isnND, intOp, intOpC, lenD_lst, lenD_tup, lenD_frz, len_sD, tupleD, listD, absD, max2D, min2D, allD, isiD, tyN, isiT_tt, isiT_ii, isiT_ib, idxD, lsA, gw, gt, opt_some, opt_none, bd_pu, bd_fl, bd_bd, chk_true, chk_tt, D.imm, D.imms, D.isN, List.map_cons, List.map_nil, List.length_cons, List.length_nil, List.set_cons_zero, List.set_cons_succ, List.getElem?_cons_zero, List.getElem?_cons_succ, List.getElem?_nil, Option.bind_some, Option.bind_none, Option.join_some, Option.join_none, Option.map_some, Bool.and_true, Bool.true_and, Bool.and_false, Bool.false_and, Bool.not_true, Bool.not_false, Bool.false_eq_true, Bool.true_eq_false, if_true, if_false, ite_true, ite_false, List.cons_append, List.nil_append, List.append_nil, Nat.zero_add, Nat.reduceAdd, Nat.reduceSub, Nat.reduceLeDiff, Int.reduceNeg, List.replicate_succ, List.replicate_zero, true_and, and_true, List.length_map, and_pu, or_pu, tand_pu, tor_pu, idx_0, idx_1, if_tt, if_ff, dSl, dNo, dSo, slD, imm_cD, imm_wD, intsD, sAppIx, sExt, sApp, lsD, sFor, seq_sD, eq_str, ne_str, eq_int, ne_int, nc0, nc1, nc2, nc3, nc4, decide_true, decide_false, ne_eq, not_true_eq_false, Int.reduceEq, not_false_eq_true, Bool.or_false, Bool.or_true, Bool.false_or, Bool.true_or, List.all_cons, List.all_nil, id_eq]
theorem e_is_arrangement {ws : List (Int × Int)} {cs : List Cp} {ss : List Int} (V : VY ws cs) (S : VS ws cs ss) : F_is_arrangement [yD ws cs, sD ss] = pu (.bl true) := by
  have e : F_is_allowed [yD ws cs, sD ss] = pu (.bl true) := by
    unfold F_is_allowed g_is_allowed
    simp (decide := true) (implicitDefEqProofs := false) only [bodyD, env0, sSeq, thenF, sIf, sRet, sRetN, sRetV, sSet, sSetN, sExpr, sNil, sAsg, sPar, resD, dV, dC, dOp, dUn, dNot, dAnd, dOr, dNotT, dAndT, dOrT, dB, dIf, dChain, dTup, dCons, dNil, dLst, dLstB, dCB, dCall, dCallK, dImm, dYes, a1, a2, bTup, bLst, bCons, bNil, bName, fSeq, seqOf, fRng1, fRng2, fEn, fZip, zip2, one1, ints1, ints2, asB, asI, negD, addD, subD, modD, ltD, gtD, geD, leD, isND, isnND, intOp, intOpC, lenD_lst, lenD_tup, lenD_frz, len_sD, tupleD, listD, absD, max2D, min2D, allD, isiD, tyN, isiT_tt, isiT_ii, isiT_ib, idxD, lsA, gw, gt, opt_some, opt_none, bd_pu, bd_fl, bd_bd, chk_true, chk_tt, D.imm, D.imms, D.isN, List.map_cons, List.map_nil, List.length_cons, List.length_nil, List.set_cons_zero, List.set_cons_succ, List.getElem?_cons_zero, List.getElem?_cons_succ, List.getElem?_nil, Option.bind_some, Option.bind_none, Option.join_some, Option.join_none, Option.map_some, Bool.and_true, Bool.true_and, Bool.and_false, Bool.false_and, Bool.not_true, Bool.not_false, Bool.false_eq_true, Bool.true_eq_false, if_true, if_false, ite_true, ite_false, List.cons_append, List.nil_append, List.append_nil, Nat.zero_add, Nat.reduceAdd, Nat.reduceSub, Nat.reduceLeDiff, Int.reduceNeg, List.replicate_succ, List.replicate_zero, true_and, and_true, List.length_map, and_pu, or_pu, tand_pu, tor_pu, idx_0, idx_1, if_tt, if_ff, dSl, dNo, dSo, slD, imm_cD, imm_wD, intsD, sAppIx, sExt, sApp, lsD, sFor, seq_sD, eq_str, ne_str, eq_int, ne_int, nc0, nc1, nc2, nc3, nc4, decide_true, decide_false, ne_eq, not_true_eq_false, Int.reduceEq, not_false_eq_true, Bool.or_false, Bool.or_true, Bool.false_or, Bool.true_or, List.all_cons, List.all_nil, id_eq, e_arrangement_problem V S, isN_non]
  unfold F_is_arrangement g_is_arrangement
  simp (decide := true) (implicitDefEqProofs := false) only [bodyD, env0, sSeq, thenF, sIf, sRet, sRetN, sRetV, sSet, sSetN, sExpr, sNil, sAsg, sPar, resD, dV, dC, dOp, dUn, dNot, dAnd, dOr, dNotT, dAndT, dOrT, dB, dIf, dChain, dTup, dCons, dNil, dLst, dLstB, dCB, dCall, dCallK, dImm, dYes, a1, a2, bTup, bLst, bCons, bNil, bName, fSeq, seqOf, fRng1, fRng2, fEn, fZip, zip2, one1, ints1, ints2, asB, asI, negD, addD, subD, modD, ltD, gtD, geD, leD, isND, isnND, intOp, intOpC, lenD_lst, lenD_tup, lenD_frz, len_sD, tupleD, listD, absD, max2D, min2D, allD, isiD, tyN, isiT_tt, isiT_ii, isiT_ib, idxD, lsA, gw, gt, opt_some, opt_none, bd_pu, bd_fl, bd_bd, chk_true, chk_tt, D.imm, D.imms, D.isN, List.map_cons, List.map_nil, List.length_cons, List.length_nil, List.set_cons_zero, List.set_cons_succ, List.getElem?_cons_zero, List.getElem?_cons_succ, List.getElem?_nil, Option.bind_some, Option.bind_none, Option.join_some, Option.join_none, Option.map_some, Bool.and_true, Bool.true_and, Bool.and_false, Bool.false_and, Bool.not_true, Bool.not_false, Bool.false_eq_true, Bool.true_eq_false, if_true, if_false, ite_true, ite_false, List.cons_append, List.nil_append, List.append_nil, Nat.zero_add, Nat.reduceAdd, Nat.reduceSub, Nat.reduceLeDiff, Int.reduceNeg, List.replicate_succ, List.replicate_zero, true_and, and_true, List.length_map, and_pu, or_pu, tand_pu, tor_pu, idx_0, idx_1, if_tt, if_ff, dSl, dNo, dSo, slD, imm_cD, imm_wD, intsD, sAppIx, sExt, sApp, lsD, sFor, seq_sD, eq_str, ne_str, eq_int, ne_int, nc0, nc1, nc2, nc3, nc4, decide_true, decide_false, ne_eq, not_true_eq_false, Int.reduceEq, not_false_eq_true, Bool.or_false, Bool.or_true, Bool.false_or, Bool.true_or, List.all_cons, List.all_nil, id_eq, e_validate_yard V, e]
/-! ### distances -/
theorem zip_D : ∀ (ss t : List Int), zipD (ss.map D.int) (t.map D.int) = (ss.zip t).map fun p => .tup [.int p.1, .int p.2]
  | [], t => by simp [zipD]
  | a :: ss, [] => by simp [zipD]
  | a :: ss, b :: t => by simp [zipD, zip_D ss t]
def dists (ss t : List Int) : List Int := (ss.zip t).map fun p => absI (p.1 - p.2)
theorem e_own_distances {ss t : List Int} (h : ss.length ≤ 40) : F_own_distances [sD ss, sD t] = pu (.lst ((dists ss t).map D.int)) := by
  unfold F_own_distances g_own_distances sD
  simp (decide := true) (implicitDefEqProofs := false) only [bodyD, env0, sSeq, thenF, sIf, sRet, sRetN, sRetV, sSet, sSetN, sExpr, sNil, sAsg, sPar, resD, dV, dC, dOp, dUn, dNot, dAnd, dOr, dNotT, dAndT, dOrT, dB, dIf, dChain, dTup, dCons, dNil, dLst, dLstB, dCB, dCall, dCallK, dImm, dYes, a1, a2, bTup, bLst, bCons, bNil, bName, fSeq, seqOf, fRng1, fRng2, fEn, fZip, zip2, one1, ints1, ints2, asB, asI, negD, addD, subD, modD, ltD, gtD, geD, leD, isND, isnND, intOp, intOpC, lenD_lst, lenD_tup, lenD_frz, len_sD, tupleD, listD, absD, max2D, min2D, allD, isiD, tyN, isiT_tt, isiT_ii, isiT_ib, idxD, lsA, gw, gt, opt_some, opt_none, bd_pu, bd_fl, bd_bd, chk_true, chk_tt, D.imm, D.imms, D.isN, List.map_cons, List.map_nil, List.length_cons, List.length_nil, List.set_cons_zero, List.set_cons_succ, List.getElem?_cons_zero, List.getElem?_cons_succ, List.getElem?_nil, Option.bind_some, Option.bind_none, Option.join_some, Option.join_none, Option.map_some, Bool.and_true, Bool.true_and, Bool.and_false, Bool.false_and, Bool.not_true, Bool.not_false, Bool.false_eq_true, Bool.true_eq_false, if_true, if_false, ite_true, ite_false, List.cons_append, List.nil_append, List.append_nil, Nat.zero_add, Nat.reduceAdd, Nat.reduceSub, Nat.reduceLeDiff, Int.reduceNeg, List.replicate_succ, List.replicate_zero, true_and, and_true, List.length_map, and_pu, or_pu, tand_pu, tor_pu, idx_0, idx_1, if_tt, if_ff, dSl, dNo, dSo, slD, imm_cD, imm_wD, intsD, sAppIx, sExt, sApp, lsD, sFor, seq_sD, eq_str, ne_str, eq_int, ne_int, nc0, nc1, nc2, nc3, nc4, decide_true, decide_false, ne_eq, not_true_eq_false, Int.reduceEq, not_false_eq_true, Bool.or_false, Bool.or_true, Bool.false_or, Bool.true_or, List.all_cons, List.all_nil, id_eq, dLc, wipeE, imms_int, zip_D]
  rw [lc_map (fun d => match d with | .tup [.int a, .int b] => D.int (absI (a - b)) | _ => .non) _ (by rw [List.length_map, List.length_zip]; exact small (by omega)) (fun d q => by
    obtain ⟨p, _, rfl⟩ := List.mem_map.mp q
    refine ⟨_, by simp (decide := true) (implicitDefEqProofs := false) only [bodyD, env0, sSeq, thenF, sIf, sRet, sRetN, sRetV, sSet, sSetN, sExpr, sNil, sAsg, sPar, resD, dV, dC, dOp, dUn, dNot, dAnd, dOr, dNotT, dAndT, dOrT, dB, dIf, dChain, dTup, dCons, dNil, dLst, dLstB, dCB, dCall, dCallK, dImm, dYes, a1, a2, bTup, bLst, bCons, bNil, bName, fSeq, seqOf, fRng1, fRng2, fEn, fZip, zip2, one1, ints1, ints2, asB, asI, negD, addD, subD, modD, ltD, gtD, geD, leD, isND, isnND, intOp, intOpC, lenD_lst, lenD_tup, lenD_frz, len_sD, tupleD, listD, absD, max2D, min2D, allD, isiD, tyN, isiT_tt, isiT_ii, isiT_ib, idxD, lsA, gw, gt, opt_some, opt_none, bd_pu, bd_fl, bd_bd, chk_true, chk_tt, D.imm, D.imms, D.isN, List.map_cons, List.map_nil, List.length_cons, List.length_nil, List.set_cons_zero, List.set_cons_succ, List.getElem?_cons_zero, List.getElem?_cons_succ, List.getElem?_nil, Option.bind_some, Option.bind_none, Option.join_some, Option.join_none, Option.map_some, Bool.and_true, Bool.true_and, Bool.and_false, Bool.false_and, Bool.not_true, Bool.not_false, Bool.false_eq_true, Bool.true_eq_false, if_true, if_false, ite_true, ite_false, List.cons_append, List.nil_append, List.append_nil, Nat.zero_add, Nat.reduceAdd, Nat.reduceSub, Nat.reduceLeDiff, Int.reduceNeg, List.replicate_succ, List.replicate_zero, true_and, and_true, List.length_map, and_pu, or_pu, tand_pu, tor_pu, idx_0, idx_1, if_tt, if_ff, dSl, dNo, dSo, slD, imm_cD, imm_wD, intsD, sAppIx, sExt, sApp, lsD, sFor, seq_sD, eq_str, ne_str, eq_int, ne_int, nc0, nc1, nc2, nc3, nc4, decide_true, decide_false, ne_eq, not_true_eq_false, Int.reduceEq, not_false_eq_true, Bool.or_false, Bool.or_true, Bool.false_or, Bool.true_or, List.all_cons, List.all_nil, id_eq]; rfl, ?_, rfl⟩
    simp (decide := true) (implicitDefEqProofs := false) only [bodyD, env0, sSeq, thenF, sIf, sRet, sRetN, sRetV, sSet, sSetN, sExpr, sNil, sAsg, sPar, resD, dV, dC, dOp, dUn, dNot, dAnd, dOr, dNotT, dAndT, dOrT, dB, dIf, dChain, dTup, dCons, dNil, dLst, dLstB, dCB, dCall, dCallK, dImm, dYes, a1, a2, bTup, bLst, bCons, bNil, bName, fSeq, seqOf, fRng1, fRng2, fEn, fZip, zip2, one1, ints1, ints2, asB, asI, negD, addD, subD, modD, ltD, gtD, geD, leD, isND, isnND, intOp, intOpC, lenD_lst, lenD_tup, lenD_frz, len_sD, tupleD, listD, absD, max2D, min2D, allD, isiD, tyN, isiT_tt, isiT_ii, isiT_ib, idxD, lsA, gw, gt, opt_some, opt_none, bd_pu, bd_fl, bd_bd, chk_true, chk_tt, D.imm, D.imms, D.isN, List.map_cons, List.map_nil, List.length_cons, List.length_nil, List.set_cons_zero, List.set_cons_succ, List.getElem?_cons_zero, List.getElem?_cons_succ, List.getElem?_nil, Option.bind_some, Option.bind_none, Option.join_some, Option.join_none, Option.map_some, Bool.and_true, Bool.true_and, Bool.and_false, Bool.false_and, Bool.not_true, Bool.not_false, Bool.false_eq_true, Bool.true_eq_false, if_true, if_false, ite_true, ite_false, List.cons_append, List.nil_append, List.append_nil, Nat.zero_add, Nat.reduceAdd, Nat.reduceSub, Nat.reduceLeDiff, Int.reduceNeg, List.replicate_succ, List.replicate_zero, true_and, and_true, List.length_map, and_pu, or_pu, tand_pu, tor_pu, idx_0, idx_1, if_tt, if_ff, dSl, dNo, dSo, slD, imm_cD, imm_wD, intsD, sAppIx, sExt, sApp, lsD, sFor, seq_sD, eq_str, ne_str, eq_int, ne_int, nc0, nc1, nc2, nc3, nc4, decide_true, decide_false, ne_eq, not_true_eq_false, Int.reduceEq, not_false_eq_true, Bool.or_false, Bool.or_true, Bool.false_or, Bool.true_or, List.all_cons, List.all_nil, id_eq])]
  simp (decide := true) (implicitDefEqProofs := false) only [bodyD, env0, sSeq, thenF, sIf, sRet, sRetN, sRetV, sSet, sSetN, sExpr, sNil, sAsg, sPar, resD, dV, dC, dOp, dUn, dNot, dAnd, dOr, dNotT, dAndT, dOrT, dB, dIf, dChain, dTup, dCons, dNil, dLst, dLstB, dCB, dCall, dCallK, dImm, dYes, a1, a2, bTup, bLst, bCons, bNil, bName, fSeq, seqOf, fRng1, fRng2, fEn, fZip, zip2, one1, ints1, ints2, asB, asI, negD, addD, subD, modD, ltD, gtD, geD, leD, isND, isnND, intOp, intOpC, lenD_lst, lenD_tup, lenD_frz, len_sD, tupleD, listD, absD, max2D, min2D, allD, isiD, tyN, isiT_tt, isiT_ii, isiT_ib, idxD, lsA, gw, gt, opt_some, opt_none, bd_pu, bd_fl, bd_bd, chk_true, chk_tt, D.imm, D.imms, D.isN, List.map_cons, List.map_nil, List.length_cons, List.length_nil, List.set_cons_zero, List.set_cons_succ, List.getElem?_cons_zero, List.getElem?_cons_succ, List.getElem?_nil, Option.bind_some, Option.bind_none, Option.join_some, Option.join_none, Option.map_some, Bool.and_true, Bool.true_and, Bool.and_false, Bool.false_and, Bool.not_true, Bool.not_false, Bool.false_eq_true, Bool.true_eq_false, if_true, if_false, ite_true, ite_false, List.cons_append, List.nil_append, List.append_nil, Nat.zero_add, Nat.reduceAdd, Nat.reduceSub, Nat.reduceLeDiff, Int.reduceNeg, List.replicate_succ, List.replicate_zero, true_and, and_true, List.length_map, and_pu, or_pu, tand_pu, tor_pu, idx_0, idx_1, if_tt, if_ff, dSl, dNo, dSo, slD, imm_cD, imm_wD, intsD, sAppIx, sExt, sApp, lsD, sFor, seq_sD, eq_str, ne_str, eq_int, ne_int, nc0, nc1, nc2, nc3, nc4, decide_true, decide_false, ne_eq, not_true_eq_false, Int.reduceEq, not_false_eq_true, Bool.or_false, Bool.or_true, Bool.false_or, Bool.true_or, List.all_cons, List.all_nil, id_eq]
  unfold dists
  rw [List.map_map, List.map_map]
  rfl
def lmin : List Int → Int
  | [] => 0
  | n :: ns => ns.foldl min n
def lmax : List Int → Int
  | [] => 0
  | n :: ns => ns.foldl max n
theorem lmin_mem {ns : List Int} (h : ns ≠ []) : lmin ns ∈ ns ∧ ∀ y ∈ ns, lmin ns ≤ y := by
  cases ns with
  | nil => exact absurd rfl h
  | cons n ns => exact foldl_min ns n
theorem lmax_mem {ns : List Int} (h : ns ≠ []) : lmax ns ∈ ns ∧ ∀ y ∈ ns, y ≤ lmax ns := by
  cases ns with
  | nil => exact absurd rfl h
  | cons n ns => exact foldl_max ns n
theorem lmin_eq {ns : List Int} {m : Int} (h1 : m ∈ ns) (h2 : ∀ y ∈ ns, m ≤ y) : lmin ns = m := by
  obtain ⟨a, b⟩ := lmin_mem (ns := ns) (fun z => by rw [z] at h1; cases h1)
  exact Int.le_antisymm (b m h1) (h2 _ a)
theorem lmax_eq {ns : List Int} {m : Int} (h1 : m ∈ ns) (h2 : ∀ y ∈ ns, y ≤ m) : lmax ns = m := by
  obtain ⟨a, b⟩ := lmax_mem (ns := ns) (fun z => by rw [z] at h1; cases h1)
  exact Int.le_antisymm (h2 _ a) (b m h1)
theorem the_min {ns : List Int} (h : ns ≠ []) : (fun Q _ n => ∀ m, m ∈ ns → (∀ y ∈ ns, m ≤ y) → Q (.int m) n : DL.W D) = pu (.int (lmin ns)) := by
  funext Q X n
  obtain ⟨a, b⟩ := lmin_mem h
  exact propext ⟨fun q => q _ a b, fun q m h1 h2 => by rw [← lmin_eq h1 h2]; exact q⟩
theorem the_max {ns : List Int} (h : ns ≠ []) : (fun Q _ n => ∀ m, m ∈ ns → (∀ y ∈ ns, y ≤ m) → Q (.int m) n : DL.W D) = pu (.int (lmax ns)) := by
  funext Q X n
  obtain ⟨a, b⟩ := lmax_mem h
  exact propext ⟨fun q => q _ a b, fun q m h1 h2 => by rw [← lmax_eq h1 h2]; exact q⟩
theorem e_minL {ns : List Int} (h : ns ≠ []) : minLD (.lst (ns.map D.int)) = pu (.int (lmin ns)) := by
  show opt (intsD (ns.map D.int)) _ = _
  rw [intsD_map, opt_some, chk_pos (List.length_pos_iff.mpr h)]
  exact the_min h
theorem e_maxL {ns : List Int} (h : ns ≠ []) : maxLD (.lst (ns.map D.int)) = pu (.int (lmax ns)) := by
  show opt (intsD (ns.map D.int)) _ = _
  rw [intsD_map, opt_some, chk_pos (List.length_pos_iff.mpr h)]
  exact the_max h
theorem e_minT {ns : List Int} (h : ns ≠ []) : minTD (.tup (ns.map D.int)) = pu (.int (lmin ns)) := by
  show opt (intsD (ns.map D.int)) _ = _
  rw [intsD_map, opt_some, chk_pos (List.length_pos_iff.mpr h)]
  exact the_min h
theorem e_maxT {ns : List Int} (h : ns ≠ []) : maxTD (.tup (ns.map D.int)) = pu (.int (lmax ns)) := by
  show opt (intsD (ns.map D.int)) _ = _
  rw [intsD_map, opt_some, chk_pos (List.length_pos_iff.mpr h)]
  exact the_max h
theorem e_sum (ns : List Int) : sumD (.lst (ns.map D.int)) = pu (.int ns.sum) := by
  show opt (intsD (ns.map D.int)) _ = _
  rw [intsD_map, opt_some]
theorem dists_len {ss t : List Int} : (dists ss t).length = min ss.length t.length := by unfold dists; rw [List.length_map, List.length_zip]
theorem e_na2 {ws : List (Int × Int)} {cs : List Cp} {ss t : List Int} (V : VY ws cs) (S : VS ws cs ss) (T : VS ws cs t) : F_need_all [yD ws cs, .tup [sD ss, sD t]] = pu .non :=
  e_need_all (rows := [ss, t]) V fun r hr => by
    simp only [List.mem_cons, List.not_mem_nil, or_false] at hr
    rcases hr with rfl | rfl
    · exact S
    · exact T
theorem e_distance {ws : List (Int × Int)} {cs : List Cp} {ss t : List Int} (V : VY ws cs) (S : VS ws cs ss) (T : VS ws cs t) : F_distance [yD ws cs, sD ss, sD t] = pu (.int (dists ss t).sum) := by
  have n40 := V.n40
  unfold F_distance g_distance
  simp (decide := true) (implicitDefEqProofs := false) only [bodyD, env0, sSeq, thenF, sIf, sRet, sRetN, sRetV, sSet, sSetN, sExpr, sNil, sAsg, sPar, resD, dV, dC, dOp, dUn, dNot, dAnd, dOr, dNotT, dAndT, dOrT, dB, dIf, dChain, dTup, dCons, dNil, dLst, dLstB, dCB, dCall, dCallK, dImm, dYes, a1, a2, bTup, bLst, bCons, bNil, bName, fSeq, seqOf, fRng1, fRng2, fEn, fZip, zip2, one1, ints1, ints2, asB, asI, negD, addD, subD, modD, ltD, gtD, geD, leD, isND, isnND, intOp, intOpC, lenD_lst, lenD_tup, lenD_frz, len_sD, tupleD, listD, absD, max2D, min2D, allD, isiD, tyN, isiT_tt, isiT_ii, isiT_ib, idxD, lsA, gw, gt, opt_some, opt_none, bd_pu, bd_fl, bd_bd, chk_true, chk_tt, D.imm, D.imms, D.isN, List.map_cons, List.map_nil, List.length_cons, List.length_nil, List.set_cons_zero, List.set_cons_succ, List.getElem?_cons_zero, List.getElem?_cons_succ, List.getElem?_nil, Option.bind_some, Option.bind_none, Option.join_some, Option.join_none, Option.map_some, Bool.and_true, Bool.true_and, Bool.and_false, Bool.false_and, Bool.not_true, Bool.not_false, Bool.false_eq_true, Bool.true_eq_false, if_true, if_false, ite_true, ite_false, List.cons_append, List.nil_append, List.append_nil, Nat.zero_add, Nat.reduceAdd, Nat.reduceSub, Nat.reduceLeDiff, Int.reduceNeg, List.replicate_succ, List.replicate_zero, true_and, and_true, List.length_map, and_pu, or_pu, tand_pu, tor_pu, idx_0, idx_1, if_tt, if_ff, dSl, dNo, dSo, slD, imm_cD, imm_wD, intsD, sAppIx, sExt, sApp, lsD, sFor, seq_sD, eq_str, ne_str, eq_int, ne_int, nc0, nc1, nc2, nc3, nc4, decide_true, decide_false, ne_eq, not_true_eq_false, Int.reduceEq, not_false_eq_true, Bool.or_false, Bool.or_true, Bool.false_or, Bool.true_or, List.all_cons, List.all_nil, id_eq, e_na2 V S T, e_own_distances (show ss.length ≤ 40 by rw [S.len]; exact n40), e_sum]
theorem e_stretch {ws : List (Int × Int)} {cs : List Cp} {ss t : List Int} (V : VY ws cs) (S : VS ws cs ss) (T : VS ws cs t) : F_stretch [yD ws cs, sD ss, sD t] = pu (.int (lmax (dists ss t))) := by
  have n40 := V.n40
  have ne : dists ss t ≠ [] := List.length_pos_iff.mp (by rw [dists_len, S.len, T.len]; have := V.n1; omega)
  unfold F_stretch g_stretch
  simp (decide := true) (implicitDefEqProofs := false) only [bodyD, env0, sSeq, thenF, sIf, sRet, sRetN, sRetV, sSet, sSetN, sExpr, sNil, sAsg, sPar, resD, dV, dC, dOp, dUn, dNot, dAnd, dOr, dNotT, dAndT, dOrT, dB, dIf, dChain, dTup, dCons, dNil, dLst, dLstB, dCB, dCall, dCallK, dImm, dYes, a1, a2, bTup, bLst, bCons, bNil, bName, fSeq, seqOf, fRng1, fRng2, fEn, fZip, zip2, one1, ints1, ints2, asB, asI, negD, addD, subD, modD, ltD, gtD, geD, leD, isND, isnND, intOp, intOpC, lenD_lst, lenD_tup, lenD_frz, len_sD, tupleD, listD, absD, max2D, min2D, allD, isiD, tyN, isiT_tt, isiT_ii, isiT_ib, idxD, lsA, gw, gt, opt_some, opt_none, bd_pu, bd_fl, bd_bd, chk_true, chk_tt, D.imm, D.imms, D.isN, List.map_cons, List.map_nil, List.length_cons, List.length_nil, List.set_cons_zero, List.set_cons_succ, List.getElem?_cons_zero, List.getElem?_cons_succ, List.getElem?_nil, Option.bind_some, Option.bind_none, Option.join_some, Option.join_none, Option.map_some, Bool.and_true, Bool.true_and, Bool.and_false, Bool.false_and, Bool.not_true, Bool.not_false, Bool.false_eq_true, Bool.true_eq_false, if_true, if_false, ite_true, ite_false, List.cons_append, List.nil_append, List.append_nil, Nat.zero_add, Nat.reduceAdd, Nat.reduceSub, Nat.reduceLeDiff, Int.reduceNeg, List.replicate_succ, List.replicate_zero, true_and, and_true, List.length_map, and_pu, or_pu, tand_pu, tor_pu, idx_0, idx_1, if_tt, if_ff, dSl, dNo, dSo, slD, imm_cD, imm_wD, intsD, sAppIx, sExt, sApp, lsD, sFor, seq_sD, eq_str, ne_str, eq_int, ne_int, nc0, nc1, nc2, nc3, nc4, decide_true, decide_false, ne_eq, not_true_eq_false, Int.reduceEq, not_false_eq_true, Bool.or_false, Bool.or_true, Bool.false_or, Bool.true_or, List.all_cons, List.all_nil, id_eq, e_na2 V S T, e_own_distances (show ss.length ≤ 40 by rw [S.len]; exact n40), e_maxL ne]
/-! ### minimum, maximum -/
def mnv (n : Nat) (rows : List (List Int)) : List Int := (List.range n).map fun v => lmin (rows.map fun r => r.getD v 0)
def mxv (n : Nat) (rows : List (List Int)) : List Int := (List.range n).map fun v => lmax (rows.map fun r => r.getD v 0)
def itD (v : Nat) : D → D
  | .tup ds => ds.getD v .non
  | _ => .non
theorem itD_sD {v : Nat} {r : List Int} (h : v < r.length) : itD v (sD r) = .int (r.getD v 0) := by
  show (r.map D.int).getD v .non = _
  rw [List.getD_eq_getElem?_getD, List.getElem?_map, getD_at (α := Int) h]
  rfl
theorem items_eq {n v : Nat} (hv : v < n) : ∀ {rows : List (List Int)}, (∀ r ∈ rows, r.length = n) → (rows.map sD).map (itD v) = (rows.map fun r => r.getD v 0).map D.int
  | [], _ => rfl
  | r :: rows, h => by
    rw [List.map_cons, List.map_cons, List.map_cons, List.map_cons, itD_sD (by rw [h r List.mem_cons_self]; exact hv), items_eq hv fun r hr => h r (List.mem_cons_of_mem _ hr)]
theorem e_minimum {ws : List (Int × Int)} {cs : List Cp} {rows : List (List Int)} (V : VY ws cs) (h : ∀ r ∈ rows, VS ws cs r) (h0 : rows ≠ []) (h9 : rows.length ≤ 100) : F_minimum (yD ws cs :: rows.map sD) = pu (sD (mnv ws.length rows)) := by
  have n40 := V.n40
  unfold F_minimum
  show chk (1 ≤ (yD ws cs :: rows.map sD).length ∧ (yD ws cs :: rows.map sD).length ≤ 1000) (bodyD 2 N_minimum.length g_minimum [yD ws cs, .tup (rows.map sD)]) = _
  rw [chk_pos (by rw [List.length_cons, List.length_map]; omega)]
  unfold g_minimum
  have na := e_need_all V h
  unfold yD at na
  have hn : -(2 ^ 62) ≤ ((ws.length : Nat) : Int) ∧ ((ws.length : Nat) : Int) < 2 ^ 62 := by omega
  simp (decide := true) (implicitDefEqProofs := false) only [bodyD, env0, sSeq, thenF, sIf, sRet, sRetN, sRetV, sSet, sSetN, sExpr, sNil, sAsg, sPar, resD, dV, dC, dOp, dUn, dNot, dAnd, dOr, dNotT, dAndT, dOrT, dB, dIf, dChain, dTup, dCons, dNil, dLst, dLstB, dCB, dCall, dCallK, dImm, dYes, a1, a2, bTup, bLst, bCons, bNil, bName, fSeq, seqOf, fRng1, fRng2, fEn, fZip, zip2, one1, ints1, ints2, asB, asI, negD, addD, subD, modD, ltD, gtD, geD, leD, isND, isnND, intOp, intOpC, lenD_lst, lenD_tup, lenD_frz, len_sD, tupleD, listD, absD, max2D, min2D, allD, isiD, tyN, isiT_tt, isiT_ii, isiT_ib, idxD, lsA, gw, gt, opt_some, opt_none, bd_pu, bd_fl, bd_bd, chk_true, chk_tt, D.imm, D.imms, D.isN, List.map_cons, List.map_nil, List.length_cons, List.length_nil, List.set_cons_zero, List.set_cons_succ, List.getElem?_cons_zero, List.getElem?_cons_succ, List.getElem?_nil, Option.bind_some, Option.bind_none, Option.join_some, Option.join_none, Option.map_some, Bool.and_true, Bool.true_and, Bool.and_false, Bool.false_and, Bool.not_true, Bool.not_false, Bool.false_eq_true, Bool.true_eq_false, if_true, if_false, ite_true, ite_false, List.cons_append, List.nil_append, List.append_nil, Nat.zero_add, Nat.reduceAdd, Nat.reduceSub, Nat.reduceLeDiff, Int.reduceNeg, List.replicate_succ, List.replicate_zero, true_and, and_true, List.length_map, and_pu, or_pu, tand_pu, tor_pu, idx_0, idx_1, if_tt, if_ff, dSl, dNo, dSo, slD, imm_cD, imm_wD, intsD, sAppIx, sExt, sApp, lsD, sFor, seq_sD, eq_str, ne_str, eq_int, ne_int, nc0, nc1, nc2, nc3, nc4, decide_true, decide_false, ne_eq, not_true_eq_false, Int.reduceEq, not_false_eq_true, Bool.or_false, Bool.or_true, Bool.false_or, Bool.true_or, List.all_cons, List.all_nil, id_eq, na, yD, chk_pos hn, Int.toNat_natCast, dLc, wipeE, imms_sD]
  rw [lc_map (fun d => match d with | .int v => D.int (lmin (rows.map fun r => r.getD v.toNat 0)) | _ => .non) (rngD 0 ws.length) (by rw [rngD_len]; exact small (by omega)) (fun d q => by
    obtain ⟨v, hv⟩ := List.mem_iff_getElem?.mp q
    obtain ⟨hv', rfl⟩ := rngD_at hv
    refine ⟨_, by simp (decide := true) (implicitDefEqProofs := false) only [bodyD, env0, sSeq, thenF, sIf, sRet, sRetN, sRetV, sSet, sSetN, sExpr, sNil, sAsg, sPar, resD, dV, dC, dOp, dUn, dNot, dAnd, dOr, dNotT, dAndT, dOrT, dB, dIf, dChain, dTup, dCons, dNil, dLst, dLstB, dCB, dCall, dCallK, dImm, dYes, a1, a2, bTup, bLst, bCons, bNil, bName, fSeq, seqOf, fRng1, fRng2, fEn, fZip, zip2, one1, ints1, ints2, asB, asI, negD, addD, subD, modD, ltD, gtD, geD, leD, isND, isnND, intOp, intOpC, lenD_lst, lenD_tup, lenD_frz, len_sD, tupleD, listD, absD, max2D, min2D, allD, isiD, tyN, isiT_tt, isiT_ii, isiT_ib, idxD, lsA, gw, gt, opt_some, opt_none, bd_pu, bd_fl, bd_bd, chk_true, chk_tt, D.imm, D.imms, D.isN, List.map_cons, List.map_nil, List.length_cons, List.length_nil, List.set_cons_zero, List.set_cons_succ, List.getElem?_cons_zero, List.getElem?_cons_succ, List.getElem?_nil, Option.bind_some, Option.bind_none, Option.join_some, Option.join_none, Option.map_some, Bool.and_true, Bool.true_and, Bool.and_false, Bool.false_and, Bool.not_true, Bool.not_false, Bool.false_eq_true, Bool.true_eq_false, if_true, if_false, ite_true, ite_false, List.cons_append, List.nil_append, List.append_nil, Nat.zero_add, Nat.reduceAdd, Nat.reduceSub, Nat.reduceLeDiff, Int.reduceNeg, List.replicate_succ, List.replicate_zero, true_and, and_true, List.length_map, and_pu, or_pu, tand_pu, tor_pu, idx_0, idx_1, if_tt, if_ff, dSl, dNo, dSo, slD, imm_cD, imm_wD, intsD, sAppIx, sExt, sApp, lsD, sFor, seq_sD, eq_str, ne_str, eq_int, ne_int, nc0, nc1, nc2, nc3, nc4, decide_true, decide_false, ne_eq, not_true_eq_false, Int.reduceEq, not_false_eq_true, Bool.or_false, Bool.or_true, Bool.false_or, Bool.true_or, List.all_cons, List.all_nil, id_eq]; rfl, ?_, rfl⟩
    simp (decide := true) (implicitDefEqProofs := false) only [bodyD, env0, sSeq, thenF, sIf, sRet, sRetN, sRetV, sSet, sSetN, sExpr, sNil, sAsg, sPar, resD, dV, dC, dOp, dUn, dNot, dAnd, dOr, dNotT, dAndT, dOrT, dB, dIf, dChain, dTup, dCons, dNil, dLst, dLstB, dCB, dCall, dCallK, dImm, dYes, a1, a2, bTup, bLst, bCons, bNil, bName, fSeq, seqOf, fRng1, fRng2, fEn, fZip, zip2, one1, ints1, ints2, asB, asI, negD, addD, subD, modD, ltD, gtD, geD, leD, isND, isnND, intOp, intOpC, lenD_lst, lenD_tup, lenD_frz, len_sD, tupleD, listD, absD, max2D, min2D, allD, isiD, tyN, isiT_tt, isiT_ii, isiT_ib, idxD, lsA, gw, gt, opt_some, opt_none, bd_pu, bd_fl, bd_bd, chk_true, chk_tt, D.imm, D.imms, D.isN, List.map_cons, List.map_nil, List.length_cons, List.length_nil, List.set_cons_zero, List.set_cons_succ, List.getElem?_cons_zero, List.getElem?_cons_succ, List.getElem?_nil, Option.bind_some, Option.bind_none, Option.join_some, Option.join_none, Option.map_some, Bool.and_true, Bool.true_and, Bool.and_false, Bool.false_and, Bool.not_true, Bool.not_false, Bool.false_eq_true, Bool.true_eq_false, if_true, if_false, ite_true, ite_false, List.cons_append, List.nil_append, List.append_nil, Nat.zero_add, Nat.reduceAdd, Nat.reduceSub, Nat.reduceLeDiff, Int.reduceNeg, List.replicate_succ, List.replicate_zero, true_and, and_true, List.length_map, and_pu, or_pu, tand_pu, tor_pu, idx_0, idx_1, if_tt, if_ff, dSl, dNo, dSo, slD, imm_cD, imm_wD, intsD, sAppIx, sExt, sApp, lsD, sFor, seq_sD, eq_str, ne_str, eq_int, ne_int, nc0, nc1, nc2, nc3, nc4, decide_true, decide_false, ne_eq, not_true_eq_false, Int.reduceEq, not_false_eq_true, Bool.or_false, Bool.or_true, Bool.false_or, Bool.true_or, List.all_cons, List.all_nil, id_eq, imms_sD, dLc, wipeE]
    rw [lc_map (itD v) (rows.map sD) (by rw [List.length_map]; exact small (by omega)) (fun d q => by
      obtain ⟨r, hr, rfl⟩ := List.mem_map.mp q
      have hl : v < r.length := by rw [(h r hr).len]; exact hv'
      refine ⟨_, by simp (decide := true) (implicitDefEqProofs := false) only [bodyD, env0, sSeq, thenF, sIf, sRet, sRetN, sRetV, sSet, sSetN, sExpr, sNil, sAsg, sPar, resD, dV, dC, dOp, dUn, dNot, dAnd, dOr, dNotT, dAndT, dOrT, dB, dIf, dChain, dTup, dCons, dNil, dLst, dLstB, dCB, dCall, dCallK, dImm, dYes, a1, a2, bTup, bLst, bCons, bNil, bName, fSeq, seqOf, fRng1, fRng2, fEn, fZip, zip2, one1, ints1, ints2, asB, asI, negD, addD, subD, modD, ltD, gtD, geD, leD, isND, isnND, intOp, intOpC, lenD_lst, lenD_tup, lenD_frz, len_sD, tupleD, listD, absD, max2D, min2D, allD, isiD, tyN, isiT_tt, isiT_ii, isiT_ib, idxD, lsA, gw, gt, opt_some, opt_none, bd_pu, bd_fl, bd_bd, chk_true, chk_tt, D.imm, D.imms, D.isN, List.map_cons, List.map_nil, List.length_cons, List.length_nil, List.set_cons_zero, List.set_cons_succ, List.getElem?_cons_zero, List.getElem?_cons_succ, List.getElem?_nil, Option.bind_some, Option.bind_none, Option.join_some, Option.join_none, Option.map_some, Bool.and_true, Bool.true_and, Bool.and_false, Bool.false_and, Bool.not_true, Bool.not_false, Bool.false_eq_true, Bool.true_eq_false, if_true, if_false, ite_true, ite_false, List.cons_append, List.nil_append, List.append_nil, Nat.zero_add, Nat.reduceAdd, Nat.reduceSub, Nat.reduceLeDiff, Int.reduceNeg, List.replicate_succ, List.replicate_zero, true_and, and_true, List.length_map, and_pu, or_pu, tand_pu, tor_pu, idx_0, idx_1, if_tt, if_ff, dSl, dNo, dSo, slD, imm_cD, imm_wD, intsD, sAppIx, sExt, sApp, lsD, sFor, seq_sD, eq_str, ne_str, eq_int, ne_int, nc0, nc1, nc2, nc3, nc4, decide_true, decide_false, ne_eq, not_true_eq_false, Int.reduceEq, not_false_eq_true, Bool.or_false, Bool.or_true, Bool.false_or, Bool.true_or, List.all_cons, List.all_nil, id_eq, imm_sD]; rfl, ?_, ?_⟩
      · rw [itD_sD hl]
        unfold sD
        simp (decide := true) (implicitDefEqProofs := false) only [bodyD, env0, sSeq, thenF, sIf, sRet, sRetN, sRetV, sSet, sSetN, sExpr, sNil, sAsg, sPar, resD, dV, dC, dOp, dUn, dNot, dAnd, dOr, dNotT, dAndT, dOrT, dB, dIf, dChain, dTup, dCons, dNil, dLst, dLstB, dCB, dCall, dCallK, dImm, dYes, a1, a2, bTup, bLst, bCons, bNil, bName, fSeq, seqOf, fRng1, fRng2, fEn, fZip, zip2, one1, ints1, ints2, asB, asI, negD, addD, subD, modD, ltD, gtD, geD, leD, isND, isnND, intOp, intOpC, lenD_lst, lenD_tup, lenD_frz, len_sD, tupleD, listD, absD, max2D, min2D, allD, isiD, tyN, isiT_tt, isiT_ii, isiT_ib, idxD, lsA, gw, gt, opt_some, opt_none, bd_pu, bd_fl, bd_bd, chk_true, chk_tt, D.imm, D.imms, D.isN, List.map_cons, List.map_nil, List.length_cons, List.length_nil, List.set_cons_zero, List.set_cons_succ, List.getElem?_cons_zero, List.getElem?_cons_succ, List.getElem?_nil, Option.bind_some, Option.bind_none, Option.join_some, Option.join_none, Option.map_some, Bool.and_true, Bool.true_and, Bool.and_false, Bool.false_and, Bool.not_true, Bool.not_false, Bool.false_eq_true, Bool.true_eq_false, if_true, if_false, ite_true, ite_false, List.cons_append, List.nil_append, List.append_nil, Nat.zero_add, Nat.reduceAdd, Nat.reduceSub, Nat.reduceLeDiff, Int.reduceNeg, List.replicate_succ, List.replicate_zero, true_and, and_true, List.length_map, and_pu, or_pu, tand_pu, tor_pu, idx_0, idx_1, if_tt, if_ff, dSl, dNo, dSo, slD, imm_cD, imm_wD, intsD, sAppIx, sExt, sApp, lsD, sFor, seq_sD, eq_str, ne_str, eq_int, ne_int, nc0, nc1, nc2, nc3, nc4, decide_true, decide_false, ne_eq, not_true_eq_false, Int.reduceEq, not_false_eq_true, Bool.or_false, Bool.or_true, Bool.false_or, Bool.true_or, List.all_cons, List.all_nil, id_eq, idx_int hl]
      · rw [itD_sD hl]; rfl), items_eq hv' fun r hr => (h r hr).len]
    simp (decide := true) (implicitDefEqProofs := false) only [bodyD, env0, sSeq, thenF, sIf, sRet, sRetN, sRetV, sSet, sSetN, sExpr, sNil, sAsg, sPar, resD, dV, dC, dOp, dUn, dNot, dAnd, dOr, dNotT, dAndT, dOrT, dB, dIf, dChain, dTup, dCons, dNil, dLst, dLstB, dCB, dCall, dCallK, dImm, dYes, a1, a2, bTup, bLst, bCons, bNil, bName, fSeq, seqOf, fRng1, fRng2, fEn, fZip, zip2, one1, ints1, ints2, asB, asI, negD, addD, subD, modD, ltD, gtD, geD, leD, isND, isnND, intOp, intOpC, lenD_lst, lenD_tup, lenD_frz, len_sD, tupleD, listD, absD, max2D, min2D, allD, isiD, tyN, isiT_tt, isiT_ii, isiT_ib, idxD, lsA, gw, gt, opt_some, opt_none, bd_pu, bd_fl, bd_bd, chk_true, chk_tt, D.imm, D.imms, D.isN, List.map_cons, List.map_nil, List.length_cons, List.length_nil, List.set_cons_zero, List.set_cons_succ, List.getElem?_cons_zero, List.getElem?_cons_succ, List.getElem?_nil, Option.bind_some, Option.bind_none, Option.join_some, Option.join_none, Option.map_some, Bool.and_true, Bool.true_and, Bool.and_false, Bool.false_and, Bool.not_true, Bool.not_false, Bool.false_eq_true, Bool.true_eq_false, if_true, if_false, ite_true, ite_false, List.cons_append, List.nil_append, List.append_nil, Nat.zero_add, Nat.reduceAdd, Nat.reduceSub, Nat.reduceLeDiff, Int.reduceNeg, List.replicate_succ, List.replicate_zero, true_and, and_true, List.length_map, and_pu, or_pu, tand_pu, tor_pu, idx_0, idx_1, if_tt, if_ff, dSl, dNo, dSo, slD, imm_cD, imm_wD, intsD, sAppIx, sExt, sApp, lsD, sFor, seq_sD, eq_str, ne_str, eq_int, ne_int, nc0, nc1, nc2, nc3, nc4, decide_true, decide_false, ne_eq, not_true_eq_false, Int.reduceEq, not_false_eq_true, Bool.or_false, Bool.or_true, Bool.false_or, Bool.true_or, List.all_cons, List.all_nil, id_eq, e_minL (show (rows.map fun r => r.getD v 0) ≠ [] from fun z => h0 (List.map_eq_nil_iff.mp z)), Int.toNat_natCast])]
  have em : (rngD 0 ws.length).map (fun d => match d with | .int v => D.int (lmin (rows.map fun r => r.getD v.toNat 0)) | _ => .non) = (mnv ws.length rows).map D.int := by
    unfold rngD mnv
    rw [List.map_map, List.map_map]
    refine List.map_congr_left fun k _ => ?_
    simp
  rw [em]
  simp (decide := true) (implicitDefEqProofs := false) only [bodyD, env0, sSeq, thenF, sIf, sRet, sRetN, sRetV, sSet, sSetN, sExpr, sNil, sAsg, sPar, resD, dV, dC, dOp, dUn, dNot, dAnd, dOr, dNotT, dAndT, dOrT, dB, dIf, dChain, dTup, dCons, dNil, dLst, dLstB, dCB, dCall, dCallK, dImm, dYes, a1, a2, bTup, bLst, bCons, bNil, bName, fSeq, seqOf, fRng1, fRng2, fEn, fZip, zip2, one1, ints1, ints2, asB, asI, negD, addD, subD, modD, ltD, gtD, geD, leD, isND, isnND, intOp, intOpC, lenD_lst, lenD_tup, lenD_frz, len_sD, tupleD, listD, absD, max2D, min2D, allD, isiD, tyN, isiT_tt, isiT_ii, isiT_ib, idxD, lsA, gw, gt, opt_some, opt_none, bd_pu, bd_fl, bd_bd, chk_true, chk_tt, D.imm, D.imms, D.isN, List.map_cons, List.map_nil, List.length_cons, List.length_nil, List.set_cons_zero, List.set_cons_succ, List.getElem?_cons_zero, List.getElem?_cons_succ, List.getElem?_nil, Option.bind_some, Option.bind_none, Option.join_some, Option.join_none, Option.map_some, Bool.and_true, Bool.true_and, Bool.and_false, Bool.false_and, Bool.not_true, Bool.not_false, Bool.false_eq_true, Bool.true_eq_false, if_true, if_false, ite_true, ite_false, List.cons_append, List.nil_append, List.append_nil, Nat.zero_add, Nat.reduceAdd, Nat.reduceSub, Nat.reduceLeDiff, Int.reduceNeg, List.replicate_succ, List.replicate_zero, true_and, and_true, List.length_map, and_pu, or_pu, tand_pu, tor_pu, idx_0, idx_1, if_tt, if_ff, dSl, dNo, dSo, slD, imm_cD, imm_wD, intsD, sAppIx, sExt, sApp, lsD, sFor, seq_sD, eq_str, ne_str, eq_int, ne_int, nc0, nc1, nc2, nc3, nc4, decide_true, decide_false, ne_eq, not_true_eq_false, Int.reduceEq, not_false_eq_true, Bool.or_false, Bool.or_true, Bool.false_or, Bool.true_or, List.all_cons, List.all_nil, id_eq, na, imms_int]
  rfl
theorem e_maximum {ws : List (Int × Int)} {cs : List Cp} {rows : List (List Int)} (V : VY ws cs) (h : ∀ r ∈ rows, VS ws cs r) (h0 : rows ≠ []) (h9 : rows.length ≤ 100) : F_maximum (yD ws cs :: rows.map sD) = pu (sD (mxv ws.length rows)) := by
  have n40 := V.n40
  unfold F_maximum
  show chk (1 ≤ (yD ws cs :: rows.map sD).length ∧ (yD ws cs :: rows.map sD).length ≤ 1000) (bodyD 2 N_maximum.length g_maximum [yD ws cs, .tup (rows.map sD)]) = _
  rw [chk_pos (by rw [List.length_cons, List.length_map]; omega)]
  unfold g_maximum
  have na := e_need_all V h
  unfold yD at na
  have hn : -(2 ^ 62) ≤ ((ws.length : Nat) : Int) ∧ ((ws.length : Nat) : Int) < 2 ^ 62 := by omega
  simp (decide := true) (implicitDefEqProofs := false) only [bodyD, env0, sSeq, thenF, sIf, sRet, sRetN, sRetV, sSet, sSetN, sExpr, sNil, sAsg, sPar, resD, dV, dC, dOp, dUn, dNot, dAnd, dOr, dNotT, dAndT, dOrT, dB, dIf, dChain, dTup, dCons, dNil, dLst, dLstB, dCB, dCall, dCallK, dImm, dYes, a1, a2, bTup, bLst, bCons, bNil, bName, fSeq, seqOf, fRng1, fRng2, fEn, fZip, zip2, one1, ints1, ints2, asB, asI, negD, addD, subD, modD, ltD, gtD, geD, leD, isND, isnND, intOp, intOpC, lenD_lst, lenD_tup, lenD_frz, len_sD, tupleD, listD, absD, max2D, min2D, allD, isiD, tyN, isiT_tt, isiT_ii, isiT_ib, idxD, lsA, gw, gt, opt_some, opt_none, bd_pu, bd_fl, bd_bd, chk_true, chk_tt, D.imm, D.imms, D.isN, List.map_cons, List.map_nil, List.length_cons, List.length_nil, List.set_cons_zero, List.set_cons_succ, List.getElem?_cons_zero, List.getElem?_cons_succ, List.getElem?_nil, Option.bind_some, Option.bind_none, Option.join_some, Option.join_none, Option.map_some, Bool.and_true, Bool.true_and, Bool.and_false, Bool.false_and, Bool.not_true, Bool.not_false, Bool.false_eq_true, Bool.true_eq_false, if_true, if_false, ite_true, ite_false, List.cons_append, List.nil_append, List.append_nil, Nat.zero_add, Nat.reduceAdd, Nat.reduceSub, Nat.reduceLeDiff, Int.reduceNeg, List.replicate_succ, List.replicate_zero, true_and, and_true, List.length_map, and_pu, or_pu, tand_pu, tor_pu, idx_0, idx_1, if_tt, if_ff, dSl, dNo, dSo, slD, imm_cD, imm_wD, intsD, sAppIx, sExt, sApp, lsD, sFor, seq_sD, eq_str, ne_str, eq_int, ne_int, nc0, nc1, nc2, nc3, nc4, decide_true, decide_false, ne_eq, not_true_eq_false, Int.reduceEq, not_false_eq_true, Bool.or_false, Bool.or_true, Bool.false_or, Bool.true_or, List.all_cons, List.all_nil, id_eq, na, yD, chk_pos hn, Int.toNat_natCast, dLc, wipeE, imms_sD]
  rw [lc_map (fun d => match d with | .int v => D.int (lmax (rows.map fun r => r.getD v.toNat 0)) | _ => .non) (rngD 0 ws.length) (by rw [rngD_len]; exact small (by omega)) (fun d q => by
    obtain ⟨v, hv⟩ := List.mem_iff_getElem?.mp q
    obtain ⟨hv', rfl⟩ := rngD_at hv
    refine ⟨_, by simp (decide := true) (implicitDefEqProofs := false) only [bodyD, env0, sSeq, thenF, sIf, sRet, sRetN, sRetV, sSet, sSetN, sExpr, sNil, sAsg, sPar, resD, dV, dC, dOp, dUn, dNot, dAnd, dOr, dNotT, dAndT, dOrT, dB, dIf, dChain, dTup, dCons, dNil, dLst, dLstB, dCB, dCall, dCallK, dImm, dYes, a1, a2, bTup, bLst, bCons, bNil, bName, fSeq, seqOf, fRng1, fRng2, fEn, fZip, zip2, one1, ints1, ints2, asB, asI, negD, addD, subD, modD, ltD, gtD, geD, leD, isND, isnND, intOp, intOpC, lenD_lst, lenD_tup, lenD_frz, len_sD, tupleD, listD, absD, max2D, min2D, allD, isiD, tyN, isiT_tt, isiT_ii, isiT_ib, idxD, lsA, gw, gt, opt_some, opt_none, bd_pu, bd_fl, bd_bd, chk_true, chk_tt, D.imm, D.imms, D.isN, List.map_cons, List.map_nil, List.length_cons, List.length_nil, List.set_cons_zero, List.set_cons_succ, List.getElem?_cons_zero, List.getElem?_cons_succ, List.getElem?_nil, Option.bind_some, Option.bind_none, Option.join_some, Option.join_none, Option.map_some, Bool.and_true, Bool.true_and, Bool.and_false, Bool.false_and, Bool.not_true, Bool.not_false, Bool.false_eq_true, Bool.true_eq_false, if_true, if_false, ite_true, ite_false, List.cons_append, List.nil_append, List.append_nil, Nat.zero_add, Nat.reduceAdd, Nat.reduceSub, Nat.reduceLeDiff, Int.reduceNeg, List.replicate_succ, List.replicate_zero, true_and, and_true, List.length_map, and_pu, or_pu, tand_pu, tor_pu, idx_0, idx_1, if_tt, if_ff, dSl, dNo, dSo, slD, imm_cD, imm_wD, intsD, sAppIx, sExt, sApp, lsD, sFor, seq_sD, eq_str, ne_str, eq_int, ne_int, nc0, nc1, nc2, nc3, nc4, decide_true, decide_false, ne_eq, not_true_eq_false, Int.reduceEq, not_false_eq_true, Bool.or_false, Bool.or_true, Bool.false_or, Bool.true_or, List.all_cons, List.all_nil, id_eq]; rfl, ?_, rfl⟩
    simp (decide := true) (implicitDefEqProofs := false) only [bodyD, env0, sSeq, thenF, sIf, sRet, sRetN, sRetV, sSet, sSetN, sExpr, sNil, sAsg, sPar, resD, dV, dC, dOp, dUn, dNot, dAnd, dOr, dNotT, dAndT, dOrT, dB, dIf, dChain, dTup, dCons, dNil, dLst, dLstB, dCB, dCall, dCallK, dImm, dYes, a1, a2, bTup, bLst, bCons, bNil, bName, fSeq, seqOf, fRng1, fRng2, fEn, fZip, zip2, one1, ints1, ints2, asB, asI, negD, addD, subD, modD, ltD, gtD, geD, leD, isND, isnND, intOp, intOpC, lenD_lst, lenD_tup, lenD_frz, len_sD, tupleD, listD, absD, max2D, min2D, allD, isiD, tyN, isiT_tt, isiT_ii, isiT_ib, idxD, lsA, gw, gt, opt_some, opt_none, bd_pu, bd_fl, bd_bd, chk_true, chk_tt, D.imm, D.imms, D.isN, List.map_cons, List.map_nil, List.length_cons, List.length_nil, List.set_cons_zero, List.set_cons_succ, List.getElem?_cons_zero, List.getElem?_cons_succ, List.getElem?_nil, Option.bind_some, Option.bind_none, Option.join_some, Option.join_none, Option.map_some, Bool.and_true, Bool.true_and, Bool.and_false, Bool.false_and, Bool.not_true, Bool.not_false, Bool.false_eq_true, Bool.true_eq_false, if_true, if_false, ite_true, ite_false, List.cons_append, List.nil_append, List.append_nil, Nat.zero_add, Nat.reduceAdd, Nat.reduceSub, Nat.reduceLeDiff, Int.reduceNeg, List.replicate_succ, List.replicate_zero, true_and, and_true, List.length_map, and_pu, or_pu, tand_pu, tor_pu, idx_0, idx_1, if_tt, if_ff, dSl, dNo, dSo, slD, imm_cD, imm_wD, intsD, sAppIx, sExt, sApp, lsD, sFor, seq_sD, eq_str, ne_str, eq_int, ne_int, nc0, nc1, nc2, nc3, nc4, decide_true, decide_false, ne_eq, not_true_eq_false, Int.reduceEq, not_false_eq_true, Bool.or_false, Bool.or_true, Bool.false_or, Bool.true_or, List.all_cons, List.all_nil, id_eq, imms_sD, dLc, wipeE]
    rw [lc_map (itD v) (rows.map sD) (by rw [List.length_map]; exact small (by omega)) (fun d q => by
      obtain ⟨r, hr, rfl⟩ := List.mem_map.mp q
      have hl : v < r.length := by rw [(h r hr).len]; exact hv'
      refine ⟨_, by simp (decide := true) (implicitDefEqProofs := false) only [bodyD, env0, sSeq, thenF, sIf, sRet, sRetN, sRetV, sSet, sSetN, sExpr, sNil, sAsg, sPar, resD, dV, dC, dOp, dUn, dNot, dAnd, dOr, dNotT, dAndT, dOrT, dB, dIf, dChain, dTup, dCons, dNil, dLst, dLstB, dCB, dCall, dCallK, dImm, dYes, a1, a2, bTup, bLst, bCons, bNil, bName, fSeq, seqOf, fRng1, fRng2, fEn, fZip, zip2, one1, ints1, ints2, asB, asI, negD, addD, subD, modD, ltD, gtD, geD, leD, isND, isnND, intOp, intOpC, lenD_lst, lenD_tup, lenD_frz, len_sD, tupleD, listD, absD, max2D, min2D, allD, isiD, tyN, isiT_tt, isiT_ii, isiT_ib, idxD, lsA, gw, gt, opt_some, opt_none, bd_pu, bd_fl, bd_bd, chk_true, chk_tt, D.imm, D.imms, D.isN, List.map_cons, List.map_nil, List.length_cons, List.length_nil, List.set_cons_zero, List.set_cons_succ, List.getElem?_cons_zero, List.getElem?_cons_succ, List.getElem?_nil, Option.bind_some, Option.bind_none, Option.join_some, Option.join_none, Option.map_some, Bool.and_true, Bool.true_and, Bool.and_false, Bool.false_and, Bool.not_true, Bool.not_false, Bool.false_eq_true, Bool.true_eq_false, if_true, if_false, ite_true, ite_false, List.cons_append, List.nil_append, List.append_nil, Nat.zero_add, Nat.reduceAdd, Nat.reduceSub, Nat.reduceLeDiff, Int.reduceNeg, List.replicate_succ, List.replicate_zero, true_and, and_true, List.length_map, and_pu, or_pu, tand_pu, tor_pu, idx_0, idx_1, if_tt, if_ff, dSl, dNo, dSo, slD, imm_cD, imm_wD, intsD, sAppIx, sExt, sApp, lsD, sFor, seq_sD, eq_str, ne_str, eq_int, ne_int, nc0, nc1, nc2, nc3, nc4, decide_true, decide_false, ne_eq, not_true_eq_false, Int.reduceEq, not_false_eq_true, Bool.or_false, Bool.or_true, Bool.false_or, Bool.true_or, List.all_cons, List.all_nil, id_eq, imm_sD]; rfl, ?_, ?_⟩
      · rw [itD_sD hl]
        unfold sD
        simp (decide := true) (implicitDefEqProofs := false) only [bodyD, env0, sSeq, thenF, sIf, sRet, sRetN, sRetV, sSet, sSetN, sExpr, sNil, sAsg, sPar, resD, dV, dC, dOp, dUn, dNot, dAnd, dOr, dNotT, dAndT, dOrT, dB, dIf, dChain, dTup, dCons, dNil, dLst, dLstB, dCB, dCall, dCallK, dImm, dYes, a1, a2, bTup, bLst, bCons, bNil, bName, fSeq, seqOf, fRng1, fRng2, fEn, fZip, zip2, one1, ints1, ints2, asB, asI, negD, addD, subD, modD, ltD, gtD, geD, leD, isND, isnND, intOp, intOpC, lenD_lst, lenD_tup, lenD_frz, len_sD, tupleD, listD, absD, max2D, min2D, allD, isiD, tyN, isiT_tt, isiT_ii, isiT_ib, idxD, lsA, gw, gt, opt_some, opt_none, bd_pu, bd_fl, bd_bd, chk_true, chk_tt, D.imm, D.imms, D.isN, List.map_cons, List.map_nil, List.length_cons, List.length_nil, List.set_cons_zero, List.set_cons_succ, List.getElem?_cons_zero, List.getElem?_cons_succ, List.getElem?_nil, Option.bind_some, Option.bind_none, Option.join_some, Option.join_none, Option.map_some, Bool.and_true, Bool.true_and, Bool.and_false, Bool.false_and, Bool.not_true, Bool.not_false, Bool.false_eq_true, Bool.true_eq_false, if_true, if_false, ite_true, ite_false, List.cons_append, List.nil_append, List.append_nil, Nat.zero_add, Nat.reduceAdd, Nat.reduceSub, Nat.reduceLeDiff, Int.reduceNeg, List.replicate_succ, List.replicate_zero, true_and, and_true, List.length_map, and_pu, or_pu, tand_pu, tor_pu, idx_0, idx_1, if_tt, if_ff, dSl, dNo, dSo, slD, imm_cD, imm_wD, intsD, sAppIx, sExt, sApp, lsD, sFor, seq_sD, eq_str, ne_str, eq_int, ne_int, nc0, nc1, nc2, nc3, nc4, decide_true, decide_false, ne_eq, not_true_eq_false, Int.reduceEq, not_false_eq_true, Bool.or_false, Bool.or_true, Bool.false_or, Bool.true_or, List.all_cons, List.all_nil, id_eq, idx_int hl]
      · rw [itD_sD hl]; rfl), items_eq hv' fun r hr => (h r hr).len]
    simp (decide := true) (implicitDefEqProofs := false) only [bodyD, env0, sSeq, thenF, sIf, sRet, sRetN, sRetV, sSet, sSetN, sExpr, sNil, sAsg, sPar, resD, dV, dC, dOp, dUn, dNot, dAnd, dOr, dNotT, dAndT, dOrT, dB, dIf, dChain, dTup, dCons, dNil, dLst, dLstB, dCB, dCall, dCallK, dImm, dYes, a1, a2, bTup, bLst, bCons, bNil, bName, fSeq, seqOf, fRng1, fRng2, fEn, fZip, zip2, one1, ints1, ints2, asB, asI, negD, addD, subD, modD, ltD, gtD, geD, leD, isND, isnND, intOp, intOpC, lenD_lst, lenD_tup, lenD_frz, len_sD, tupleD, listD, absD, max2D, min2D, allD, isiD, tyN, isiT_tt, isiT_ii, isiT_ib, idxD, lsA, gw, gt, opt_some, opt_none, bd_pu, bd_fl, bd_bd, chk_true, chk_tt, D.imm, D.imms, D.isN, List.map_cons, List.map_nil, List.length_cons, List.length_nil, List.set_cons_zero, List.set_cons_succ, List.getElem?_cons_zero, List.getElem?_cons_succ, List.getElem?_nil, Option.bind_some, Option.bind_none, Option.join_some, Option.join_none, Option.map_some, Bool.and_true, Bool.true_and, Bool.and_false, Bool.false_and, Bool.not_true, Bool.not_false, Bool.false_eq_true, Bool.true_eq_false, if_true, if_false, ite_true, ite_false, List.cons_append, List.nil_append, List.append_nil, Nat.zero_add, Nat.reduceAdd, Nat.reduceSub, Nat.reduceLeDiff, Int.reduceNeg, List.replicate_succ, List.replicate_zero, true_and, and_true, List.length_map, and_pu, or_pu, tand_pu, tor_pu, idx_0, idx_1, if_tt, if_ff, dSl, dNo, dSo, slD, imm_cD, imm_wD, intsD, sAppIx, sExt, sApp, lsD, sFor, seq_sD, eq_str, ne_str, eq_int, ne_int, nc0, nc1, nc2, nc3, nc4, decide_true, decide_false, ne_eq, not_true_eq_false, Int.reduceEq, not_false_eq_true, Bool.or_false, Bool.or_true, Bool.false_or, Bool.true_or, List.all_cons, List.all_nil, id_eq, e_maxL (show (rows.map fun r => r.getD v 0) ≠ [] from fun z => h0 (List.map_eq_nil_iff.mp z)), Int.toNat_natCast])]
  have em : (rngD 0 ws.length).map (fun d => match d with | .int v => D.int (lmax (rows.map fun r => r.getD v.toNat 0)) | _ => .non) = (mxv ws.length rows).map D.int := by
    unfold rngD mxv
    rw [List.map_map, List.map_map]
    refine List.map_congr_left fun k _ => ?_
    simp
  rw [em]
  simp (decide := true) (implicitDefEqProofs := false) only [bodyD, env0, sSeq, thenF, sIf, sRet, sRetN, sRetV, sSet, sSetN, sExpr, sNil, sAsg, sPar, resD, dV, dC, dOp, dUn, dNot, dAnd, dOr, dNotT, dAndT, dOrT, dB, dIf, dChain, dTup, dCons, dNil, dLst, dLstB, dCB, dCall, dCallK, dImm, dYes, a1, a2, bTup, bLst, bCons, bNil, bName, fSeq, seqOf, fRng1, fRng2, fEn, fZip, zip2, one1, ints1, ints2, asB, asI, negD, addD, subD, modD, ltD, gtD, geD, leD, isND, isnND, intOp, intOpC, lenD_lst, lenD_tup, lenD_frz, len_sD, tupleD, listD, absD, max2D, min2D, allD, isiD, tyN, isiT_tt, isiT_ii, isiT_ib, idxD, lsA, gw, gt, opt_some, opt_none, bd_pu, bd_fl, bd_bd, chk_true, chk_tt, D.imm, D.imms, D.isN, List.map_cons, List.map_nil, List.length_cons, List.length_nil, List.set_cons_zero, List.set_cons_succ, List.getElem?_cons_zero, List.getElem?_cons_succ, List.getElem?_nil, Option.bind_some, Option.bind_none, Option.join_some, Option.join_none, Option.map_some, Bool.and_true, Bool.true_and, Bool.and_false, Bool.false_and, Bool.not_true, Bool.not_false, Bool.false_eq_true, Bool.true_eq_false, if_true, if_false, ite_true, ite_false, List.cons_append, List.nil_append, List.append_nil, Nat.zero_add, Nat.reduceAdd, Nat.reduceSub, Nat.reduceLeDiff, Int.reduceNeg, List.replicate_succ, List.replicate_zero, true_and, and_true, List.length_map, and_pu, or_pu, tand_pu, tor_pu, idx_0, idx_1, if_tt, if_ff, dSl, dNo, dSo, slD, imm_cD, imm_wD, intsD, sAppIx, sExt, sApp, lsD, sFor, seq_sD, eq_str, ne_str, eq_int, ne_int, nc0, nc1, nc2, nc3, nc4, decide_true, decide_false, ne_eq, not_true_eq_false, Int.reduceEq, not_false_eq_true, Bool.or_false, Bool.or_true, Bool.false_or, Bool.true_or, List.all_cons, List.all_nil, id_eq, na, imms_int]
  rfl
end CY
namespace CY
open PySem L2 DL
/-! ### what may come out, and at most how many draws it takes -/
def EnC {α : Type} (c : Nat) (w : DL.W α) (P : α → Prop) : Prop := ∀ Q X n, n + c < 2 ^ 50 → (∀ a m, m ≤ n + c → P a → Q a m) → w Q X n
section
variable {α β : Type} {P : α → Prop} {R : β → Prop} {c c1 c2 : Nat}
theorem EnC.pu {a : α} (h : P a) : EnC c (DL.pu a) P := fun Q X n _ k => k a n (by omega) h
theorem EnC.bd {m : DL.W α} {k : α → DL.W β} (hc : c1 + c2 ≤ c) (h : EnC c1 m P) (hk : ∀ a, P a → EnC c2 (k a) R) : EnC c (DL.bd m k) R := fun Q X n hn q => h _ X n (by omega) fun a m' hm pa => hk a pa Q X m' (by omega) fun b m'' hm'' rb => q b m'' (by omega) rb
theorem EnC.wk {m : DL.W α} {S : α → Prop} (h : EnC c m P) (s : ∀ a, P a → S a) : EnC c m S := fun Q X n hn q => h Q X n hn fun a m hm p => q a m hm (s a p)
theorem EnC.mono {m : DL.W α} (hc : c1 ≤ c) (h : EnC c1 m P) : EnC c m P := fun Q X n hn q => h Q X n (by omega) fun a m hm p => q a m (by omega) p
theorem EnC.chk {w : DL.W α} {p : Prop} (hp : p) (h : EnC c w P) : EnC c (DL.chk p w) P := fun Q X n hn q => ⟨hp, h Q X n hn q⟩
theorem EnC.for {h : D → DL.Env → DL.W DL.Env} {g : DL.Env → DL.W (Fl × DL.Env)} (I : Nat → DL.Env → Prop) : ∀ (ds : List D) (δ : DL.Env) (n : Nat), I n δ →
    (∀ i d δ, ds[i]? = some d → I (n + i) δ → EnC c (DL.bd (h d δ) g) fun r => ∃ δ', r = (.nx, δ') ∧ I (n + i + 1) δ') → EnC (c * ds.length) (forW h g ds δ) fun r => ∃ δ', r = (.nx, δ') ∧ I (n + ds.length) δ'
  | [], δ, n, h0, _ => EnC.pu ⟨δ, rfl, h0⟩
  | d :: ds, δ, n, h0, st => by
    rw [forW_cons]
    refine EnC.bd (c1 := c) (c2 := c * ds.length) (by rw [List.length_cons, Nat.mul_succ]; omega) (st 0 d δ rfl h0) ?_
    rintro _ ⟨δ', rfl, h1⟩
    have ih := EnC.for (h := h) (g := g) I ds δ' (n + 1) h1 fun i d' δ2 q hi => by
      have := st (i + 1) d' δ2 (by simpa using q) (by rw [show n + (i + 1) = n + 1 + i by omega]; exact hi)
      rw [show n + (i + 1) = n + 1 + i by omega] at this
      exact this
    rw [List.length_cons, show n + (ds.length + 1) = n + 1 + ds.length by omega]
    exact ih
theorem EnC.bdFor {h : D → DL.Env → DL.W DL.Env} {g : DL.Env → DL.W (Fl × DL.Env)} {ds : List D} {δ : DL.Env} {k : Fl × DL.Env → DL.W β} (t : Nat) (I : Nat → DL.Env → Prop) (ht : ds.length ≤ t) (hc : c1 * t + c2 ≤ c) (h0 : I 0 δ)
    (st : ∀ i d δ, ds[i]? = some d → I i δ → EnC c1 (DL.bd (h d δ) g) fun r => ∃ δ', r = (.nx, δ') ∧ I (i + 1) δ') (fin : ∀ δ', I ds.length δ' → EnC c2 (k (.nx, δ')) R) : EnC c (DL.bd (forW h g ds δ) k) R := by
  have hm : c1 * ds.length ≤ c1 * t := Nat.mul_le_mul_left _ ht
  refine EnC.bd (c1 := c1 * ds.length) (c2 := c2) (by omega) (EnC.for I ds δ 0 h0 fun i d δ q hi => by rw [Nat.zero_add] at hi ⊢; exact st i d δ q hi) ?_
  rintro _ ⟨δ', rfl, h1⟩
  rw [Nat.zero_add] at h1
  exact fin δ' h1
theorem EnC.wh {t : DL.Env → DL.W Bool} {g : DL.Env → DL.W (Fl × DL.Env)} (I : Nat → DL.Env → Prop) (Z : DL.Env → Prop) (st : ∀ m δ, I m δ → (∃ b, t δ = DL.pu b ∧ (b = false → Z δ) ∧ (b = true → 0 < m ∧ EnC c (g δ) fun r => ∃ δ', r = (.nx, δ') ∧ I (m - 1) δ'))) :
    ∀ m δ, I m δ → EnC (c * m) (whN t g (m + 1) δ) fun r => ∃ δ', r = (.nx, δ') ∧ Z δ' := by
  intro m
  induction m with
  | zero =>
    intro δ hI
    obtain ⟨b, e, h1, h2⟩ := st 0 δ hI
    show EnC _ (DL.bd (t δ) fun b => if b = true then DL.bd (g δ) (again (whN t g 0)) else DL.pu (.nx, δ)) _
    rw [e, bd_pu]
    cases b with
    | true => exact absurd (h2 rfl).1 (Nat.lt_irrefl 0)
    | false => exact EnC.pu ⟨δ, rfl, h1 rfl⟩
  | succ m ih =>
    intro δ hI
    obtain ⟨b, e, h1, h2⟩ := st (m + 1) δ hI
    show EnC _ (DL.bd (t δ) fun b => if b = true then DL.bd (g δ) (again (whN t g (m + 1))) else DL.pu (.nx, δ)) _
    rw [e, bd_pu]
    cases b with
    | true =>
      rw [if_pos rfl]
      refine EnC.bd (c1 := c) (c2 := c * m) (by rw [Nat.mul_succ]; omega) (h2 rfl).2 ?_
      rintro _ ⟨δ', rfl, h3⟩
      exact ih δ' h3
    | false => exact EnC.pu ⟨δ, rfl, h1 rfl⟩
theorem EnC.sWh {t : DL.Env → DL.W Bool} {g : DL.Env → DL.W (Fl × DL.Env)} (I : Nat → DL.Env → Prop) (Z : DL.Env → Prop) {m : Nat} {δ : DL.Env} (h0 : I m δ)
    (st : ∀ m δ, I m δ → (∃ b, t δ = DL.pu b ∧ (b = false → Z δ) ∧ (b = true → 0 < m ∧ EnC c (g δ) fun r => ∃ δ', r = (.nx, δ') ∧ I (m - 1) δ'))) : EnC (c * m) (DL.sWh t g δ) fun r => ∃ δ', r = (.nx, δ') ∧ Z δ' :=
  fun Q X n hn q => ⟨m + 1, EnC.wh I Z st m δ h0 Q X n hn q⟩
theorem EnC.lc {h : D → DL.Env → DL.W DL.Env} {f : DL.Env → DL.W D} {δ : DL.Env} (P : D → Prop) : ∀ (ds acc : List D), acc.length + ds.length < sizeLine → (∀ a ∈ acc, P a) → (∀ d ∈ ds, ∃ δ1, h d δ = DL.pu δ1 ∧ EnC c (f δ1) fun e => P e ∧ e.imm = true) →
    EnC (c * ds.length) (lcW h dYes f δ ds acc) fun es => es.length = acc.length + ds.length ∧ ∀ a ∈ es, P a
  | [], acc, _, ha, _ => EnC.pu ⟨rfl, ha⟩
  | d :: ds, acc, hl, ha, st => by
    obtain ⟨δ1, e1, e2⟩ := st d List.mem_cons_self
    have hl' : acc.length + ds.length + 1 < sizeLine := by simpa [Nat.add_assoc] using hl
    show EnC _ (DL.bd (h d δ) fun δ1 => DL.bd (DL.pu true) fun b => if b = true then DL.bd (f δ1) fun e => DL.chk (e.imm = true ∧ acc.length < sizeLine) (lcW h dYes f δ ds (acc ++ [e])) else lcW h dYes f δ ds acc) _
    rw [e1, bd_pu, bd_pu, if_pos rfl]
    refine EnC.bd (c1 := c) (c2 := c * ds.length) (by rw [List.length_cons, Nat.mul_succ]; omega) e2 fun e he => EnC.chk ⟨he.2, by omega⟩ ?_
    refine EnC.wk (EnC.lc P ds (acc ++ [e]) (by rw [List.length_append, List.length_singleton]; omega) (fun a ha' => ?_) fun d' q => st d' (List.mem_cons_of_mem _ q)) fun es ⟨h1, h2⟩ => ⟨?_, h2⟩
    · rcases List.mem_append.mp ha' with z | z
      · exact ha a z
      · rw [List.mem_singleton.mp z]; exact he.1
    · rw [h1, List.length_append, List.length_singleton, List.length_cons]
      omega
end
end CY
namespace DB
open PySem L2 DL CY
theorem mod_pos (i j : Int) (h : 0 < j) : modD (.int i) (.int j) = pu (.int (i % j)) := by
  show chk (0 < j) (pu (D.int (i % j))) = _
  rw [chk_pos h]
theorem fdiv_of (i j : Int) (h : 0 < j) (h2 : j.natAbs < 2 ^ 64) : fdivD (.int i) (.int j) = pu (.int (i / j)) := by
  show chk (CDivW i j) (pu (D.int (i / j))) = _
  rw [chk_pos ⟨h, Nat.lt_trans (PySem.Flt.log2_lt_of (by decide) h2) (by decide)⟩]
theorem n_next {t : Int} (h0 : 0 < t) (h1 : t < 2 ^ 40) : EnC 1 (F__law_next [.src, .int t]) fun d => ∃ r : Int, d = .int r ∧ 0 ≤ r ∧ r < t := fun Q X n hn q => ⟨t, rfl, h0, h1, by omega, fun r r0 r1 => q _ (n + 1) (by omega) ⟨r, rfl, r0, r1⟩⟩
theorem idx_at {l : List D} {r : Int} (h0 : 0 ≤ r) (hl : r < (l.length : Nat)) : ∃ d ∈ l, idxL l r = pu d := by
  have hk : r.toNat < l.length := by omega
  refine ⟨l[r.toNat], List.getElem_mem _, ?_⟩
  have e := idx_nat (List.getElem?_eq_getElem hk)
  rw [Int.toNat_of_nonneg h0] at e
  exact e
theorem n_of {l : List Int} (hl : l ≠ []) (hb : l.length ≤ 1000) : EnC 1 (F__law_of [.src, .lst (l.map D.int)]) fun d => ∃ v ∈ l, d = .int v := by
  unfold F__law_of g__law_of
  have hp : 0 < l.length := List.length_pos_iff.mpr hl
  simp (decide := true) (implicitDefEqProofs := false) only [bodyD, env0, sSeq, thenF, sIf, sRet, sRetN, sRetV, sSet, sSetN, sExpr, sNil, sAsg, sPar, resD, dV, dC, dOp, dUn, dNot, dAnd, dOr, dNotT, dAndT, dOrT, dB, dIf, dChain, dTup, dCons, dNil, dLst, dLstB, dCB, dCall, dCallK, dImm, dYes, a1, a2, bTup, bLst, bCons, bNil, bName, fSeq, seqOf, fRng1, fRng2, fEn, fZip, zip2, one1, ints1, ints2, asB, asI, negD, addD, subD, modD, ltD, gtD, geD, leD, isND, isnND, intOp, intOpC, lenD_lst, lenD_tup, lenD_frz, len_sD, tupleD, listD, absD, max2D, min2D, allD, isiD, tyN, isiT_tt, isiT_ii, isiT_ib, idxD, lsA, gw, gt, opt_some, opt_none, bd_pu, bd_fl, bd_bd, chk_true, chk_tt, D.imm, D.imms, D.isN, List.map_cons, List.map_nil, List.length_cons, List.length_nil, List.set_cons_zero, List.set_cons_succ, List.getElem?_cons_zero, List.getElem?_cons_succ, List.getElem?_nil, Option.bind_some, Option.bind_none, Option.join_some, Option.join_none, Option.map_some, Bool.and_true, Bool.true_and, Bool.and_false, Bool.false_and, Bool.not_true, Bool.not_false, Bool.false_eq_true, Bool.true_eq_false, if_true, if_false, ite_true, ite_false, List.cons_append, List.nil_append, List.append_nil, Nat.zero_add, Nat.reduceAdd, Nat.reduceSub, Nat.reduceLeDiff, Int.reduceNeg, List.replicate_succ, List.replicate_zero, true_and, and_true, List.length_map, and_pu, or_pu, tand_pu, tor_pu, idx_0, idx_1, if_tt, if_ff, dSl, dNo, dSo, slD, imm_cD, imm_wD, intsD, sAppIx, sExt, sApp, lsD, sFor, seq_sD, eq_str, ne_str, eq_int, ne_int, nc0, nc1, nc2, nc3, nc4, decide_true, decide_false, ne_eq, not_true_eq_false, Int.reduceEq, not_false_eq_true, Bool.or_false, Bool.or_true, Bool.false_or, Bool.true_or, List.all_cons, List.all_nil, id_eq]
  refine EnC.bd (c1 := 1) (c2 := 0) (by decide) (n_next (t := (l.length : Nat)) (by omega) (by omega)) ?_
  rintro _ ⟨r, rfl, h0, h1⟩
  obtain ⟨d, hd, e⟩ := idx_at (l := l.map D.int) (r := r) h0 (by rw [List.length_map]; exact h1)
  obtain ⟨v, hv, rfl⟩ := List.mem_map.mp hd
  simp (decide := true) (implicitDefEqProofs := false) only [bodyD, env0, sSeq, thenF, sIf, sRet, sRetN, sRetV, sSet, sSetN, sExpr, sNil, sAsg, sPar, resD, dV, dC, dOp, dUn, dNot, dAnd, dOr, dNotT, dAndT, dOrT, dB, dIf, dChain, dTup, dCons, dNil, dLst, dLstB, dCB, dCall, dCallK, dImm, dYes, a1, a2, bTup, bLst, bCons, bNil, bName, fSeq, seqOf, fRng1, fRng2, fEn, fZip, zip2, one1, ints1, ints2, asB, asI, negD, addD, subD, modD, ltD, gtD, geD, leD, isND, isnND, intOp, intOpC, lenD_lst, lenD_tup, lenD_frz, len_sD, tupleD, listD, absD, max2D, min2D, allD, isiD, tyN, isiT_tt, isiT_ii, isiT_ib, idxD, lsA, gw, gt, opt_some, opt_none, bd_pu, bd_fl, bd_bd, chk_true, chk_tt, D.imm, D.imms, D.isN, List.map_cons, List.map_nil, List.length_cons, List.length_nil, List.set_cons_zero, List.set_cons_succ, List.getElem?_cons_zero, List.getElem?_cons_succ, List.getElem?_nil, Option.bind_some, Option.bind_none, Option.join_some, Option.join_none, Option.map_some, Bool.and_true, Bool.true_and, Bool.and_false, Bool.false_and, Bool.not_true, Bool.not_false, Bool.false_eq_true, Bool.true_eq_false, if_true, if_false, ite_true, ite_false, List.cons_append, List.nil_append, List.append_nil, Nat.zero_add, Nat.reduceAdd, Nat.reduceSub, Nat.reduceLeDiff, Int.reduceNeg, List.replicate_succ, List.replicate_zero, true_and, and_true, List.length_map, and_pu, or_pu, tand_pu, tor_pu, idx_0, idx_1, if_tt, if_ff, dSl, dNo, dSo, slD, imm_cD, imm_wD, intsD, sAppIx, sExt, sApp, lsD, sFor, seq_sD, eq_str, ne_str, eq_int, ne_int, nc0, nc1, nc2, nc3, nc4, decide_true, decide_false, ne_eq, not_true_eq_false, Int.reduceEq, not_false_eq_true, Bool.or_false, Bool.or_true, Bool.false_or, Bool.true_or, List.all_cons, List.all_nil, id_eq, e]
  exact EnC.pu ⟨v, hv, rfl⟩
theorem n_of4 (a b c d : Int) : EnC 1 (F__law_of [.src, .lst [.int a, .int b, .int c, .int d]]) fun e => ∃ x, (x = a ∨ x = b ∨ x = c ∨ x = d) ∧ e = .int x :=
  (n_of (l := [a, b, c, d]) (fun z => nomatch z) (by show 4 ≤ 1000; decide)).wk fun e ⟨x, hx, h⟩ => ⟨x, by simpa using hx, h⟩
theorem n_shuffled {l0 : List Nat} (hn : l0.length ≤ 40) : EnC 40 (F__law_shuffled [.src, .lst ((nI l0).map D.int)]) fun d => ∃ l : List Nat, l.Perm l0 ∧ d = .lst ((nI l).map D.int) := by
  unfold F__law_shuffled g__law_shuffled
  simp (decide := true) (implicitDefEqProofs := false) only [bodyD, env0, sSeq, thenF, sIf, sRet, sRetN, sRetV, sSet, sSetN, sExpr, sNil, sAsg, sPar, resD, dV, dC, dOp, dUn, dNot, dAnd, dOr, dNotT, dAndT, dOrT, dB, dIf, dChain, dTup, dCons, dNil, dLst, dLstB, dCB, dCall, dCallK, dImm, dYes, a1, a2, bTup, bLst, bCons, bNil, bName, fSeq, seqOf, fRng1, fRng2, fEn, fZip, zip2, one1, ints1, ints2, asB, asI, negD, addD, subD, modD, ltD, gtD, geD, leD, isND, isnND, intOp, intOpC, lenD_lst, lenD_tup, lenD_frz, len_sD, tupleD, listD, absD, max2D, min2D, allD, isiD, tyN, isiT_tt, isiT_ii, isiT_ib, idxD, lsA, gw, gt, opt_some, opt_none, bd_pu, bd_fl, bd_bd, chk_true, chk_tt, D.imm, D.imms, D.isN, List.map_cons, List.map_nil, List.length_cons, List.length_nil, List.set_cons_zero, List.set_cons_succ, List.getElem?_cons_zero, List.getElem?_cons_succ, List.getElem?_nil, Option.bind_some, Option.bind_none, Option.join_some, Option.join_none, Option.map_some, Bool.and_true, Bool.true_and, Bool.and_false, Bool.false_and, Bool.not_true, Bool.not_false, Bool.false_eq_true, Bool.true_eq_false, if_true, if_false, ite_true, ite_false, List.cons_append, List.nil_append, List.append_nil, Nat.zero_add, Nat.reduceAdd, Nat.reduceSub, Nat.reduceLeDiff, Int.reduceNeg, List.replicate_succ, List.replicate_zero, true_and, and_true, List.length_map, and_pu, or_pu, tand_pu, tor_pu, idx_0, idx_1, if_tt, if_ff, dSl, dNo, dSo, slD, imm_cD, imm_wD, intsD, sAppIx, sExt, sApp, lsD, sFor, seq_sD, eq_str, ne_str, eq_int, ne_int, nc0, nc1, nc2, nc3, nc4, decide_true, decide_false, ne_eq, not_true_eq_false, Int.reduceEq, not_false_eq_true, Bool.or_false, Bool.or_true, Bool.false_or, Bool.true_or, List.all_cons, List.all_nil, id_eq, imms_int]
  refine EnC.bd (c1 := 1 * l0.length) (c2 := 0) (by omega) (EnC.sWh (c := 1) (fun m δ => ∃ pile found : List Nat, pile.length = m ∧ found.length ≤ 40 ∧ (found ++ pile).Perm l0 ∧ δ = [some .src, some (.lst ((nI l0).map D.int)), some (.lst ((nI pile).map D.int)), some (.lst ((nI found).map D.int))])
    (fun δ => ∃ found : List Nat, found.Perm l0 ∧ δ = [some .src, some (.lst ((nI l0).map D.int)), some (.lst []), some (.lst ((nI found).map D.int))]) (m := l0.length) ⟨l0, [], rfl, Nat.zero_le _, List.Perm.refl _, rfl⟩ ?_) ?_
  · rintro m δ ⟨pile, found, hm, hf, hp, rfl⟩
    refine ⟨!(nI pile).isEmpty, ?_, fun h => ?_, fun h => ?_⟩
    · simp (decide := true) (implicitDefEqProofs := false) only [bodyD, env0, sSeq, thenF, sIf, sRet, sRetN, sRetV, sSet, sSetN, sExpr, sNil, sAsg, sPar, resD, dV, dC, dOp, dUn, dNot, dAnd, dOr, dNotT, dAndT, dOrT, dB, dIf, dChain, dTup, dCons, dNil, dLst, dLstB, dCB, dCall, dCallK, dImm, dYes, a1, a2, bTup, bLst, bCons, bNil, bName, fSeq, seqOf, fRng1, fRng2, fEn, fZip, zip2, one1, ints1, ints2, asB, asI, negD, addD, subD, modD, ltD, gtD, geD, leD, isND, isnND, intOp, intOpC, lenD_lst, lenD_tup, lenD_frz, len_sD, tupleD, listD, absD, max2D, min2D, allD, isiD, tyN, isiT_tt, isiT_ii, isiT_ib, idxD, lsA, gw, gt, opt_some, opt_none, bd_pu, bd_fl, bd_bd, chk_true, chk_tt, D.imm, D.imms, D.isN, List.map_cons, List.map_nil, List.length_cons, List.length_nil, List.set_cons_zero, List.set_cons_succ, List.getElem?_cons_zero, List.getElem?_cons_succ, List.getElem?_nil, Option.bind_some, Option.bind_none, Option.join_some, Option.join_none, Option.map_some, Bool.and_true, Bool.true_and, Bool.and_false, Bool.false_and, Bool.not_true, Bool.not_false, Bool.false_eq_true, Bool.true_eq_false, if_true, if_false, ite_true, ite_false, List.cons_append, List.nil_append, List.append_nil, Nat.zero_add, Nat.reduceAdd, Nat.reduceSub, Nat.reduceLeDiff, Int.reduceNeg, List.replicate_succ, List.replicate_zero, true_and, and_true, List.length_map, and_pu, or_pu, tand_pu, tor_pu, idx_0, idx_1, if_tt, if_ff, dSl, dNo, dSo, slD, imm_cD, imm_wD, intsD, sAppIx, sExt, sApp, lsD, sFor, seq_sD, eq_str, ne_str, eq_int, ne_int, nc0, nc1, nc2, nc3, nc4, decide_true, decide_false, ne_eq, not_true_eq_false, Int.reduceEq, not_false_eq_true, Bool.or_false, Bool.or_true, Bool.false_or, Bool.true_or, List.all_cons, List.all_nil, id_eq, ne_nilI]
    · have e : pile = [] := by
        cases pile with
        | nil => rfl
        | cons a l => simp [nI] at h
      subst e
      rw [List.append_nil] at hp
      exact ⟨found, hp, rfl⟩
    · have hpos : 0 < pile.length := by
        cases pile with
        | nil => simp [nI] at h
        | cons a l => exact Nat.succ_pos _
      refine ⟨by omega, ?_⟩
      have lp : (nI pile).length = pile.length := by unfold nI; rw [List.length_map]
      have lf : (nI found).length = found.length := by unfold nI; rw [List.length_map]
      have lp40 : pile.length ≤ 40 := by
        have := hp.length_eq
        rw [List.length_append] at this
        omega
      simp (decide := true) (implicitDefEqProofs := false) only [bodyD, env0, sSeq, thenF, sIf, sRet, sRetN, sRetV, sSet, sSetN, sExpr, sNil, sAsg, sPar, resD, dV, dC, dOp, dUn, dNot, dAnd, dOr, dNotT, dAndT, dOrT, dB, dIf, dChain, dTup, dCons, dNil, dLst, dLstB, dCB, dCall, dCallK, dImm, dYes, a1, a2, bTup, bLst, bCons, bNil, bName, fSeq, seqOf, fRng1, fRng2, fEn, fZip, zip2, one1, ints1, ints2, asB, asI, negD, addD, subD, modD, ltD, gtD, geD, leD, isND, isnND, intOp, intOpC, lenD_lst, lenD_tup, lenD_frz, len_sD, tupleD, listD, absD, max2D, min2D, allD, isiD, tyN, isiT_tt, isiT_ii, isiT_ib, idxD, lsA, gw, gt, opt_some, opt_none, bd_pu, bd_fl, bd_bd, chk_true, chk_tt, D.imm, D.imms, D.isN, List.map_cons, List.map_nil, List.length_cons, List.length_nil, List.set_cons_zero, List.set_cons_succ, List.getElem?_cons_zero, List.getElem?_cons_succ, List.getElem?_nil, Option.bind_some, Option.bind_none, Option.join_some, Option.join_none, Option.map_some, Bool.and_true, Bool.true_and, Bool.and_false, Bool.false_and, Bool.not_true, Bool.not_false, Bool.false_eq_true, Bool.true_eq_false, if_true, if_false, ite_true, ite_false, List.cons_append, List.nil_append, List.append_nil, Nat.zero_add, Nat.reduceAdd, Nat.reduceSub, Nat.reduceLeDiff, Int.reduceNeg, List.replicate_succ, List.replicate_zero, true_and, and_true, List.length_map, and_pu, or_pu, tand_pu, tor_pu, idx_0, idx_1, if_tt, if_ff, dSl, dNo, dSo, slD, imm_cD, imm_wD, intsD, sAppIx, sExt, sApp, lsD, sFor, seq_sD, eq_str, ne_str, eq_int, ne_int, nc0, nc1, nc2, nc3, nc4, decide_true, decide_false, ne_eq, not_true_eq_false, Int.reduceEq, not_false_eq_true, Bool.or_false, Bool.or_true, Bool.false_or, Bool.true_or, List.all_cons, List.all_nil, id_eq, sAppPop, popAt, lp]
      refine EnC.bd (c1 := 1) (c2 := 0) (by decide) (n_next (t := (pile.length : Nat)) (by omega) (by omega)) ?_
      rintro _ ⟨r, rfl, r0, r1⟩
      obtain ⟨k, hk⟩ := Int.eq_ofNat_of_zero_le r0
      subst hk
      have hk' : k < pile.length := by omega
      have e1 : seqIndex? (k : Int) pile.length = some k := (L2.ixN_seq (ixN_nat hk')).1
      have e2 : ((nI pile).map D.int)[k]? = some (.int (pile[k] : Nat)) := by
        unfold nI
        rw [List.getElem?_map, List.getElem?_map, List.getElem?_eq_getElem hk']
        rfl
      have e3 : ((nI pile).map D.int).eraseIdx k = (nI (pile.eraseIdx k)).map D.int := by
        unfold nI
        rw [List.map_map, List.map_map, erase_map]
      have e4 : -(2 ^ 63) ≤ (k : Int) ∧ (k : Int) < 2 ^ 63 := by omega
      have e5 : found.length < sizeLine := small (by omega)
      simp (decide := true) (implicitDefEqProofs := false) only [bodyD, env0, sSeq, thenF, sIf, sRet, sRetN, sRetV, sSet, sSetN, sExpr, sNil, sAsg, sPar, resD, dV, dC, dOp, dUn, dNot, dAnd, dOr, dNotT, dAndT, dOrT, dB, dIf, dChain, dTup, dCons, dNil, dLst, dLstB, dCB, dCall, dCallK, dImm, dYes, a1, a2, bTup, bLst, bCons, bNil, bName, fSeq, seqOf, fRng1, fRng2, fEn, fZip, zip2, one1, ints1, ints2, asB, asI, negD, addD, subD, modD, ltD, gtD, geD, leD, isND, isnND, intOp, intOpC, lenD_lst, lenD_tup, lenD_frz, len_sD, tupleD, listD, absD, max2D, min2D, allD, isiD, tyN, isiT_tt, isiT_ii, isiT_ib, idxD, lsA, gw, gt, opt_some, opt_none, bd_pu, bd_fl, bd_bd, chk_true, chk_tt, D.imm, D.imms, D.isN, List.map_cons, List.map_nil, List.length_cons, List.length_nil, List.set_cons_zero, List.set_cons_succ, List.getElem?_cons_zero, List.getElem?_cons_succ, List.getElem?_nil, Option.bind_some, Option.bind_none, Option.join_some, Option.join_none, Option.map_some, Bool.and_true, Bool.true_and, Bool.and_false, Bool.false_and, Bool.not_true, Bool.not_false, Bool.false_eq_true, Bool.true_eq_false, if_true, if_false, ite_true, ite_false, List.cons_append, List.nil_append, List.append_nil, Nat.zero_add, Nat.reduceAdd, Nat.reduceSub, Nat.reduceLeDiff, Int.reduceNeg, List.replicate_succ, List.replicate_zero, true_and, and_true, List.length_map, and_pu, or_pu, tand_pu, tor_pu, idx_0, idx_1, if_tt, if_ff, dSl, dNo, dSo, slD, imm_cD, imm_wD, intsD, sAppIx, sExt, sApp, lsD, sFor, seq_sD, eq_str, ne_str, eq_int, ne_int, nc0, nc1, nc2, nc3, nc4, decide_true, decide_false, ne_eq, not_true_eq_false, Int.reduceEq, not_false_eq_true, Bool.or_false, Bool.or_true, Bool.false_or, Bool.true_or, List.all_cons, List.all_nil, id_eq, e1, e2, e3, chk_pos e4, imms_int, lf, e5]
      refine EnC.pu ⟨_, rfl, pile.eraseIdx k, found ++ [pile[k]], ?_, ?_, ?_, ?_⟩
      · rw [List.length_eraseIdx_of_lt hk', hm]
      · rw [List.length_append, List.length_singleton]
        have := hp.length_eq
        rw [List.length_append] at this
        omega
      · refine List.Perm.trans ?_ hp
        rw [List.append_assoc]
        exact List.Perm.append_left _ (erase_perm _ _ hk')
      · unfold nI
        rw [List.map_append, List.map_append]
        rfl
  · rintro _ ⟨_, rfl, found, hp, rfl⟩
    simp (decide := true) (implicitDefEqProofs := false) only [bodyD, env0, sSeq, thenF, sIf, sRet, sRetN, sRetV, sSet, sSetN, sExpr, sNil, sAsg, sPar, resD, dV, dC, dOp, dUn, dNot, dAnd, dOr, dNotT, dAndT, dOrT, dB, dIf, dChain, dTup, dCons, dNil, dLst, dLstB, dCB, dCall, dCallK, dImm, dYes, a1, a2, bTup, bLst, bCons, bNil, bName, fSeq, seqOf, fRng1, fRng2, fEn, fZip, zip2, one1, ints1, ints2, asB, asI, negD, addD, subD, modD, ltD, gtD, geD, leD, isND, isnND, intOp, intOpC, lenD_lst, lenD_tup, lenD_frz, len_sD, tupleD, listD, absD, max2D, min2D, allD, isiD, tyN, isiT_tt, isiT_ii, isiT_ib, idxD, lsA, gw, gt, opt_some, opt_none, bd_pu, bd_fl, bd_bd, chk_true, chk_tt, D.imm, D.imms, D.isN, List.map_cons, List.map_nil, List.length_cons, List.length_nil, List.set_cons_zero, List.set_cons_succ, List.getElem?_cons_zero, List.getElem?_cons_succ, List.getElem?_nil, Option.bind_some, Option.bind_none, Option.join_some, Option.join_none, Option.map_some, Bool.and_true, Bool.true_and, Bool.and_false, Bool.false_and, Bool.not_true, Bool.not_false, Bool.false_eq_true, Bool.true_eq_false, if_true, if_false, ite_true, ite_false, List.cons_append, List.nil_append, List.append_nil, Nat.zero_add, Nat.reduceAdd, Nat.reduceSub, Nat.reduceLeDiff, Int.reduceNeg, List.replicate_succ, List.replicate_zero, true_and, and_true, List.length_map, and_pu, or_pu, tand_pu, tor_pu, idx_0, idx_1, if_tt, if_ff, dSl, dNo, dSo, slD, imm_cD, imm_wD, intsD, sAppIx, sExt, sApp, lsD, sFor, seq_sD, eq_str, ne_str, eq_int, ne_int, nc0, nc1, nc2, nc3, nc4, decide_true, decide_false, ne_eq, not_true_eq_false, Int.reduceEq, not_false_eq_true, Bool.or_false, Bool.or_true, Bool.false_or, Bool.true_or, List.all_cons, List.all_nil, id_eq]
    exact EnC.pu ⟨found, hp, rfl⟩
/-! ### a forest that grows -/
structure For (ol : List Nat) (ss : List Int) (k : Nat) (cs : List Cp) : Prop where
  at_ : ∀ c ∈ cs, ∃ p q, p < k ∧ q < k ∧ c.i = ol.getD p 0 ∧ c.j = ol.getD q 0
  cut : ∀ c ∈ cs, ∃ s : Nat → Bool, s c.i ≠ s c.j ∧ ∀ d ∈ cs, (d.i, d.j) ≠ (c.i, c.j) → s d.i = s d.j
  dis : cs.Pairwise fun a b => (a.i, a.j) ≠ (b.i, b.j)
  ok : ∀ c ∈ cs, c.i < c.j ∧ c.j < ol.length ∧ -10000000000 ≤ c.lo ∧ c.lo < c.hi ∧ c.hi ≤ 10000000000 ∧ c.lo ≤ ss.getD c.j 0 - ss.getD c.i 0 ∧ ss.getD c.j 0 - ss.getD c.i 0 ≤ c.hi
  few : cs.length < k
theorem For.skip {ol : List Nat} {ss : List Int} {k : Nat} {cs : List Cp} (F : For ol ss k cs) : For ol ss (k + 1) cs :=
  ⟨fun c hc => let ⟨p, q, h1, h2, h⟩ := F.at_ c hc; ⟨p, q, by omega, by omega, h⟩, F.cut, F.dis, F.ok, by have := F.few; omega⟩
theorem getD_inj {ol : List Nat} (nd : ol.Nodup) {p q : Nat} (hp : p < ol.length) (hq : q < ol.length) (h : ol.getD p 0 = ol.getD q 0) : p = q := by
  rw [List.getD_eq_getElem?_getD, List.getD_eq_getElem?_getD, List.getElem?_eq_getElem hp, List.getElem?_eq_getElem hq] at h
  have h' : ol[p] = ol[q] := h
  rcases Nat.lt_trichotomy p q with l | l | l
  · exact absurd h' (List.pairwise_iff_getElem.mp nd p q hp hq l)
  · exact l
  · exact absurd h'.symm (List.pairwise_iff_getElem.mp nd q p hq hp l)
theorem For.add {ol : List Nat} {ss : List Int} {k : Nat} {cs : List Cp} (F : For ol ss k cs) (nd : ol.Nodup) (hk : k < ol.length) {c : Cp} {q : Nat} (hq : q < k) (hc : (c.i = ol.getD k 0 ∧ c.j = ol.getD q 0) ∨ (c.j = ol.getD k 0 ∧ c.i = ol.getD q 0))
    (ok : c.i < c.j ∧ c.j < ol.length ∧ -10000000000 ≤ c.lo ∧ c.lo < c.hi ∧ c.hi ≤ 10000000000 ∧ c.lo ≤ ss.getD c.j 0 - ss.getD c.i 0 ∧ ss.getD c.j 0 - ss.getD c.i 0 ≤ c.hi) : For ol ss (k + 1) (cs ++ [c]) := by
  have nk : ∀ p, p < k → ol.getD p 0 ≠ ol.getD k 0 := fun p hp h => by
    have := getD_inj nd (by omega) hk h
    omega
  have old : ∀ d ∈ cs, d.i ≠ ol.getD k 0 ∧ d.j ≠ ol.getD k 0 := fun d hd => by
    obtain ⟨p, r, h1, h2, h3, h4⟩ := F.at_ d hd
    exact ⟨h3 ▸ nk p h1, h4 ▸ nk r h2⟩
  have new : c.i = ol.getD k 0 ∨ c.j = ol.getD k 0 := hc.elim (fun h => .inl h.1) fun h => .inr h.1
  have neq : ∀ d ∈ cs, (d.i, d.j) ≠ (c.i, c.j) := fun d hd h => by
    obtain ⟨h1, h2⟩ := Prod.mk.inj h
    rcases new with e | e
    · exact (old d hd).1 (h1.trans e)
    · exact (old d hd).2 (h2.trans e)
  refine ⟨fun d hd => ?_, fun d hd => ?_, ?_, fun d hd => ?_, ?_⟩
  · rcases List.mem_append.mp hd with hd | hd
    · obtain ⟨p, r, h1, h2, h⟩ := F.at_ d hd
      exact ⟨p, r, by omega, by omega, h⟩
    · rw [List.mem_singleton.mp hd]
      rcases hc with ⟨h1, h2⟩ | ⟨h1, h2⟩
      · exact ⟨k, q, by omega, by omega, h1, h2⟩
      · exact ⟨q, k, by omega, by omega, h2, h1⟩
  · rcases List.mem_append.mp hd with hd | hd
    · obtain ⟨s, s1, s2⟩ := F.cut d hd
      obtain ⟨o1, o2⟩ := old d hd
      have sk : ∀ v, v ≠ ol.getD k 0 → (if v = ol.getD k 0 then s (ol.getD q 0) else s v) = s v := fun v hv => if_neg hv
      refine ⟨fun v => if v = ol.getD k 0 then s (ol.getD q 0) else s v, ?_, fun e he ne => ?_⟩
      · show (if d.i = _ then _ else _) ≠ (if d.j = _ then _ else _)
        rw [sk _ o1, sk _ o2]
        exact s1
      · show (if e.i = _ then _ else _) = (if e.j = _ then _ else _)
        rcases List.mem_append.mp he with he | he
        · obtain ⟨e1, e2⟩ := old e he
          rw [sk _ e1, sk _ e2]
          exact s2 e he ne
        · rw [List.mem_singleton.mp he]
          rcases hc with ⟨h1, h2⟩ | ⟨h1, h2⟩
          · rw [if_pos h1, h2, sk _ (nk q hq)]
          · rw [if_pos h1, h2, sk _ (nk q hq)]
    · rw [List.mem_singleton.mp hd]
      refine ⟨fun v => decide (v = ol.getD k 0), ?_, fun e he ne => ?_⟩
      · show decide (c.i = _) ≠ decide (c.j = _)
        rcases hc with ⟨h1, h2⟩ | ⟨h1, h2⟩
        · rw [decide_eq_true h1, decide_eq_false (by rw [h2]; exact nk q hq)]
          exact fun z => nomatch z
        · rw [decide_eq_true h1, decide_eq_false (by rw [h2]; exact nk q hq)]
          exact fun z => nomatch z
      · show decide (e.i = _) = decide (e.j = _)
        rcases List.mem_append.mp he with he | he
        · obtain ⟨e1, e2⟩ := old e he
          rw [decide_eq_false e1, decide_eq_false e2]
        · rw [List.mem_singleton.mp he] at ne
          exact absurd rfl ne
  · rw [List.pairwise_append]
    exact ⟨F.dis, List.pairwise_singleton _ _, fun a ha b hb => by rw [List.mem_singleton.mp hb]; exact neq a ha⟩
  · rcases List.mem_append.mp hd with hd | hd
    · exact F.ok d hd
    · rw [List.mem_singleton.mp hd]; exact ok
  · rw [List.length_append, List.length_singleton]
    have := F.few
    omega
/-! ### the couplings in order -/
def cI (c : Cp) : List Int := [c.i, c.j, c.lo, c.hi]
def unI : List Int → Cp
  | [a, b, c, d] => ⟨a.toNat, b.toNat, c, d⟩
  | _ => ⟨0, 0, 0, 0⟩
theorem unI_cI (c : Cp) : unI (cI c) = c := by
  unfold cI unI
  simp
theorem cD_cI (c : Cp) : cD c = .tup ((cI c).map D.int) := rfl
theorem lTups_cD : ∀ cs : List Cp, intsTs (cs.map cD) = some (cs.map cI)
  | [] => rfl
  | c :: cs => by
    have e : intsT (cD c) = some (cI c) := by
      rw [cD_cI]
      show intsD _ = _
      exact intsD_map _
    simp only [List.map_cons, intsTs, e, Option.bind_some, lTups_cD cs, Option.map_some]
theorem n_sortT (cs : List Cp) : EnC 0 (sortTD (.lst (cs.map cD))) fun d => ∃ cs' : List Cp, cs'.Perm cs ∧ (cs'.map cI).Pairwise leT ∧ d = .lst (cs'.map cD) := by
  intro Q X n0 hn0 q
  refine ⟨cs.map cI, lTups_cD cs, fun n hn => ?_, fun ms hp hs => ?_⟩
  · obtain ⟨c, _, rfl⟩ := List.mem_map.mp hn
    exact fun z => nomatch z
  have e : (ms.map unI).map cI = ms := by
    rw [List.map_map]
    refine (List.map_congr_left fun m hm => ?_).trans (List.map_id ms)
    obtain ⟨c, _, rfl⟩ := List.mem_map.mp (hp.mem_iff.mp hm)
    show cI (unI (cI c)) = _
    rw [unI_cI]
    rfl
  refine q _ n0 (by omega) ⟨ms.map unI, ?_, by rw [e]; exact hs, ?_⟩
  · have := hp.map unI
    rw [List.map_map] at this
    refine this.trans (List.Perm.of_eq ((List.map_congr_left fun c _ => unI_cI c).trans (List.map_id cs)))
  · have e2 : (ms.map unI).map cD = ((ms.map unI).map cI).map fun m => D.tup (m.map D.int) := by
      exact (List.map_map (l := ms.map unI) (f := cI) (g := fun m : List Int => D.tup (m.map D.int))).symm
    rw [e2, e]
theorem For.yard {ol : List Nat} {ss : List Int} {k : Nat} {cs cs' : List Cp} {ws : List (Int × Int)} (F : For ol ss k cs) (hp : cs'.Perm cs) (hs : (cs'.map cI).Pairwise leT) (n1 : 1 ≤ ws.length) (n40 : ws.length ≤ 40) (hl : ol.length = ws.length) (hk : k ≤ ws.length)
    (hss : ss.length = ws.length) (wok : ∀ v w, ws[v]? = some w → -1000000000 ≤ w.1 ∧ w.1 ≤ ss.getD v 0 ∧ ss.getD v 0 ≤ w.2 ∧ w.2 ≤ 1000000000) : VY ws cs' ∧ VS ws cs' ss := by
  have srt : cs'.Pairwise fun a b => a.i < b.i ∨ (a.i = b.i ∧ a.j < b.j) := by
    have h1 : cs'.Pairwise fun a b => leT (cI a) (cI b) := (List.pairwise_map.mp hs)
    have h2 : cs'.Pairwise fun a b => (a.i, a.j) ≠ (b.i, b.j) := (hp.pairwise_iff (fun {a b} h => h.symm)).mpr F.dis
    refine (h1.and h2).imp fun {a b} ⟨h, ne⟩ => ?_
    have h' : (a.i : Int) < b.i ∨ ((a.i : Int) = b.i ∧ ((a.j : Int) < b.j ∨ ((a.j : Int) = b.j ∧ _))) := h
    rcases h' with h | ⟨h1, h | ⟨h2, _⟩⟩
    · exact .inl (by omega)
    · exact .inr ⟨by omega, by omega⟩
    · exact absurd (by rw [show a.i = b.i by omega, show a.j = b.j by omega]) ne
  refine ⟨⟨n1, n40, fun w hw => ?_, fun c hc => ?_, srt, fun i c hc => ?_, by have := hp.length_eq; have := F.few; omega⟩, ⟨hss, fun v w hv => ?_, fun c hc => ?_⟩⟩
  · obtain ⟨v, hv⟩ := List.mem_iff_getElem?.mp hw
    have := wok v w hv
    omega
  · have := F.ok c (hp.mem_iff.mp hc)
    omega
  · obtain ⟨s, s1, s2⟩ := F.cut c (hp.mem_iff.mp (List.mem_of_getElem? hc))
    refine ⟨s, s1, fun l d hd hl => s2 d (hp.mem_iff.mp (List.mem_of_getElem? hd)) fun e => ?_⟩
    obtain ⟨e1, e2⟩ := Prod.mk.inj e
    obtain ⟨hl', rfl⟩ := List.getElem?_eq_some_iff.mp hd
    obtain ⟨hi', rfl⟩ := List.getElem?_eq_some_iff.mp hc
    rcases Nat.lt_or_gt_of_ne hl with h | h
    · have := List.pairwise_iff_getElem.mp srt l i hl' hi' h
      omega
    · have := List.pairwise_iff_getElem.mp srt i l hi' hl' h
      omega
  · have := wok v w hv
    omega
  · have := F.ok c (hp.mem_iff.mp hc)
    omega
theorem n_sort2 (a b : Int) : EnC 0 (sortID (.lst [.int a, .int b])) fun d => (a ≤ b ∧ d = .lst [.int a, .int b]) ∨ (b ≤ a ∧ d = .lst [.int b, .int a]) := by
  intro Q X n0 hn0 q
  refine ⟨[a, b], rfl, fun ms hp hs => ?_⟩
  have hl := hp.length_eq
  match ms, hl with
  | [x, y], _ =>
    have hxy : x ≤ y := (List.pairwise_cons.mp hs).1 y (by simp)
    have hx : x = a ∨ x = b := by simpa using hp.mem_iff.mp (show x ∈ [x, y] by simp)
    rcases hx with rfl | rfl
    · have : y = b := by simpa using (List.Perm.cons_inv hp).mem_iff.mp (show y ∈ [y] by simp)
      subst this
      exact q _ n0 (by omega) (.inl ⟨hxy, rfl⟩)
    · have : y = a := by simpa using (List.Perm.cons_inv (hp.trans (List.Perm.swap _ _ _))).mem_iff.mp (show y ∈ [y] by simp)
      subst this
      exact q _ n0 (by omega) (.inr ⟨hxy, rfl⟩)
theorem all_ints {P : Int → Prop} : ∀ {es : List D}, (∀ e ∈ es, ∃ v, e = .int v ∧ P v) → ∃ ss : List Int, es = ss.map D.int ∧ ∀ v ∈ ss, P v
  | [], _ => ⟨[], rfl, fun _ z => nomatch z⟩
  | e :: es, h => by
    obtain ⟨v, rfl, hv⟩ := h e List.mem_cons_self
    obtain ⟨ss, rfl, hs⟩ := all_ints (es := es) fun e he => h e (List.mem_cons_of_mem _ he)
    exact ⟨v :: ss, rfl, fun u hu => by
      rcases List.mem_cons.mp hu with z | z
      · rw [z]; exact hv
      · exact hs u z⟩
theorem rngL_at {n i : Nat} {d : D} (h : (rngD 1 ((n : Int) - 1).toNat)[i]? = some d) : i < n - 1 ∧ d = .int (1 + (i : Nat)) := by
  unfold rngD at h
  rw [List.getElem?_map] at h
  have e : ((n : Int) - 1).toNat = n - 1 := by omega
  rw [e] at h
  by_cases hi : i < n - 1
  · rw [List.getElem?_range hi] at h
    exact ⟨hi, (Option.some.inj h).symm⟩
  · rw [List.getElem?_eq_none (by simpa using hi)] at h
    cases h
theorem rngL_len {n : Nat} : (rngD 1 ((n : Int) - 1).toNat).length = n - 1 := by
  unfold rngD
  rw [List.length_map, List.length_range]
  omega
end DB
namespace DB
open PySem L2 DL CY
theorem mul_small {i j : Int} (h1 : i.natAbs < 2 ^ 64) (h2 : j.natAbs < 2 ^ 64) : mulD (.int i) (.int j) = pu (.int (i * j)) := by
  show chk (CMulW i j) (pu (D.int (i * j))) = _
  have l1 := PySem.Flt.log2_lt_of (by decide) h1
  have l2 := PySem.Flt.log2_lt_of (by decide) h2
  rw [chk_pos (show CMulW i j from by unfold CMulW; omega)]
theorem pow108 : powD (.int 10) (.int 8) = pu (.int 100000000) := by
  show chk (CPow 10 8) (pu (D.int (10 ^ (8 : Int).toNat))) = _
  rw [chk_pos ⟨by decide, by decide, by decide⟩]
  rfl
theorem n_lot {most : Nat} (hm : 1 ≤ most ∧ most ≤ 40) : EnC 1000 (F__law_lot [.src, .int most]) fun d => ∃ ws cs ss, d = .tup [yD ws cs, sD ss] ∧ VY ws cs ∧ VS ws cs ss := by
  unfold F__law_lot g__law_lot
  have m48 : mulD (.int 4) (.int 100000000) = pu (.int 400000000) := mul_small (by decide) (by decide)
  simp (decide := true) (implicitDefEqProofs := false) only [bodyD, env0, sSeq, thenF, sIf, sRet, sRetN, sRetV, sSet, sSetN, sExpr, sNil, sAsg, sPar, resD, dV, dC, dOp, dUn, dNot, dAnd, dOr, dNotT, dAndT, dOrT, dB, dIf, dChain, dTup, dCons, dNil, dLst, dLstB, dCB, dCall, dCallK, dImm, dYes, a1, a2, bTup, bLst, bCons, bNil, bName, fSeq, seqOf, fRng1, fRng2, fEn, fZip, zip2, one1, ints1, ints2, asB, asI, negD, addD, subD, modD, ltD, gtD, geD, leD, isND, isnND, intOp, intOpC, lenD_lst, lenD_tup, lenD_frz, len_sD, tupleD, listD, absD, max2D, min2D, allD, isiD, tyN, isiT_tt, isiT_ii, isiT_ib, idxD, lsA, gw, gt, opt_some, opt_none, bd_pu, bd_fl, bd_bd, chk_true, chk_tt, D.imm, D.imms, D.isN, List.map_cons, List.map_nil, List.length_cons, List.length_nil, List.set_cons_zero, List.set_cons_succ, List.getElem?_cons_zero, List.getElem?_cons_succ, List.getElem?_nil, Option.bind_some, Option.bind_none, Option.join_some, Option.join_none, Option.map_some, Bool.and_true, Bool.true_and, Bool.and_false, Bool.false_and, Bool.not_true, Bool.not_false, Bool.false_eq_true, Bool.true_eq_false, if_true, if_false, ite_true, ite_false, List.cons_append, List.nil_append, List.append_nil, Nat.zero_add, Nat.reduceAdd, Nat.reduceSub, Nat.reduceLeDiff, Int.reduceNeg, List.replicate_succ, List.replicate_zero, true_and, and_true, List.length_map, and_pu, or_pu, tand_pu, tor_pu, idx_0, idx_1, if_tt, if_ff, dSl, dNo, dSo, slD, imm_cD, imm_wD, intsD, sAppIx, sExt, sApp, lsD, sFor, seq_sD, eq_str, ne_str, eq_int, ne_int, nc0, nc1, nc2, nc3, nc4, decide_true, decide_false, ne_eq, not_true_eq_false, Int.reduceEq, not_false_eq_true, Bool.or_false, Bool.or_true, Bool.false_or, Bool.true_or, List.all_cons, List.all_nil, id_eq, pow108, m48]
  refine EnC.bd (c1 := 1) (c2 := 900) (by decide) (n_next (t := (most : Nat)) (by omega) (by omega)) ?_
  rintro _ ⟨r1, rfl, r10, r11⟩
  obtain ⟨n, hn⟩ : ∃ n : Nat, 1 + r1 = n := ⟨(1 + r1).toNat, by omega⟩
  simp (decide := true) (implicitDefEqProofs := false) only [bodyD, env0, sSeq, thenF, sIf, sRet, sRetN, sRetV, sSet, sSetN, sExpr, sNil, sAsg, sPar, resD, dV, dC, dOp, dUn, dNot, dAnd, dOr, dNotT, dAndT, dOrT, dB, dIf, dChain, dTup, dCons, dNil, dLst, dLstB, dCB, dCall, dCallK, dImm, dYes, a1, a2, bTup, bLst, bCons, bNil, bName, fSeq, seqOf, fRng1, fRng2, fEn, fZip, zip2, one1, ints1, ints2, asB, asI, negD, addD, subD, modD, ltD, gtD, geD, leD, isND, isnND, intOp, intOpC, lenD_lst, lenD_tup, lenD_frz, len_sD, tupleD, listD, absD, max2D, min2D, allD, isiD, tyN, isiT_tt, isiT_ii, isiT_ib, idxD, lsA, gw, gt, opt_some, opt_none, bd_pu, bd_fl, bd_bd, chk_true, chk_tt, D.imm, D.imms, D.isN, List.map_cons, List.map_nil, List.length_cons, List.length_nil, List.set_cons_zero, List.set_cons_succ, List.getElem?_cons_zero, List.getElem?_cons_succ, List.getElem?_nil, Option.bind_some, Option.bind_none, Option.join_some, Option.join_none, Option.map_some, Bool.and_true, Bool.true_and, Bool.and_false, Bool.false_and, Bool.not_true, Bool.not_false, Bool.false_eq_true, Bool.true_eq_false, if_true, if_false, ite_true, ite_false, List.cons_append, List.nil_append, List.append_nil, Nat.zero_add, Nat.reduceAdd, Nat.reduceSub, Nat.reduceLeDiff, Int.reduceNeg, List.replicate_succ, List.replicate_zero, true_and, and_true, List.length_map, and_pu, or_pu, tand_pu, tor_pu, idx_0, idx_1, if_tt, if_ff, dSl, dNo, dSo, slD, imm_cD, imm_wD, intsD, sAppIx, sExt, sApp, lsD, sFor, seq_sD, eq_str, ne_str, eq_int, ne_int, nc0, nc1, nc2, nc3, nc4, decide_true, decide_false, ne_eq, not_true_eq_false, Int.reduceEq, not_false_eq_true, Bool.or_false, Bool.or_true, Bool.false_or, Bool.true_or, List.all_cons, List.all_nil, id_eq, hn]
  refine EnC.bd (c1 := 1) (c2 := 850) (by decide) (n_next (t := 4) (by decide) (by decide)) ?_
  rintro _ ⟨r2, rfl, r20, r21⟩
  obtain ⟨far, hf, ef⟩ : ∃ far : Int, (far = 4 ∨ far = 12 ∨ far = 300 ∨ far = 400000000) ∧ idxL [.int 4, .int 12, .int 300, .int 400000000] r2 = pu (.int far) := by
    obtain ⟨d, hd, e⟩ := idx_at (l := [.int 4, .int 12, .int 300, .int 400000000]) (r := r2) r20 (by show r2 < 4; exact r21)
    simp only [List.mem_cons, List.not_mem_nil, or_false] at hd
    rcases hd with rfl | rfl | rfl | rfl
    · exact ⟨_, .inl rfl, e⟩
    · exact ⟨_, .inr (.inl rfl), e⟩
    · exact ⟨_, .inr (.inr (.inl rfl)), e⟩
    · exact ⟨_, .inr (.inr (.inr rfl)), e⟩
  have hfar : 4 ≤ far ∧ far ≤ 400000000 := by omega
  have m2 : mulD (.int 2) (.int far) = pu (.int (2 * far)) := mul_small (by decide) (by omega)
  have hnr : -(2 ^ 62) ≤ (n : Int) ∧ (n : Int) < 2 ^ 62 := by omega
  simp (decide := true) (implicitDefEqProofs := false) only [bodyD, env0, sSeq, thenF, sIf, sRet, sRetN, sRetV, sSet, sSetN, sExpr, sNil, sAsg, sPar, resD, dV, dC, dOp, dUn, dNot, dAnd, dOr, dNotT, dAndT, dOrT, dB, dIf, dChain, dTup, dCons, dNil, dLst, dLstB, dCB, dCall, dCallK, dImm, dYes, a1, a2, bTup, bLst, bCons, bNil, bName, fSeq, seqOf, fRng1, fRng2, fEn, fZip, zip2, one1, ints1, ints2, asB, asI, negD, addD, subD, modD, ltD, gtD, geD, leD, isND, isnND, intOp, intOpC, lenD_lst, lenD_tup, lenD_frz, len_sD, tupleD, listD, absD, max2D, min2D, allD, isiD, tyN, isiT_tt, isiT_ii, isiT_ib, idxD, lsA, gw, gt, opt_some, opt_none, bd_pu, bd_fl, bd_bd, chk_true, chk_tt, D.imm, D.imms, D.isN, List.map_cons, List.map_nil, List.length_cons, List.length_nil, List.set_cons_zero, List.set_cons_succ, List.getElem?_cons_zero, List.getElem?_cons_succ, List.getElem?_nil, Option.bind_some, Option.bind_none, Option.join_some, Option.join_none, Option.map_some, Bool.and_true, Bool.true_and, Bool.and_false, Bool.false_and, Bool.not_true, Bool.not_false, Bool.false_eq_true, Bool.true_eq_false, if_true, if_false, ite_true, ite_false, List.cons_append, List.nil_append, List.append_nil, Nat.zero_add, Nat.reduceAdd, Nat.reduceSub, Nat.reduceLeDiff, Int.reduceNeg, List.replicate_succ, List.replicate_zero, true_and, and_true, List.length_map, and_pu, or_pu, tand_pu, tor_pu, idx_0, idx_1, if_tt, if_ff, dSl, dNo, dSo, slD, imm_cD, imm_wD, intsD, sAppIx, sExt, sApp, lsD, sFor, seq_sD, eq_str, ne_str, eq_int, ne_int, nc0, nc1, nc2, nc3, nc4, decide_true, decide_false, ne_eq, not_true_eq_false, Int.reduceEq, not_false_eq_true, Bool.or_false, Bool.or_true, Bool.false_or, Bool.true_or, List.all_cons, List.all_nil, id_eq, ef, chk_pos hnr, dLc, wipeE, Int.toNat_natCast]
  refine EnC.bd (c1 := 1 * (rngD 0 n).length) (c2 := 800) (by rw [rngD_len]; omega) (EnC.lc (c := 1) (fun e => ∃ v, e = .int v ∧ -far ≤ v ∧ v ≤ far) (rngD 0 n) [] (by rw [rngD_len]; exact small (by show 0 + n ≤ 1000; omega)) (fun _ z => nomatch z) fun d hd => ?_) ?_
  · obtain ⟨i, hi⟩ := List.mem_iff_getElem?.mp hd
    obtain ⟨_, rfl⟩ := rngD_at hi
    refine ⟨_, by simp (decide := true) (implicitDefEqProofs := false) only [bodyD, env0, sSeq, thenF, sIf, sRet, sRetN, sRetV, sSet, sSetN, sExpr, sNil, sAsg, sPar, resD, dV, dC, dOp, dUn, dNot, dAnd, dOr, dNotT, dAndT, dOrT, dB, dIf, dChain, dTup, dCons, dNil, dLst, dLstB, dCB, dCall, dCallK, dImm, dYes, a1, a2, bTup, bLst, bCons, bNil, bName, fSeq, seqOf, fRng1, fRng2, fEn, fZip, zip2, one1, ints1, ints2, asB, asI, negD, addD, subD, modD, ltD, gtD, geD, leD, isND, isnND, intOp, intOpC, lenD_lst, lenD_tup, lenD_frz, len_sD, tupleD, listD, absD, max2D, min2D, allD, isiD, tyN, isiT_tt, isiT_ii, isiT_ib, idxD, lsA, gw, gt, opt_some, opt_none, bd_pu, bd_fl, bd_bd, chk_true, chk_tt, D.imm, D.imms, D.isN, List.map_cons, List.map_nil, List.length_cons, List.length_nil, List.set_cons_zero, List.set_cons_succ, List.getElem?_cons_zero, List.getElem?_cons_succ, List.getElem?_nil, Option.bind_some, Option.bind_none, Option.join_some, Option.join_none, Option.map_some, Bool.and_true, Bool.true_and, Bool.and_false, Bool.false_and, Bool.not_true, Bool.not_false, Bool.false_eq_true, Bool.true_eq_false, if_true, if_false, ite_true, ite_false, List.cons_append, List.nil_append, List.append_nil, Nat.zero_add, Nat.reduceAdd, Nat.reduceSub, Nat.reduceLeDiff, Int.reduceNeg, List.replicate_succ, List.replicate_zero, true_and, and_true, List.length_map, and_pu, or_pu, tand_pu, tor_pu, idx_0, idx_1, if_tt, if_ff, dSl, dNo, dSo, slD, imm_cD, imm_wD, intsD, sAppIx, sExt, sApp, lsD, sFor, seq_sD, eq_str, ne_str, eq_int, ne_int, nc0, nc1, nc2, nc3, nc4, decide_true, decide_false, ne_eq, not_true_eq_false, Int.reduceEq, not_false_eq_true, Bool.or_false, Bool.or_true, Bool.false_or, Bool.true_or, List.all_cons, List.all_nil, id_eq]; rfl, ?_⟩
    simp (decide := true) (implicitDefEqProofs := false) only [bodyD, env0, sSeq, thenF, sIf, sRet, sRetN, sRetV, sSet, sSetN, sExpr, sNil, sAsg, sPar, resD, dV, dC, dOp, dUn, dNot, dAnd, dOr, dNotT, dAndT, dOrT, dB, dIf, dChain, dTup, dCons, dNil, dLst, dLstB, dCB, dCall, dCallK, dImm, dYes, a1, a2, bTup, bLst, bCons, bNil, bName, fSeq, seqOf, fRng1, fRng2, fEn, fZip, zip2, one1, ints1, ints2, asB, asI, negD, addD, subD, modD, ltD, gtD, geD, leD, isND, isnND, intOp, intOpC, lenD_lst, lenD_tup, lenD_frz, len_sD, tupleD, listD, absD, max2D, min2D, allD, isiD, tyN, isiT_tt, isiT_ii, isiT_ib, idxD, lsA, gw, gt, opt_some, opt_none, bd_pu, bd_fl, bd_bd, chk_true, chk_tt, D.imm, D.imms, D.isN, List.map_cons, List.map_nil, List.length_cons, List.length_nil, List.set_cons_zero, List.set_cons_succ, List.getElem?_cons_zero, List.getElem?_cons_succ, List.getElem?_nil, Option.bind_some, Option.bind_none, Option.join_some, Option.join_none, Option.map_some, Bool.and_true, Bool.true_and, Bool.and_false, Bool.false_and, Bool.not_true, Bool.not_false, Bool.false_eq_true, Bool.true_eq_false, if_true, if_false, ite_true, ite_false, List.cons_append, List.nil_append, List.append_nil, Nat.zero_add, Nat.reduceAdd, Nat.reduceSub, Nat.reduceLeDiff, Int.reduceNeg, List.replicate_succ, List.replicate_zero, true_and, and_true, List.length_map, and_pu, or_pu, tand_pu, tor_pu, idx_0, idx_1, if_tt, if_ff, dSl, dNo, dSo, slD, imm_cD, imm_wD, intsD, sAppIx, sExt, sApp, lsD, sFor, seq_sD, eq_str, ne_str, eq_int, ne_int, nc0, nc1, nc2, nc3, nc4, decide_true, decide_false, ne_eq, not_true_eq_false, Int.reduceEq, not_false_eq_true, Bool.or_false, Bool.or_true, Bool.false_or, Bool.true_or, List.all_cons, List.all_nil, id_eq, m2]
    refine EnC.bd (c1 := 1) (c2 := 0) (by decide) (n_next (t := 2 * far + 1) (by omega) (by omega)) ?_
    rintro _ ⟨r, rfl, r0, r1⟩
    simp (decide := true) (implicitDefEqProofs := false) only [bodyD, env0, sSeq, thenF, sIf, sRet, sRetN, sRetV, sSet, sSetN, sExpr, sNil, sAsg, sPar, resD, dV, dC, dOp, dUn, dNot, dAnd, dOr, dNotT, dAndT, dOrT, dB, dIf, dChain, dTup, dCons, dNil, dLst, dLstB, dCB, dCall, dCallK, dImm, dYes, a1, a2, bTup, bLst, bCons, bNil, bName, fSeq, seqOf, fRng1, fRng2, fEn, fZip, zip2, one1, ints1, ints2, asB, asI, negD, addD, subD, modD, ltD, gtD, geD, leD, isND, isnND, intOp, intOpC, lenD_lst, lenD_tup, lenD_frz, len_sD, tupleD, listD, absD, max2D, min2D, allD, isiD, tyN, isiT_tt, isiT_ii, isiT_ib, idxD, lsA, gw, gt, opt_some, opt_none, bd_pu, bd_fl, bd_bd, chk_true, chk_tt, D.imm, D.imms, D.isN, List.map_cons, List.map_nil, List.length_cons, List.length_nil, List.set_cons_zero, List.set_cons_succ, List.getElem?_cons_zero, List.getElem?_cons_succ, List.getElem?_nil, Option.bind_some, Option.bind_none, Option.join_some, Option.join_none, Option.map_some, Bool.and_true, Bool.true_and, Bool.and_false, Bool.false_and, Bool.not_true, Bool.not_false, Bool.false_eq_true, Bool.true_eq_false, if_true, if_false, ite_true, ite_false, List.cons_append, List.nil_append, List.append_nil, Nat.zero_add, Nat.reduceAdd, Nat.reduceSub, Nat.reduceLeDiff, Int.reduceNeg, List.replicate_succ, List.replicate_zero, true_and, and_true, List.length_map, and_pu, or_pu, tand_pu, tor_pu, idx_0, idx_1, if_tt, if_ff, dSl, dNo, dSo, slD, imm_cD, imm_wD, intsD, sAppIx, sExt, sApp, lsD, sFor, seq_sD, eq_str, ne_str, eq_int, ne_int, nc0, nc1, nc2, nc3, nc4, decide_true, decide_false, ne_eq, not_true_eq_false, Int.reduceEq, not_false_eq_true, Bool.or_false, Bool.or_true, Bool.false_or, Bool.true_or, List.all_cons, List.all_nil, id_eq]
    exact EnC.pu ⟨⟨_, rfl, by omega, by omega⟩, rfl⟩
  · rintro es ⟨hl, hes⟩
    rw [rngD_len, List.length_nil, Nat.zero_add] at hl
    obtain ⟨ss, rfl, hss⟩ := all_ints hes
    rw [List.length_map] at hl
    have h0 : ((n : Nat) : Int) ≤ 16777216 ∧ (0 : Int) ≤ (n : Nat) := by omega
    simp (decide := true) (implicitDefEqProofs := false) only [bodyD, env0, sSeq, thenF, sIf, sRet, sRetN, sRetV, sSet, sSetN, sExpr, sNil, sAsg, sPar, resD, dV, dC, dOp, dUn, dNot, dAnd, dOr, dNotT, dAndT, dOrT, dB, dIf, dChain, dTup, dCons, dNil, dLst, dLstB, dCB, dCall, dCallK, dImm, dYes, a1, a2, bTup, bLst, bCons, bNil, bName, fSeq, seqOf, fRng1, fRng2, fEn, fZip, zip2, one1, ints1, ints2, asB, asI, negD, addD, subD, modD, ltD, gtD, geD, leD, isND, isnND, intOp, intOpC, lenD_lst, lenD_tup, lenD_frz, len_sD, tupleD, listD, absD, max2D, min2D, allD, isiD, tyN, isiT_tt, isiT_ii, isiT_ib, idxD, lsA, gw, gt, opt_some, opt_none, bd_pu, bd_fl, bd_bd, chk_true, chk_tt, D.imm, D.imms, D.isN, List.map_cons, List.map_nil, List.length_cons, List.length_nil, List.set_cons_zero, List.set_cons_succ, List.getElem?_cons_zero, List.getElem?_cons_succ, List.getElem?_nil, Option.bind_some, Option.bind_none, Option.join_some, Option.join_none, Option.map_some, Bool.and_true, Bool.true_and, Bool.and_false, Bool.false_and, Bool.not_true, Bool.not_false, Bool.false_eq_true, Bool.true_eq_false, if_true, if_false, ite_true, ite_false, List.cons_append, List.nil_append, List.append_nil, Nat.zero_add, Nat.reduceAdd, Nat.reduceSub, Nat.reduceLeDiff, Int.reduceNeg, List.replicate_succ, List.replicate_zero, true_and, and_true, List.length_map, and_pu, or_pu, tand_pu, tor_pu, idx_0, idx_1, if_tt, if_ff, dSl, dNo, dSo, slD, imm_cD, imm_wD, intsD, sAppIx, sExt, sApp, lsD, sFor, seq_sD, eq_str, ne_str, eq_int, ne_int, nc0, nc1, nc2, nc3, nc4, decide_true, decide_false, ne_eq, not_true_eq_false, Int.reduceEq, not_false_eq_true, Bool.or_false, Bool.or_true, Bool.false_or, Bool.true_or, List.all_cons, List.all_nil, id_eq, listRng, chk_pos h0, Int.toNat_natCast, rngD_nI]
    refine EnC.bd (c1 := 40) (c2 := 500) (by decide) (n_shuffled (l0 := List.range n) (by rw [List.length_range]; omega)) ?_
    rintro _ ⟨ol, hp, rfl⟩
    have hol : ol.length = n := by rw [hp.length_eq, List.length_range]
    have nd : ol.Nodup := hp.nodup_iff.mpr List.nodup_range
    have olt : ∀ p, p < n → ol.getD p 0 < n := fun p hp' => by
      have h1 : ol.getD p 0 ∈ ol := by
        rw [List.getD_eq_getElem?_getD, List.getElem?_eq_getElem (by omega)]
        exact List.getElem_mem _
      exact List.mem_range.mp (hp.mem_iff.mp h1)
    have nIl : (nI ol).length = n := by unfold nI; rw [List.length_map, hol]
    have nId : ∀ p, p < n → idxL ((nI ol).map D.int) (p : Int) = pu (.int (ol.getD p 0 : Nat)) := fun p hp' => by
      rw [idx_int (by omega)]
      unfold nI
      rw [List.getD_eq_getElem?_getD, List.getElem?_map, List.getD_eq_getElem?_getD, List.getElem?_eq_getElem (by omega)]
      rfl
    refine EnC.bdFor (c1 := 4) (c2 := 200) 40 (fun i δ => ∃ (cs : List Cp) (x y z u v : Option D), For ol ss (i + 1) cs ∧
        δ = [some .src, some (.int most), some (.int n), some (.int far), some (.lst (ss.map D.int)), some (.lst ((nI ol).map D.int)), some (.lst (cs.map cD)), x, y, z, u, v, none, none]) (by rw [rngL_len]; omega) (by decide)
        ⟨[], _, _, _, _, _, ⟨(fun _ z => nomatch z), (fun _ z => nomatch z), List.Pairwise.nil, (fun _ z => nomatch z), by show 0 < 0 + 1; omega⟩, rfl⟩ ?_ ?_
    · rintro i d δ hd ⟨cs, x, y, z, u, v, F, rfl⟩
      obtain ⟨hi, rfl⟩ := rngL_at hd
      have hk : i + 1 < n := by omega
      rw [show (1 : Int) + (i : Int) = ((i + 1 : Nat) : Int) by omega]
      simp (decide := true) (implicitDefEqProofs := false) only [bodyD, env0, sSeq, thenF, sIf, sRet, sRetN, sRetV, sSet, sSetN, sExpr, sNil, sAsg, sPar, resD, dV, dC, dOp, dUn, dNot, dAnd, dOr, dNotT, dAndT, dOrT, dB, dIf, dChain, dTup, dCons, dNil, dLst, dLstB, dCB, dCall, dCallK, dImm, dYes, a1, a2, bTup, bLst, bCons, bNil, bName, fSeq, seqOf, fRng1, fRng2, fEn, fZip, zip2, one1, ints1, ints2, asB, asI, negD, addD, subD, modD, ltD, gtD, geD, leD, isND, isnND, intOp, intOpC, lenD_lst, lenD_tup, lenD_frz, len_sD, tupleD, listD, absD, max2D, min2D, allD, isiD, tyN, isiT_tt, isiT_ii, isiT_ib, idxD, lsA, gw, gt, opt_some, opt_none, bd_pu, bd_fl, bd_bd, chk_true, chk_tt, D.imm, D.imms, D.isN, List.map_cons, List.map_nil, List.length_cons, List.length_nil, List.set_cons_zero, List.set_cons_succ, List.getElem?_cons_zero, List.getElem?_cons_succ, List.getElem?_nil, Option.bind_some, Option.bind_none, Option.join_some, Option.join_none, Option.map_some, Bool.and_true, Bool.true_and, Bool.and_false, Bool.false_and, Bool.not_true, Bool.not_false, Bool.false_eq_true, Bool.true_eq_false, if_true, if_false, ite_true, ite_false, List.cons_append, List.nil_append, List.append_nil, Nat.zero_add, Nat.reduceAdd, Nat.reduceSub, Nat.reduceLeDiff, Int.reduceNeg, List.replicate_succ, List.replicate_zero, true_and, and_true, List.length_map, and_pu, or_pu, tand_pu, tor_pu, idx_0, idx_1, if_tt, if_ff, dSl, dNo, dSo, slD, imm_cD, imm_wD, intsD, sAppIx, sExt, sApp, lsD, sFor, seq_sD, eq_str, ne_str, eq_int, ne_int, nc0, nc1, nc2, nc3, nc4, decide_true, decide_false, ne_eq, not_true_eq_false, Int.reduceEq, not_false_eq_true, Bool.or_false, Bool.or_true, Bool.false_or, Bool.true_or, List.all_cons, List.all_nil, id_eq]
      refine EnC.bd (c1 := 1) (c2 := 3) (by decide) (n_next (t := 5) (by decide) (by decide)) ?_
      rintro _ ⟨r, rfl, r0, r1⟩
      simp (decide := true) (implicitDefEqProofs := false) only [bodyD, env0, sSeq, thenF, sIf, sRet, sRetN, sRetV, sSet, sSetN, sExpr, sNil, sAsg, sPar, resD, dV, dC, dOp, dUn, dNot, dAnd, dOr, dNotT, dAndT, dOrT, dB, dIf, dChain, dTup, dCons, dNil, dLst, dLstB, dCB, dCall, dCallK, dImm, dYes, a1, a2, bTup, bLst, bCons, bNil, bName, fSeq, seqOf, fRng1, fRng2, fEn, fZip, zip2, one1, ints1, ints2, asB, asI, negD, addD, subD, modD, ltD, gtD, geD, leD, isND, isnND, intOp, intOpC, lenD_lst, lenD_tup, lenD_frz, len_sD, tupleD, listD, absD, max2D, min2D, allD, isiD, tyN, isiT_tt, isiT_ii, isiT_ib, idxD, lsA, gw, gt, opt_some, opt_none, bd_pu, bd_fl, bd_bd, chk_true, chk_tt, D.imm, D.imms, D.isN, List.map_cons, List.map_nil, List.length_cons, List.length_nil, List.set_cons_zero, List.set_cons_succ, List.getElem?_cons_zero, List.getElem?_cons_succ, List.getElem?_nil, Option.bind_some, Option.bind_none, Option.join_some, Option.join_none, Option.map_some, Bool.and_true, Bool.true_and, Bool.and_false, Bool.false_and, Bool.not_true, Bool.not_false, Bool.false_eq_true, Bool.true_eq_false, if_true, if_false, ite_true, ite_false, List.cons_append, List.nil_append, List.append_nil, Nat.zero_add, Nat.reduceAdd, Nat.reduceSub, Nat.reduceLeDiff, Int.reduceNeg, List.replicate_succ, List.replicate_zero, true_and, and_true, List.length_map, and_pu, or_pu, tand_pu, tor_pu, idx_0, idx_1, if_tt, if_ff, dSl, dNo, dSo, slD, imm_cD, imm_wD, intsD, sAppIx, sExt, sApp, lsD, sFor, seq_sD, eq_str, ne_str, eq_int, ne_int, nc0, nc1, nc2, nc3, nc4, decide_true, decide_false, ne_eq, not_true_eq_false, Int.reduceEq, not_false_eq_true, Bool.or_false, Bool.or_true, Bool.false_or, Bool.true_or, List.all_cons, List.all_nil, id_eq]
      by_cases hr : 0 < r
      · have hrd : decide (0 < r) = true := decide_eq_true hr
        simp (decide := true) (implicitDefEqProofs := false) only [bodyD, env0, sSeq, thenF, sIf, sRet, sRetN, sRetV, sSet, sSetN, sExpr, sNil, sAsg, sPar, resD, dV, dC, dOp, dUn, dNot, dAnd, dOr, dNotT, dAndT, dOrT, dB, dIf, dChain, dTup, dCons, dNil, dLst, dLstB, dCB, dCall, dCallK, dImm, dYes, a1, a2, bTup, bLst, bCons, bNil, bName, fSeq, seqOf, fRng1, fRng2, fEn, fZip, zip2, one1, ints1, ints2, asB, asI, negD, addD, subD, modD, ltD, gtD, geD, leD, isND, isnND, intOp, intOpC, lenD_lst, lenD_tup, lenD_frz, len_sD, tupleD, listD, absD, max2D, min2D, allD, isiD, tyN, isiT_tt, isiT_ii, isiT_ib, idxD, lsA, gw, gt, opt_some, opt_none, bd_pu, bd_fl, bd_bd, chk_true, chk_tt, D.imm, D.imms, D.isN, List.map_cons, List.map_nil, List.length_cons, List.length_nil, List.set_cons_zero, List.set_cons_succ, List.getElem?_cons_zero, List.getElem?_cons_succ, List.getElem?_nil, Option.bind_some, Option.bind_none, Option.join_some, Option.join_none, Option.map_some, Bool.and_true, Bool.true_and, Bool.and_false, Bool.false_and, Bool.not_true, Bool.not_false, Bool.false_eq_true, Bool.true_eq_false, if_true, if_false, ite_true, ite_false, List.cons_append, List.nil_append, List.append_nil, Nat.zero_add, Nat.reduceAdd, Nat.reduceSub, Nat.reduceLeDiff, Int.reduceNeg, List.replicate_succ, List.replicate_zero, true_and, and_true, List.length_map, and_pu, or_pu, tand_pu, tor_pu, idx_0, idx_1, if_tt, if_ff, dSl, dNo, dSo, slD, imm_cD, imm_wD, intsD, sAppIx, sExt, sApp, lsD, sFor, seq_sD, eq_str, ne_str, eq_int, ne_int, nc0, nc1, nc2, nc3, nc4, decide_true, decide_false, ne_eq, not_true_eq_false, Int.reduceEq, not_false_eq_true, Bool.or_false, Bool.or_true, Bool.false_or, Bool.true_or, List.all_cons, List.all_nil, id_eq, hrd, nId (i + 1) hk]
        refine EnC.bd (c1 := 1) (c2 := 2) (by decide) (n_next (t := ((i + 1 : Nat) : Int)) (by omega) (by omega)) ?_
        rintro _ ⟨r', rfl, r0', r1'⟩
        obtain ⟨q, hq⟩ := Int.eq_ofNat_of_zero_le r0'
        subst hq
        have hq' : q < i + 1 := by omega
        simp (decide := true) (implicitDefEqProofs := false) only [bodyD, env0, sSeq, thenF, sIf, sRet, sRetN, sRetV, sSet, sSetN, sExpr, sNil, sAsg, sPar, resD, dV, dC, dOp, dUn, dNot, dAnd, dOr, dNotT, dAndT, dOrT, dB, dIf, dChain, dTup, dCons, dNil, dLst, dLstB, dCB, dCall, dCallK, dImm, dYes, a1, a2, bTup, bLst, bCons, bNil, bName, fSeq, seqOf, fRng1, fRng2, fEn, fZip, zip2, one1, ints1, ints2, asB, asI, negD, addD, subD, modD, ltD, gtD, geD, leD, isND, isnND, intOp, intOpC, lenD_lst, lenD_tup, lenD_frz, len_sD, tupleD, listD, absD, max2D, min2D, allD, isiD, tyN, isiT_tt, isiT_ii, isiT_ib, idxD, lsA, gw, gt, opt_some, opt_none, bd_pu, bd_fl, bd_bd, chk_true, chk_tt, D.imm, D.imms, D.isN, List.map_cons, List.map_nil, List.length_cons, List.length_nil, List.set_cons_zero, List.set_cons_succ, List.getElem?_cons_zero, List.getElem?_cons_succ, List.getElem?_nil, Option.bind_some, Option.bind_none, Option.join_some, Option.join_none, Option.map_some, Bool.and_true, Bool.true_and, Bool.and_false, Bool.false_and, Bool.not_true, Bool.not_false, Bool.false_eq_true, Bool.true_eq_false, if_true, if_false, ite_true, ite_false, List.cons_append, List.nil_append, List.append_nil, Nat.zero_add, Nat.reduceAdd, Nat.reduceSub, Nat.reduceLeDiff, Int.reduceNeg, List.replicate_succ, List.replicate_zero, true_and, and_true, List.length_map, and_pu, or_pu, tand_pu, tor_pu, idx_0, idx_1, if_tt, if_ff, dSl, dNo, dSo, slD, imm_cD, imm_wD, intsD, sAppIx, sExt, sApp, lsD, sFor, seq_sD, eq_str, ne_str, eq_int, ne_int, nc0, nc1, nc2, nc3, nc4, decide_true, decide_false, ne_eq, not_true_eq_false, Int.reduceEq, not_false_eq_true, Bool.or_false, Bool.or_true, Bool.false_or, Bool.true_or, List.all_cons, List.all_nil, id_eq, nId q (by omega)]
        have nk : ol.getD (i + 1) 0 ≠ ol.getD q 0 := fun z => by
          have := getD_inj nd (by omega) (by omega) z
          omega
        have hs2 : EnC 0 (sortID (.lst [.int (ol.getD (i + 1) 0 : Nat), .int (ol.getD q 0 : Nat)])) fun d => ∃ A B : Nat, A < B ∧ ((A = ol.getD (i + 1) 0 ∧ B = ol.getD q 0) ∨ (B = ol.getD (i + 1) 0 ∧ A = ol.getD q 0)) ∧ d = .lst [.int A, .int B] :=
          (n_sort2 _ _).wk fun d hd => by
            rcases hd with ⟨h1, rfl⟩ | ⟨h1, rfl⟩
            · exact ⟨_, _, by omega, .inl ⟨rfl, rfl⟩, rfl⟩
            · exact ⟨_, _, by omega, .inr ⟨rfl, rfl⟩, rfl⟩
        refine EnC.bd (c1 := 0) (c2 := 2) (by decide) hs2 ?_
        rintro _ ⟨A, B, hAB, hc, rfl⟩
        have hA : A < ss.length := by
          have h1 := olt (i + 1) hk
          have h2 := olt q (by omega)
          omega
        have hB : B < ss.length := by
          have h1 := olt (i + 1) hk
          have h2 := olt q (by omega)
          omega
        simp (decide := true) (implicitDefEqProofs := false) only [bodyD, env0, sSeq, thenF, sIf, sRet, sRetN, sRetV, sSet, sSetN, sExpr, sNil, sAsg, sPar, resD, dV, dC, dOp, dUn, dNot, dAnd, dOr, dNotT, dAndT, dOrT, dB, dIf, dChain, dTup, dCons, dNil, dLst, dLstB, dCB, dCall, dCallK, dImm, dYes, a1, a2, bTup, bLst, bCons, bNil, bName, fSeq, seqOf, fRng1, fRng2, fEn, fZip, zip2, one1, ints1, ints2, asB, asI, negD, addD, subD, modD, ltD, gtD, geD, leD, isND, isnND, intOp, intOpC, lenD_lst, lenD_tup, lenD_frz, len_sD, tupleD, listD, absD, max2D, min2D, allD, isiD, tyN, isiT_tt, isiT_ii, isiT_ib, idxD, lsA, gw, gt, opt_some, opt_none, bd_pu, bd_fl, bd_bd, chk_true, chk_tt, D.imm, D.imms, D.isN, List.map_cons, List.map_nil, List.length_cons, List.length_nil, List.set_cons_zero, List.set_cons_succ, List.getElem?_cons_zero, List.getElem?_cons_succ, List.getElem?_nil, Option.bind_some, Option.bind_none, Option.join_some, Option.join_none, Option.map_some, Bool.and_true, Bool.true_and, Bool.and_false, Bool.false_and, Bool.not_true, Bool.not_false, Bool.false_eq_true, Bool.true_eq_false, if_true, if_false, ite_true, ite_false, List.cons_append, List.nil_append, List.append_nil, Nat.zero_add, Nat.reduceAdd, Nat.reduceSub, Nat.reduceLeDiff, Int.reduceNeg, List.replicate_succ, List.replicate_zero, true_and, and_true, List.length_map, and_pu, or_pu, tand_pu, tor_pu, idx_0, idx_1, if_tt, if_ff, dSl, dNo, dSo, slD, imm_cD, imm_wD, intsD, sAppIx, sExt, sApp, lsD, sFor, seq_sD, eq_str, ne_str, eq_int, ne_int, nc0, nc1, nc2, nc3, nc4, decide_true, decide_false, ne_eq, not_true_eq_false, Int.reduceEq, not_false_eq_true, Bool.or_false, Bool.or_true, Bool.false_or, Bool.true_or, List.all_cons, List.all_nil, id_eq]
        refine EnC.bd (c1 := 1) (c2 := 1) (by decide) (n_of4 0 1 2 far) ?_
        rintro _ ⟨nr, hnr', rfl⟩
        refine EnC.bd (c1 := 1) (c2 := 0) (by decide) (n_of4 0 1 3 far) ?_
        rintro _ ⟨tp, htp, rfl⟩
        have hcl : cs.length < sizeLine := small (by have := F.few; omega)
        have gA : -far ≤ ss.getD A 0 ∧ ss.getD A 0 ≤ far := hss _ (List.mem_of_getElem? (getD_at (α := Int) hA))
        have gB : -far ≤ ss.getD B 0 ∧ ss.getD B 0 ≤ far := hss _ (List.mem_of_getElem? (getD_at (α := Int) hB))
        have i1 : ∀ b : Bool, int1D (.bl b) = pu (.int (if b = true then 1 else 0)) := fun _ => rfl
        simp (decide := true) (implicitDefEqProofs := false) only [bodyD, env0, sSeq, thenF, sIf, sRet, sRetN, sRetV, sSet, sSetN, sExpr, sNil, sAsg, sPar, resD, dV, dC, dOp, dUn, dNot, dAnd, dOr, dNotT, dAndT, dOrT, dB, dIf, dChain, dTup, dCons, dNil, dLst, dLstB, dCB, dCall, dCallK, dImm, dYes, a1, a2, bTup, bLst, bCons, bNil, bName, fSeq, seqOf, fRng1, fRng2, fEn, fZip, zip2, one1, ints1, ints2, asB, asI, negD, addD, subD, modD, ltD, gtD, geD, leD, isND, isnND, intOp, intOpC, lenD_lst, lenD_tup, lenD_frz, len_sD, tupleD, listD, absD, max2D, min2D, allD, isiD, tyN, isiT_tt, isiT_ii, isiT_ib, idxD, lsA, gw, gt, opt_some, opt_none, bd_pu, bd_fl, bd_bd, chk_true, chk_tt, D.imm, D.imms, D.isN, List.map_cons, List.map_nil, List.length_cons, List.length_nil, List.set_cons_zero, List.set_cons_succ, List.getElem?_cons_zero, List.getElem?_cons_succ, List.getElem?_nil, Option.bind_some, Option.bind_none, Option.join_some, Option.join_none, Option.map_some, Bool.and_true, Bool.true_and, Bool.and_false, Bool.false_and, Bool.not_true, Bool.not_false, Bool.false_eq_true, Bool.true_eq_false, if_true, if_false, ite_true, ite_false, List.cons_append, List.nil_append, List.append_nil, Nat.zero_add, Nat.reduceAdd, Nat.reduceSub, Nat.reduceLeDiff, Int.reduceNeg, List.replicate_succ, List.replicate_zero, true_and, and_true, List.length_map, and_pu, or_pu, tand_pu, tor_pu, idx_0, idx_1, if_tt, if_ff, dSl, dNo, dSo, slD, imm_cD, imm_wD, intsD, sAppIx, sExt, sApp, lsD, sFor, seq_sD, eq_str, ne_str, eq_int, ne_int, nc0, nc1, nc2, nc3, nc4, decide_true, decide_false, ne_eq, not_true_eq_false, Int.reduceEq, not_false_eq_true, Bool.or_false, Bool.or_true, Bool.false_or, Bool.true_or, List.all_cons, List.all_nil, id_eq, idx_int hA, idx_int hB, imms_cD, hcl, i1]
        have ec2 : cs.map cD ++ [D.tup [D.int (A : Nat), D.int (B : Nat), D.int (ss.getD B 0 - ss.getD A 0 - nr), D.int (ss.getD B 0 - ss.getD A 0 + tp + if decide (nr + tp = 0) = true then 1 else 0)]] = (cs ++ [Cp.mk A B (ss.getD B 0 - ss.getD A 0 - nr) (ss.getD B 0 - ss.getD A 0 + tp + if decide (nr + tp = 0) = true then 1 else 0)]).map cD := by
          rw [List.map_append]
          rfl
        rw [ec2]
        refine EnC.pu ⟨_, rfl, _, _, _, _, _, _, F.add nd (by omega) hq' hc ?_, rfl⟩
        refine ⟨hAB, by show B < ol.length; omega, ?_⟩
        show -10000000000 ≤ ss.getD B 0 - ss.getD A 0 - nr ∧ ss.getD B 0 - ss.getD A 0 - nr < ss.getD B 0 - ss.getD A 0 + tp + (if decide (nr + tp = 0) = true then 1 else 0) ∧ ss.getD B 0 - ss.getD A 0 + tp + (if decide (nr + tp = 0) = true then 1 else 0) ≤ 10000000000 ∧ ss.getD B 0 - ss.getD A 0 - nr ≤ ss.getD B 0 - ss.getD A 0 ∧ ss.getD B 0 - ss.getD A 0 ≤ ss.getD B 0 - ss.getD A 0 + tp + (if decide (nr + tp = 0) = true then 1 else 0)
        have p0 : 0 ≤ nr ∧ nr ≤ 400000000 := by omega
        have p1 : 0 ≤ tp ∧ tp ≤ 400000000 := by omega
        by_cases hz : nr + tp = 0
        · rw [if_pos (decide_eq_true hz)]
          omega
        · rw [if_neg (by simpa using hz)]
          omega
      · have hrd : decide (0 < r) = false := decide_eq_false hr
        simp (decide := true) (implicitDefEqProofs := false) only [bodyD, env0, sSeq, thenF, sIf, sRet, sRetN, sRetV, sSet, sSetN, sExpr, sNil, sAsg, sPar, resD, dV, dC, dOp, dUn, dNot, dAnd, dOr, dNotT, dAndT, dOrT, dB, dIf, dChain, dTup, dCons, dNil, dLst, dLstB, dCB, dCall, dCallK, dImm, dYes, a1, a2, bTup, bLst, bCons, bNil, bName, fSeq, seqOf, fRng1, fRng2, fEn, fZip, zip2, one1, ints1, ints2, asB, asI, negD, addD, subD, modD, ltD, gtD, geD, leD, isND, isnND, intOp, intOpC, lenD_lst, lenD_tup, lenD_frz, len_sD, tupleD, listD, absD, max2D, min2D, allD, isiD, tyN, isiT_tt, isiT_ii, isiT_ib, idxD, lsA, gw, gt, opt_some, opt_none, bd_pu, bd_fl, bd_bd, chk_true, chk_tt, D.imm, D.imms, D.isN, List.map_cons, List.map_nil, List.length_cons, List.length_nil, List.set_cons_zero, List.set_cons_succ, List.getElem?_cons_zero, List.getElem?_cons_succ, List.getElem?_nil, Option.bind_some, Option.bind_none, Option.join_some, Option.join_none, Option.map_some, Bool.and_true, Bool.true_and, Bool.and_false, Bool.false_and, Bool.not_true, Bool.not_false, Bool.false_eq_true, Bool.true_eq_false, if_true, if_false, ite_true, ite_false, List.cons_append, List.nil_append, List.append_nil, Nat.zero_add, Nat.reduceAdd, Nat.reduceSub, Nat.reduceLeDiff, Int.reduceNeg, List.replicate_succ, List.replicate_zero, true_and, and_true, List.length_map, and_pu, or_pu, tand_pu, tor_pu, idx_0, idx_1, if_tt, if_ff, dSl, dNo, dSo, slD, imm_cD, imm_wD, intsD, sAppIx, sExt, sApp, lsD, sFor, seq_sD, eq_str, ne_str, eq_int, ne_int, nc0, nc1, nc2, nc3, nc4, decide_true, decide_false, ne_eq, not_true_eq_false, Int.reduceEq, not_false_eq_true, Bool.or_false, Bool.or_true, Bool.false_or, Bool.true_or, List.all_cons, List.all_nil, id_eq, hrd]
        exact EnC.pu ⟨_, rfl, cs, _, _, _, _, _, F.skip, rfl⟩
    · rintro δ' ⟨cs, x, y, z, u, v, F, rfl⟩
      rw [rngL_len] at F
      simp (decide := true) (implicitDefEqProofs := false) only [bodyD, env0, sSeq, thenF, sIf, sRet, sRetN, sRetV, sSet, sSetN, sExpr, sNil, sAsg, sPar, resD, dV, dC, dOp, dUn, dNot, dAnd, dOr, dNotT, dAndT, dOrT, dB, dIf, dChain, dTup, dCons, dNil, dLst, dLstB, dCB, dCall, dCallK, dImm, dYes, a1, a2, bTup, bLst, bCons, bNil, bName, fSeq, seqOf, fRng1, fRng2, fEn, fZip, zip2, one1, ints1, ints2, asB, asI, negD, addD, subD, modD, ltD, gtD, geD, leD, isND, isnND, intOp, intOpC, lenD_lst, lenD_tup, lenD_frz, len_sD, tupleD, listD, absD, max2D, min2D, allD, isiD, tyN, isiT_tt, isiT_ii, isiT_ib, idxD, lsA, gw, gt, opt_some, opt_none, bd_pu, bd_fl, bd_bd, chk_true, chk_tt, D.imm, D.imms, D.isN, List.map_cons, List.map_nil, List.length_cons, List.length_nil, List.set_cons_zero, List.set_cons_succ, List.getElem?_cons_zero, List.getElem?_cons_succ, List.getElem?_nil, Option.bind_some, Option.bind_none, Option.join_some, Option.join_none, Option.map_some, Bool.and_true, Bool.true_and, Bool.and_false, Bool.false_and, Bool.not_true, Bool.not_false, Bool.false_eq_true, Bool.true_eq_false, if_true, if_false, ite_true, ite_false, List.cons_append, List.nil_append, List.append_nil, Nat.zero_add, Nat.reduceAdd, Nat.reduceSub, Nat.reduceLeDiff, Int.reduceNeg, List.replicate_succ, List.replicate_zero, true_and, and_true, List.length_map, and_pu, or_pu, tand_pu, tor_pu, idx_0, idx_1, if_tt, if_ff, dSl, dNo, dSo, slD, imm_cD, imm_wD, intsD, sAppIx, sExt, sApp, lsD, sFor, seq_sD, eq_str, ne_str, eq_int, ne_int, nc0, nc1, nc2, nc3, nc4, decide_true, decide_false, ne_eq, not_true_eq_false, Int.reduceEq, not_false_eq_true, Bool.or_false, Bool.or_true, Bool.false_or, Bool.true_or, List.all_cons, List.all_nil, id_eq, imms_int]
      refine EnC.bdFor (c1 := 2) (c2 := 0) 40 (fun i δ => ∃ (ws : List (Int × Int)) (p : Option D), ws.length = i ∧ (∀ v w, ws[v]? = some w → -1000000000 ≤ w.1 ∧ w.1 ≤ ss.getD v 0 ∧ ss.getD v 0 ≤ w.2 ∧ w.2 ≤ 1000000000) ∧
        δ = [some .src, some (.int most), some (.int n), some (.int far), some (.lst (ss.map D.int)), some (.lst ((nI ol).map D.int)), some (.lst (cs.map cD)), x, y, z, u, v, some (.lst (ws.map wD)), p]) (by rw [List.length_map]; omega) (by decide) ⟨[], none, rfl, fun v w h => by simp at h, rfl⟩ ?_ ?_
      · rintro i d δ hd ⟨ws, p, hw, hok, rfl⟩
        obtain ⟨sp, hsp, rfl⟩ := map_at D.int ss hd
        have hsp' := hss sp (List.mem_of_getElem? hsp)
        have hsi : ss.getD i 0 = sp := by rw [List.getD_eq_getElem?_getD, hsp]; rfl
        have hi : i < n := by rw [← hl]; exact (List.getElem?_eq_some_iff.mp hsp).1
        simp (decide := true) (implicitDefEqProofs := false) only [bodyD, env0, sSeq, thenF, sIf, sRet, sRetN, sRetV, sSet, sSetN, sExpr, sNil, sAsg, sPar, resD, dV, dC, dOp, dUn, dNot, dAnd, dOr, dNotT, dAndT, dOrT, dB, dIf, dChain, dTup, dCons, dNil, dLst, dLstB, dCB, dCall, dCallK, dImm, dYes, a1, a2, bTup, bLst, bCons, bNil, bName, fSeq, seqOf, fRng1, fRng2, fEn, fZip, zip2, one1, ints1, ints2, asB, asI, negD, addD, subD, modD, ltD, gtD, geD, leD, isND, isnND, intOp, intOpC, lenD_lst, lenD_tup, lenD_frz, len_sD, tupleD, listD, absD, max2D, min2D, allD, isiD, tyN, isiT_tt, isiT_ii, isiT_ib, idxD, lsA, gw, gt, opt_some, opt_none, bd_pu, bd_fl, bd_bd, chk_true, chk_tt, D.imm, D.imms, D.isN, List.map_cons, List.map_nil, List.length_cons, List.length_nil, List.set_cons_zero, List.set_cons_succ, List.getElem?_cons_zero, List.getElem?_cons_succ, List.getElem?_nil, Option.bind_some, Option.bind_none, Option.join_some, Option.join_none, Option.map_some, Bool.and_true, Bool.true_and, Bool.and_false, Bool.false_and, Bool.not_true, Bool.not_false, Bool.false_eq_true, Bool.true_eq_false, if_true, if_false, ite_true, ite_false, List.cons_append, List.nil_append, List.append_nil, Nat.zero_add, Nat.reduceAdd, Nat.reduceSub, Nat.reduceLeDiff, Int.reduceNeg, List.replicate_succ, List.replicate_zero, true_and, and_true, List.length_map, and_pu, or_pu, tand_pu, tor_pu, idx_0, idx_1, if_tt, if_ff, dSl, dNo, dSo, slD, imm_cD, imm_wD, intsD, sAppIx, sExt, sApp, lsD, sFor, seq_sD, eq_str, ne_str, eq_int, ne_int, nc0, nc1, nc2, nc3, nc4, decide_true, decide_false, ne_eq, not_true_eq_false, Int.reduceEq, not_false_eq_true, Bool.or_false, Bool.or_true, Bool.false_or, Bool.true_or, List.all_cons, List.all_nil, id_eq]
        refine EnC.bd (c1 := 1) (c2 := 1) (by decide) (n_of4 0 1 5 far) ?_
        rintro _ ⟨x1, hx1, rfl⟩
        simp (decide := true) (implicitDefEqProofs := false) only [bodyD, env0, sSeq, thenF, sIf, sRet, sRetN, sRetV, sSet, sSetN, sExpr, sNil, sAsg, sPar, resD, dV, dC, dOp, dUn, dNot, dAnd, dOr, dNotT, dAndT, dOrT, dB, dIf, dChain, dTup, dCons, dNil, dLst, dLstB, dCB, dCall, dCallK, dImm, dYes, a1, a2, bTup, bLst, bCons, bNil, bName, fSeq, seqOf, fRng1, fRng2, fEn, fZip, zip2, one1, ints1, ints2, asB, asI, negD, addD, subD, modD, ltD, gtD, geD, leD, isND, isnND, intOp, intOpC, lenD_lst, lenD_tup, lenD_frz, len_sD, tupleD, listD, absD, max2D, min2D, allD, isiD, tyN, isiT_tt, isiT_ii, isiT_ib, idxD, lsA, gw, gt, opt_some, opt_none, bd_pu, bd_fl, bd_bd, chk_true, chk_tt, D.imm, D.imms, D.isN, List.map_cons, List.map_nil, List.length_cons, List.length_nil, List.set_cons_zero, List.set_cons_succ, List.getElem?_cons_zero, List.getElem?_cons_succ, List.getElem?_nil, Option.bind_some, Option.bind_none, Option.join_some, Option.join_none, Option.map_some, Bool.and_true, Bool.true_and, Bool.and_false, Bool.false_and, Bool.not_true, Bool.not_false, Bool.false_eq_true, Bool.true_eq_false, if_true, if_false, ite_true, ite_false, List.cons_append, List.nil_append, List.append_nil, Nat.zero_add, Nat.reduceAdd, Nat.reduceSub, Nat.reduceLeDiff, Int.reduceNeg, List.replicate_succ, List.replicate_zero, true_and, and_true, List.length_map, and_pu, or_pu, tand_pu, tor_pu, idx_0, idx_1, if_tt, if_ff, dSl, dNo, dSo, slD, imm_cD, imm_wD, intsD, sAppIx, sExt, sApp, lsD, sFor, seq_sD, eq_str, ne_str, eq_int, ne_int, nc0, nc1, nc2, nc3, nc4, decide_true, decide_false, ne_eq, not_true_eq_false, Int.reduceEq, not_false_eq_true, Bool.or_false, Bool.or_true, Bool.false_or, Bool.true_or, List.all_cons, List.all_nil, id_eq]
        refine EnC.bd (c1 := 1) (c2 := 0) (by decide) (n_of4 0 1 5 far) ?_
        rintro _ ⟨y1, hy1, rfl⟩
        have hwl : ws.length < sizeLine := small (by omega)
        simp (decide := true) (implicitDefEqProofs := false) only [bodyD, env0, sSeq, thenF, sIf, sRet, sRetN, sRetV, sSet, sSetN, sExpr, sNil, sAsg, sPar, resD, dV, dC, dOp, dUn, dNot, dAnd, dOr, dNotT, dAndT, dOrT, dB, dIf, dChain, dTup, dCons, dNil, dLst, dLstB, dCB, dCall, dCallK, dImm, dYes, a1, a2, bTup, bLst, bCons, bNil, bName, fSeq, seqOf, fRng1, fRng2, fEn, fZip, zip2, one1, ints1, ints2, asB, asI, negD, addD, subD, modD, ltD, gtD, geD, leD, isND, isnND, intOp, intOpC, lenD_lst, lenD_tup, lenD_frz, len_sD, tupleD, listD, absD, max2D, min2D, allD, isiD, tyN, isiT_tt, isiT_ii, isiT_ib, idxD, lsA, gw, gt, opt_some, opt_none, bd_pu, bd_fl, bd_bd, chk_true, chk_tt, D.imm, D.imms, D.isN, List.map_cons, List.map_nil, List.length_cons, List.length_nil, List.set_cons_zero, List.set_cons_succ, List.getElem?_cons_zero, List.getElem?_cons_succ, List.getElem?_nil, Option.bind_some, Option.bind_none, Option.join_some, Option.join_none, Option.map_some, Bool.and_true, Bool.true_and, Bool.and_false, Bool.false_and, Bool.not_true, Bool.not_false, Bool.false_eq_true, Bool.true_eq_false, if_true, if_false, ite_true, ite_false, List.cons_append, List.nil_append, List.append_nil, Nat.zero_add, Nat.reduceAdd, Nat.reduceSub, Nat.reduceLeDiff, Int.reduceNeg, List.replicate_succ, List.replicate_zero, true_and, and_true, List.length_map, and_pu, or_pu, tand_pu, tor_pu, idx_0, idx_1, if_tt, if_ff, dSl, dNo, dSo, slD, imm_cD, imm_wD, intsD, sAppIx, sExt, sApp, lsD, sFor, seq_sD, eq_str, ne_str, eq_int, ne_int, nc0, nc1, nc2, nc3, nc4, decide_true, decide_false, ne_eq, not_true_eq_false, Int.reduceEq, not_false_eq_true, Bool.or_false, Bool.or_true, Bool.false_or, Bool.true_or, List.all_cons, List.all_nil, id_eq, imms_wD, hwl]
        have ew2 : ws.map wD ++ [D.tup [D.int (sp - x1), D.int (sp + y1)]] = (ws ++ [((sp - x1), (sp + y1))]).map wD := by
          rw [List.map_append]
          rfl
        rw [ew2]
        refine EnC.pu ⟨_, rfl, ws ++ [((sp - x1), (sp + y1))], _, ?_, ?_, rfl⟩
        · rw [List.length_append, List.length_singleton, hw]
        · intro v w hv
          by_cases hvl : v < ws.length
          · rw [List.getElem?_append_left hvl] at hv
            exact hok v w hv
          · have : v = ws.length := by
              have := (List.getElem?_eq_some_iff.mp hv).1
              rw [List.length_append, List.length_singleton] at this
              omega
            subst this
            rw [List.getElem?_append_right (Nat.le_refl _), Nat.sub_self] at hv
            have ew := (Option.some.inj hv).symm
            subst ew
            rw [hw, hsi]
            show -1000000000 ≤ sp - x1 ∧ sp - x1 ≤ sp ∧ sp ≤ sp + y1 ∧ sp + y1 ≤ 1000000000
            omega
      · rintro δ' ⟨ws, p, hw, hok, rfl⟩
        rw [List.length_map, hl] at hw
        simp (decide := true) (implicitDefEqProofs := false) only [bodyD, env0, sSeq, thenF, sIf, sRet, sRetN, sRetV, sSet, sSetN, sExpr, sNil, sAsg, sPar, resD, dV, dC, dOp, dUn, dNot, dAnd, dOr, dNotT, dAndT, dOrT, dB, dIf, dChain, dTup, dCons, dNil, dLst, dLstB, dCB, dCall, dCallK, dImm, dYes, a1, a2, bTup, bLst, bCons, bNil, bName, fSeq, seqOf, fRng1, fRng2, fEn, fZip, zip2, one1, ints1, ints2, asB, asI, negD, addD, subD, modD, ltD, gtD, geD, leD, isND, isnND, intOp, intOpC, lenD_lst, lenD_tup, lenD_frz, len_sD, tupleD, listD, absD, max2D, min2D, allD, isiD, tyN, isiT_tt, isiT_ii, isiT_ib, idxD, lsA, gw, gt, opt_some, opt_none, bd_pu, bd_fl, bd_bd, chk_true, chk_tt, D.imm, D.imms, D.isN, List.map_cons, List.map_nil, List.length_cons, List.length_nil, List.set_cons_zero, List.set_cons_succ, List.getElem?_cons_zero, List.getElem?_cons_succ, List.getElem?_nil, Option.bind_some, Option.bind_none, Option.join_some, Option.join_none, Option.map_some, Bool.and_true, Bool.true_and, Bool.and_false, Bool.false_and, Bool.not_true, Bool.not_false, Bool.false_eq_true, Bool.true_eq_false, if_true, if_false, ite_true, ite_false, List.cons_append, List.nil_append, List.append_nil, Nat.zero_add, Nat.reduceAdd, Nat.reduceSub, Nat.reduceLeDiff, Int.reduceNeg, List.replicate_succ, List.replicate_zero, true_and, and_true, List.length_map, and_pu, or_pu, tand_pu, tor_pu, idx_0, idx_1, if_tt, if_ff, dSl, dNo, dSo, slD, imm_cD, imm_wD, intsD, sAppIx, sExt, sApp, lsD, sFor, seq_sD, eq_str, ne_str, eq_int, ne_int, nc0, nc1, nc2, nc3, nc4, decide_true, decide_false, ne_eq, not_true_eq_false, Int.reduceEq, not_false_eq_true, Bool.or_false, Bool.or_true, Bool.false_or, Bool.true_or, List.all_cons, List.all_nil, id_eq]
        refine EnC.bd (c1 := 0) (c2 := 0) (by decide) (n_sortT cs) ?_
        rintro _ ⟨cs', hp', hs', rfl⟩
        obtain ⟨VV, SS⟩ := F.yard hp' hs' (ws := ws) (by omega) (by omega) (by omega) (by omega) (by omega) hok
        simp (decide := true) (implicitDefEqProofs := false) only [bodyD, env0, sSeq, thenF, sIf, sRet, sRetN, sRetV, sSet, sSetN, sExpr, sNil, sAsg, sPar, resD, dV, dC, dOp, dUn, dNot, dAnd, dOr, dNotT, dAndT, dOrT, dB, dIf, dChain, dTup, dCons, dNil, dLst, dLstB, dCB, dCall, dCallK, dImm, dYes, a1, a2, bTup, bLst, bCons, bNil, bName, fSeq, seqOf, fRng1, fRng2, fEn, fZip, zip2, one1, ints1, ints2, asB, asI, negD, addD, subD, modD, ltD, gtD, geD, leD, isND, isnND, intOp, intOpC, lenD_lst, lenD_tup, lenD_frz, len_sD, tupleD, listD, absD, max2D, min2D, allD, isiD, tyN, isiT_tt, isiT_ii, isiT_ib, idxD, lsA, gw, gt, opt_some, opt_none, bd_pu, bd_fl, bd_bd, chk_true, chk_tt, D.imm, D.imms, D.isN, List.map_cons, List.map_nil, List.length_cons, List.length_nil, List.set_cons_zero, List.set_cons_succ, List.getElem?_cons_zero, List.getElem?_cons_succ, List.getElem?_nil, Option.bind_some, Option.bind_none, Option.join_some, Option.join_none, Option.map_some, Bool.and_true, Bool.true_and, Bool.and_false, Bool.false_and, Bool.not_true, Bool.not_false, Bool.false_eq_true, Bool.true_eq_false, if_true, if_false, ite_true, ite_false, List.cons_append, List.nil_append, List.append_nil, Nat.zero_add, Nat.reduceAdd, Nat.reduceSub, Nat.reduceLeDiff, Int.reduceNeg, List.replicate_succ, List.replicate_zero, true_and, and_true, List.length_map, and_pu, or_pu, tand_pu, tor_pu, idx_0, idx_1, if_tt, if_ff, dSl, dNo, dSo, slD, imm_cD, imm_wD, intsD, sAppIx, sExt, sApp, lsD, sFor, seq_sD, eq_str, ne_str, eq_int, ne_int, nc0, nc1, nc2, nc3, nc4, decide_true, decide_false, ne_eq, not_true_eq_false, Int.reduceEq, not_false_eq_true, Bool.or_false, Bool.or_true, Bool.false_or, Bool.true_or, List.all_cons, List.all_nil, id_eq, imms_wD, imms_cD, imms_int]
        exact EnC.pu ⟨ws, cs', ss, rfl, VV, SS⟩
end DB
namespace DB
open PySem L2 DL CY
/-- how far wagon v may go -/
structure Rm (ws : List (Int × Int)) (cs : List Cp) (ss : List Int) (v : Nat) (lo hi : Int) : Prop where
  at_ : lo ≤ ss.getD v 0 ∧ ss.getD v 0 ≤ hi
  wal : ∀ w, ws[v]? = some w → w.1 ≤ lo ∧ hi ≤ w.2
  cp : ∀ c ∈ cs, (c.j = v → ss.getD c.i 0 + c.lo ≤ lo ∧ hi ≤ ss.getD c.i 0 + c.hi) ∧ (c.i = v → ss.getD c.j 0 - c.hi ≤ lo ∧ hi ≤ ss.getD c.j 0 - c.lo)
theorem Rm.set {ws : List (Int × Int)} {cs : List Cp} {ss : List Int} {v : Nat} {lo hi x : Int} (R : Rm ws cs ss v lo hi) (V : VY ws cs) (S : VS ws cs ss) (hv : v < ws.length) (h1 : lo ≤ x) (h2 : x ≤ hi) : VS ws cs (ss.set v x) := by
  have hl := S.len
  refine ⟨by rw [List.length_set]; exact hl, fun u w hw => ?_, fun c hc => ?_⟩
  · rw [getD_set (by omega)]
    by_cases e : u = v
    · subst e
      rw [if_pos rfl]
      have := R.wal w hw
      omega
    · rw [if_neg e]
      exact S.wal u w hw
  · rw [getD_set (by omega), getD_set (by omega)]
    obtain ⟨r1, r2⟩ := R.cp c hc
    have hc0 := S.cpl c hc
    have lt := (V.cok c hc).1
    by_cases ej : c.j = v
    · have := r1 ej
      rw [if_pos ej, if_neg (show ¬ c.i = v by omega)]
      omega
    · rw [if_neg ej]
      by_cases ei : c.i = v
      · have := r2 ei
        rw [if_pos ei]
        omega
      · rw [if_neg ei]
        exact hc0
theorem n_room {ws : List (Int × Int)} {cs : List Cp} {ss : List Int} {v : Nat} (V : VY ws cs) (S : VS ws cs ss) (hv : v < ws.length) : EnC 0 (F__law_room [yD ws cs, .lst (ss.map D.int), .int v]) fun d => ∃ lo hi, d = .tup [.int lo, .int hi] ∧ Rm ws cs ss v lo hi := by
  have hl := S.len
  have w0 := S.wal v _ (getW hv)
  unfold F__law_room g__law_room
  have ey : idxD (yD ws cs) (.int 0) = pu (.tup (ws.map wD)) := idx_0 _ _
  have ey1 : idxD (yD ws cs) (.int 1) = pu (.tup (cs.map cD)) := idx_1 _ _ _
  simp (decide := true) (implicitDefEqProofs := false) only [bodyD, env0, sSeq, thenF, sIf, sRet, sRetN, sRetV, sSet, sSetN, sExpr, sNil, sAsg, sPar, resD, dV, dC, dOp, dUn, dNot, dAnd, dOr, dNotT, dAndT, dOrT, dB, dIf, dChain, dTup, dCons, dNil, dLst, dLstB, dCB, dCall, dCallK, dImm, dYes, a1, a2, bTup, bLst, bCons, bNil, bName, fSeq, seqOf, fRng1, fRng2, fEn, fZip, zip2, one1, ints1, ints2, asB, asI, negD, addD, subD, modD, ltD, gtD, geD, leD, isND, isnND, intOp, intOpC, lenD_lst, lenD_tup, lenD_frz, len_sD, tupleD, listD, absD, max2D, min2D, allD, isiD, tyN, isiT_tt, isiT_ii, isiT_ib, idxD, lsA, gw, gt, opt_some, opt_none, bd_pu, bd_fl, bd_bd, chk_true, chk_tt, D.imm, D.imms, D.isN, List.map_cons, List.map_nil, List.length_cons, List.length_nil, List.set_cons_zero, List.set_cons_succ, List.getElem?_cons_zero, List.getElem?_cons_succ, List.getElem?_nil, Option.bind_some, Option.bind_none, Option.join_some, Option.join_none, Option.map_some, Bool.and_true, Bool.true_and, Bool.and_false, Bool.false_and, Bool.not_true, Bool.not_false, Bool.false_eq_true, Bool.true_eq_false, if_true, if_false, ite_true, ite_false, List.cons_append, List.nil_append, List.append_nil, Nat.zero_add, Nat.reduceAdd, Nat.reduceSub, Nat.reduceLeDiff, Int.reduceNeg, List.replicate_succ, List.replicate_zero, true_and, and_true, List.length_map, and_pu, or_pu, tand_pu, tor_pu, idx_0, idx_1, if_tt, if_ff, dSl, dNo, dSo, slD, imm_cD, imm_wD, intsD, sAppIx, sExt, sApp, lsD, sFor, seq_sD, eq_str, ne_str, eq_int, ne_int, nc0, nc1, nc2, nc3, nc4, decide_true, decide_false, ne_eq, not_true_eq_false, Int.reduceEq, not_false_eq_true, Bool.or_false, Bool.or_true, Bool.false_or, Bool.true_or, List.all_cons, List.all_nil, id_eq, yD, idx_w hv, wD, imms_cD]
  refine EnC.bdFor (c1 := 0) (c2 := 0) cs.length (fun i δ => ∃ (lo hi : Int) (x y z u : Option D), (lo ≤ ss.getD v 0 ∧ ss.getD v 0 ≤ hi) ∧ ((ws.getD v (0, 0)).1 ≤ lo ∧ hi ≤ (ws.getD v (0, 0)).2) ∧
      (∀ (k : Nat) (c : Cp), k < i → cs[k]? = some c → (c.j = v → ss.getD c.i 0 + c.lo ≤ lo ∧ hi ≤ ss.getD c.i 0 + c.hi) ∧ (c.i = v → ss.getD c.j 0 - c.hi ≤ lo ∧ hi ≤ ss.getD c.j 0 - c.lo)) ∧
      δ = [some (.tup [.tup (ws.map wD), .tup (cs.map cD)]), some (.lst (ss.map D.int)), some (.int v), some (.int lo), some (.int hi), x, y, z, u]) (by rw [List.length_map]; exact Nat.le_refl _) (by omega) ?_ ?_ ?_
  · exact ⟨_, _, _, _, _, _, w0, ⟨Int.le_refl _, Int.le_refl _⟩, (fun k c hk => absurd hk (Nat.not_lt_zero _)), rfl⟩
  · rintro i d δ hd ⟨lo, hi, x, y, z, u, h1, h2, h3, rfl⟩
    obtain ⟨c, hc, rfl⟩ := map_at cD cs hd
    have ok := V.cok c (List.mem_of_getElem? hc)
    have hcp := S.cpl c (List.mem_of_getElem? hc)
    have hi' : c.i < ss.length := by omega
    have hj' : c.j < ss.length := by omega
    have nx : ∀ (lo' hi' : Int), (lo ≤ lo' ∧ hi' ≤ hi) → ((c.j = v → ss.getD c.i 0 + c.lo ≤ lo' ∧ hi' ≤ ss.getD c.i 0 + c.hi) ∧ (c.i = v → ss.getD c.j 0 - c.hi ≤ lo' ∧ hi' ≤ ss.getD c.j 0 - c.lo)) →
        ∀ (k : Nat) (d : Cp), k < i + 1 → cs[k]? = some d → (d.j = v → ss.getD d.i 0 + d.lo ≤ lo' ∧ hi' ≤ ss.getD d.i 0 + d.hi) ∧ (d.i = v → ss.getD d.j 0 - d.hi ≤ lo' ∧ hi' ≤ ss.getD d.j 0 - d.lo) := fun lo' hi' hh hcc k d hk hd2 => by
      by_cases e : k = i
      · subst e
        rw [hc] at hd2
        cases hd2
        exact hcc
      · obtain ⟨a, b⟩ := h3 k d (by omega) hd2
        exact ⟨fun q => by have := a q; omega, fun q => by have := b q; omega⟩
    unfold cD
    by_cases ej : c.j = v
    · have e1 : decide ((c.j : Int) = (v : Int)) = true := decide_eq_true (by omega)
      have e2 : decide ((c.i : Int) = (v : Int)) = false := decide_eq_false (by omega)
      simp (decide := true) (implicitDefEqProofs := false) only [bodyD, env0, sSeq, thenF, sIf, sRet, sRetN, sRetV, sSet, sSetN, sExpr, sNil, sAsg, sPar, resD, dV, dC, dOp, dUn, dNot, dAnd, dOr, dNotT, dAndT, dOrT, dB, dIf, dChain, dTup, dCons, dNil, dLst, dLstB, dCB, dCall, dCallK, dImm, dYes, a1, a2, bTup, bLst, bCons, bNil, bName, fSeq, seqOf, fRng1, fRng2, fEn, fZip, zip2, one1, ints1, ints2, asB, asI, negD, addD, subD, modD, ltD, gtD, geD, leD, isND, isnND, intOp, intOpC, lenD_lst, lenD_tup, lenD_frz, len_sD, tupleD, listD, absD, max2D, min2D, allD, isiD, tyN, isiT_tt, isiT_ii, isiT_ib, idxD, lsA, gw, gt, opt_some, opt_none, bd_pu, bd_fl, bd_bd, chk_true, chk_tt, D.imm, D.imms, D.isN, List.map_cons, List.map_nil, List.length_cons, List.length_nil, List.set_cons_zero, List.set_cons_succ, List.getElem?_cons_zero, List.getElem?_cons_succ, List.getElem?_nil, Option.bind_some, Option.bind_none, Option.join_some, Option.join_none, Option.map_some, Bool.and_true, Bool.true_and, Bool.and_false, Bool.false_and, Bool.not_true, Bool.not_false, Bool.false_eq_true, Bool.true_eq_false, if_true, if_false, ite_true, ite_false, List.cons_append, List.nil_append, List.append_nil, Nat.zero_add, Nat.reduceAdd, Nat.reduceSub, Nat.reduceLeDiff, Int.reduceNeg, List.replicate_succ, List.replicate_zero, true_and, and_true, List.length_map, and_pu, or_pu, tand_pu, tor_pu, idx_0, idx_1, if_tt, if_ff, dSl, dNo, dSo, slD, imm_cD, imm_wD, intsD, sAppIx, sExt, sApp, lsD, sFor, seq_sD, eq_str, ne_str, eq_int, ne_int, nc0, nc1, nc2, nc3, nc4, decide_true, decide_false, ne_eq, not_true_eq_false, Int.reduceEq, not_false_eq_true, Bool.or_false, Bool.or_true, Bool.false_or, Bool.true_or, List.all_cons, List.all_nil, id_eq, e1, e2, idx_int hi']
      refine EnC.pu ⟨_, rfl, _, _, _, _, _, _, ?_, ?_, nx _ _ ?_ ?_, rfl⟩
      · subst ej
        split <;> split <;> omega
      · split <;> split <;> omega
      · split <;> split <;> omega
      · refine ⟨fun _ => ?_, fun q => ?_⟩
        · split <;> split <;> omega
        · omega
    · have e1 : decide ((c.j : Int) = (v : Int)) = false := decide_eq_false (by omega)
      by_cases ei : c.i = v
      · have e2 : decide ((c.i : Int) = (v : Int)) = true := decide_eq_true (by omega)
        simp (decide := true) (implicitDefEqProofs := false) only [bodyD, env0, sSeq, thenF, sIf, sRet, sRetN, sRetV, sSet, sSetN, sExpr, sNil, sAsg, sPar, resD, dV, dC, dOp, dUn, dNot, dAnd, dOr, dNotT, dAndT, dOrT, dB, dIf, dChain, dTup, dCons, dNil, dLst, dLstB, dCB, dCall, dCallK, dImm, dYes, a1, a2, bTup, bLst, bCons, bNil, bName, fSeq, seqOf, fRng1, fRng2, fEn, fZip, zip2, one1, ints1, ints2, asB, asI, negD, addD, subD, modD, ltD, gtD, geD, leD, isND, isnND, intOp, intOpC, lenD_lst, lenD_tup, lenD_frz, len_sD, tupleD, listD, absD, max2D, min2D, allD, isiD, tyN, isiT_tt, isiT_ii, isiT_ib, idxD, lsA, gw, gt, opt_some, opt_none, bd_pu, bd_fl, bd_bd, chk_true, chk_tt, D.imm, D.imms, D.isN, List.map_cons, List.map_nil, List.length_cons, List.length_nil, List.set_cons_zero, List.set_cons_succ, List.getElem?_cons_zero, List.getElem?_cons_succ, List.getElem?_nil, Option.bind_some, Option.bind_none, Option.join_some, Option.join_none, Option.map_some, Bool.and_true, Bool.true_and, Bool.and_false, Bool.false_and, Bool.not_true, Bool.not_false, Bool.false_eq_true, Bool.true_eq_false, if_true, if_false, ite_true, ite_false, List.cons_append, List.nil_append, List.append_nil, Nat.zero_add, Nat.reduceAdd, Nat.reduceSub, Nat.reduceLeDiff, Int.reduceNeg, List.replicate_succ, List.replicate_zero, true_and, and_true, List.length_map, and_pu, or_pu, tand_pu, tor_pu, idx_0, idx_1, if_tt, if_ff, dSl, dNo, dSo, slD, imm_cD, imm_wD, intsD, sAppIx, sExt, sApp, lsD, sFor, seq_sD, eq_str, ne_str, eq_int, ne_int, nc0, nc1, nc2, nc3, nc4, decide_true, decide_false, ne_eq, not_true_eq_false, Int.reduceEq, not_false_eq_true, Bool.or_false, Bool.or_true, Bool.false_or, Bool.true_or, List.all_cons, List.all_nil, id_eq, e1, e2, idx_int hj']
        refine EnC.pu ⟨_, rfl, _, _, _, _, _, _, ?_, ?_, nx _ _ ?_ ?_, rfl⟩
        · subst ei
          split <;> split <;> omega
        · split <;> split <;> omega
        · split <;> split <;> omega
        · refine ⟨fun q => ?_, fun _ => ?_⟩
          · omega
          · split <;> split <;> omega
      · have e2 : decide ((c.i : Int) = (v : Int)) = false := decide_eq_false (by omega)
        simp (decide := true) (implicitDefEqProofs := false) only [bodyD, env0, sSeq, thenF, sIf, sRet, sRetN, sRetV, sSet, sSetN, sExpr, sNil, sAsg, sPar, resD, dV, dC, dOp, dUn, dNot, dAnd, dOr, dNotT, dAndT, dOrT, dB, dIf, dChain, dTup, dCons, dNil, dLst, dLstB, dCB, dCall, dCallK, dImm, dYes, a1, a2, bTup, bLst, bCons, bNil, bName, fSeq, seqOf, fRng1, fRng2, fEn, fZip, zip2, one1, ints1, ints2, asB, asI, negD, addD, subD, modD, ltD, gtD, geD, leD, isND, isnND, intOp, intOpC, lenD_lst, lenD_tup, lenD_frz, len_sD, tupleD, listD, absD, max2D, min2D, allD, isiD, tyN, isiT_tt, isiT_ii, isiT_ib, idxD, lsA, gw, gt, opt_some, opt_none, bd_pu, bd_fl, bd_bd, chk_true, chk_tt, D.imm, D.imms, D.isN, List.map_cons, List.map_nil, List.length_cons, List.length_nil, List.set_cons_zero, List.set_cons_succ, List.getElem?_cons_zero, List.getElem?_cons_succ, List.getElem?_nil, Option.bind_some, Option.bind_none, Option.join_some, Option.join_none, Option.map_some, Bool.and_true, Bool.true_and, Bool.and_false, Bool.false_and, Bool.not_true, Bool.not_false, Bool.false_eq_true, Bool.true_eq_false, if_true, if_false, ite_true, ite_false, List.cons_append, List.nil_append, List.append_nil, Nat.zero_add, Nat.reduceAdd, Nat.reduceSub, Nat.reduceLeDiff, Int.reduceNeg, List.replicate_succ, List.replicate_zero, true_and, and_true, List.length_map, and_pu, or_pu, tand_pu, tor_pu, idx_0, idx_1, if_tt, if_ff, dSl, dNo, dSo, slD, imm_cD, imm_wD, intsD, sAppIx, sExt, sApp, lsD, sFor, seq_sD, eq_str, ne_str, eq_int, ne_int, nc0, nc1, nc2, nc3, nc4, decide_true, decide_false, ne_eq, not_true_eq_false, Int.reduceEq, not_false_eq_true, Bool.or_false, Bool.or_true, Bool.false_or, Bool.true_or, List.all_cons, List.all_nil, id_eq, e1, e2]
        exact EnC.pu ⟨_, rfl, _, _, _, _, _, _, h1, h2, nx _ _ ⟨Int.le_refl _, Int.le_refl _⟩ ⟨fun q => absurd q ej, fun q => absurd q ei⟩, rfl⟩
  · rintro δ' ⟨lo, hi, x, y, z, u, h1, h2, h3, rfl⟩
    simp (decide := true) (implicitDefEqProofs := false) only [bodyD, env0, sSeq, thenF, sIf, sRet, sRetN, sRetV, sSet, sSetN, sExpr, sNil, sAsg, sPar, resD, dV, dC, dOp, dUn, dNot, dAnd, dOr, dNotT, dAndT, dOrT, dB, dIf, dChain, dTup, dCons, dNil, dLst, dLstB, dCB, dCall, dCallK, dImm, dYes, a1, a2, bTup, bLst, bCons, bNil, bName, fSeq, seqOf, fRng1, fRng2, fEn, fZip, zip2, one1, ints1, ints2, asB, asI, negD, addD, subD, modD, ltD, gtD, geD, leD, isND, isnND, intOp, intOpC, lenD_lst, lenD_tup, lenD_frz, len_sD, tupleD, listD, absD, max2D, min2D, allD, isiD, tyN, isiT_tt, isiT_ii, isiT_ib, idxD, lsA, gw, gt, opt_some, opt_none, bd_pu, bd_fl, bd_bd, chk_true, chk_tt, D.imm, D.imms, D.isN, List.map_cons, List.map_nil, List.length_cons, List.length_nil, List.set_cons_zero, List.set_cons_succ, List.getElem?_cons_zero, List.getElem?_cons_succ, List.getElem?_nil, Option.bind_some, Option.bind_none, Option.join_some, Option.join_none, Option.map_some, Bool.and_true, Bool.true_and, Bool.and_false, Bool.false_and, Bool.not_true, Bool.not_false, Bool.false_eq_true, Bool.true_eq_false, if_true, if_false, ite_true, ite_false, List.cons_append, List.nil_append, List.append_nil, Nat.zero_add, Nat.reduceAdd, Nat.reduceSub, Nat.reduceLeDiff, Int.reduceNeg, List.replicate_succ, List.replicate_zero, true_and, and_true, List.length_map, and_pu, or_pu, tand_pu, tor_pu, idx_0, idx_1, if_tt, if_ff, dSl, dNo, dSo, slD, imm_cD, imm_wD, intsD, sAppIx, sExt, sApp, lsD, sFor, seq_sD, eq_str, ne_str, eq_int, ne_int, nc0, nc1, nc2, nc3, nc4, decide_true, decide_false, ne_eq, not_true_eq_false, Int.reduceEq, not_false_eq_true, Bool.or_false, Bool.or_true, Bool.false_or, Bool.true_or, List.all_cons, List.all_nil, id_eq]
    refine EnC.pu ⟨lo, hi, rfl, h1, fun w hw => ?_, fun c hc => ?_⟩
    · rw [getW hv] at hw
      cases hw
      exact h2
    · obtain ⟨k, hk⟩ := List.mem_iff_getElem?.mp hc
      exact h3 k c (by rw [List.length_map]; exact (List.getElem?_eq_some_iff.mp hk).1) hk
theorem setm {l : List Int} {v : Nat} {x : Int} : (l.map D.int).set v (.int x) = (l.set v x).map D.int := by
  rw [List.map_set]
theorem n_moved {ws : List (Int × Int)} {cs : List Cp} {ss : List Int} (V : VY ws cs) (S : VS ws cs ss) : EnC 500 (F__law_moved [.src, yD ws cs, sD ss]) fun d => ∃ ss', d = sD ss' ∧ VS ws cs ss' := by
  have n40 := V.n40
  unfold F__law_moved g__law_moved sD
  simp (decide := true) (implicitDefEqProofs := false) only [bodyD, env0, sSeq, thenF, sIf, sRet, sRetN, sRetV, sSet, sSetN, sExpr, sNil, sAsg, sPar, resD, dV, dC, dOp, dUn, dNot, dAnd, dOr, dNotT, dAndT, dOrT, dB, dIf, dChain, dTup, dCons, dNil, dLst, dLstB, dCB, dCall, dCallK, dImm, dYes, a1, a2, bTup, bLst, bCons, bNil, bName, fSeq, seqOf, fRng1, fRng2, fEn, fZip, zip2, one1, ints1, ints2, asB, asI, negD, addD, subD, modD, ltD, gtD, geD, leD, isND, isnND, intOp, intOpC, lenD_lst, lenD_tup, lenD_frz, len_sD, tupleD, listD, absD, max2D, min2D, allD, isiD, tyN, isiT_tt, isiT_ii, isiT_ib, idxD, lsA, gw, gt, opt_some, opt_none, bd_pu, bd_fl, bd_bd, chk_true, chk_tt, D.imm, D.imms, D.isN, List.map_cons, List.map_nil, List.length_cons, List.length_nil, List.set_cons_zero, List.set_cons_succ, List.getElem?_cons_zero, List.getElem?_cons_succ, List.getElem?_nil, Option.bind_some, Option.bind_none, Option.join_some, Option.join_none, Option.map_some, Bool.and_true, Bool.true_and, Bool.and_false, Bool.false_and, Bool.not_true, Bool.not_false, Bool.false_eq_true, Bool.true_eq_false, if_true, if_false, ite_true, ite_false, List.cons_append, List.nil_append, List.append_nil, Nat.zero_add, Nat.reduceAdd, Nat.reduceSub, Nat.reduceLeDiff, Int.reduceNeg, List.replicate_succ, List.replicate_zero, true_and, and_true, List.length_map, and_pu, or_pu, tand_pu, tor_pu, idx_0, idx_1, if_tt, if_ff, dSl, dNo, dSo, slD, imm_cD, imm_wD, intsD, sAppIx, sExt, sApp, lsD, sFor, seq_sD, eq_str, ne_str, eq_int, ne_int, nc0, nc1, nc2, nc3, nc4, decide_true, decide_false, ne_eq, not_true_eq_false, Int.reduceEq, not_false_eq_true, Bool.or_false, Bool.or_true, Bool.false_or, Bool.true_or, List.all_cons, List.all_nil, id_eq, imms_int]
  refine EnC.bd (c1 := 1) (c2 := 400) (by decide) (n_next (t := 4) (by decide) (by decide)) ?_
  rintro _ ⟨r, rfl, r0, r1⟩
  obtain ⟨t, ht⟩ := Int.eq_ofNat_of_zero_le r0
  subst ht
  have htr : -(2 ^ 62) ≤ (t : Int) ∧ (t : Int) < 2 ^ 62 := by omega
  simp (decide := true) (implicitDefEqProofs := false) only [bodyD, env0, sSeq, thenF, sIf, sRet, sRetN, sRetV, sSet, sSetN, sExpr, sNil, sAsg, sPar, resD, dV, dC, dOp, dUn, dNot, dAnd, dOr, dNotT, dAndT, dOrT, dB, dIf, dChain, dTup, dCons, dNil, dLst, dLstB, dCB, dCall, dCallK, dImm, dYes, a1, a2, bTup, bLst, bCons, bNil, bName, fSeq, seqOf, fRng1, fRng2, fEn, fZip, zip2, one1, ints1, ints2, asB, asI, negD, addD, subD, modD, ltD, gtD, geD, leD, isND, isnND, intOp, intOpC, lenD_lst, lenD_tup, lenD_frz, len_sD, tupleD, listD, absD, max2D, min2D, allD, isiD, tyN, isiT_tt, isiT_ii, isiT_ib, idxD, lsA, gw, gt, opt_some, opt_none, bd_pu, bd_fl, bd_bd, chk_true, chk_tt, D.imm, D.imms, D.isN, List.map_cons, List.map_nil, List.length_cons, List.length_nil, List.set_cons_zero, List.set_cons_succ, List.getElem?_cons_zero, List.getElem?_cons_succ, List.getElem?_nil, Option.bind_some, Option.bind_none, Option.join_some, Option.join_none, Option.map_some, Bool.and_true, Bool.true_and, Bool.and_false, Bool.false_and, Bool.not_true, Bool.not_false, Bool.false_eq_true, Bool.true_eq_false, if_true, if_false, ite_true, ite_false, List.cons_append, List.nil_append, List.append_nil, Nat.zero_add, Nat.reduceAdd, Nat.reduceSub, Nat.reduceLeDiff, Int.reduceNeg, List.replicate_succ, List.replicate_zero, true_and, and_true, List.length_map, and_pu, or_pu, tand_pu, tor_pu, idx_0, idx_1, if_tt, if_ff, dSl, dNo, dSo, slD, imm_cD, imm_wD, intsD, sAppIx, sExt, sApp, lsD, sFor, seq_sD, eq_str, ne_str, eq_int, ne_int, nc0, nc1, nc2, nc3, nc4, decide_true, decide_false, ne_eq, not_true_eq_false, Int.reduceEq, not_false_eq_true, Bool.or_false, Bool.or_true, Bool.false_or, Bool.true_or, List.all_cons, List.all_nil, id_eq, chk_pos htr, Int.toNat_natCast]
  refine EnC.bdFor (c1 := 130) (c2 := 0) 3 (fun i δ => ∃ (s' : List Int) (x y z u : Option D), VS ws cs s' ∧ δ = [some .src, some (yD ws cs), some (.tup (ss.map D.int)), some (.lst (s'.map D.int)), x, y, z, u]) (by rw [rngD_len]; omega) (by decide) ⟨ss, _, _, _, _, S, rfl⟩ ?_ ?_
  · rintro i d δ hd ⟨s', x, y, z, u, S', rfl⟩
    obtain ⟨_, rfl⟩ := rngD_at hd
    have h0 : ((ss.length : Nat) : Int) ≤ 16777216 ∧ (0 : Int) ≤ (ss.length : Nat) := by have := S.len; omega
    simp (decide := true) (implicitDefEqProofs := false) only [bodyD, env0, sSeq, thenF, sIf, sRet, sRetN, sRetV, sSet, sSetN, sExpr, sNil, sAsg, sPar, resD, dV, dC, dOp, dUn, dNot, dAnd, dOr, dNotT, dAndT, dOrT, dB, dIf, dChain, dTup, dCons, dNil, dLst, dLstB, dCB, dCall, dCallK, dImm, dYes, a1, a2, bTup, bLst, bCons, bNil, bName, fSeq, seqOf, fRng1, fRng2, fEn, fZip, zip2, one1, ints1, ints2, asB, asI, negD, addD, subD, modD, ltD, gtD, geD, leD, isND, isnND, intOp, intOpC, lenD_lst, lenD_tup, lenD_frz, len_sD, tupleD, listD, absD, max2D, min2D, allD, isiD, tyN, isiT_tt, isiT_ii, isiT_ib, idxD, lsA, gw, gt, opt_some, opt_none, bd_pu, bd_fl, bd_bd, chk_true, chk_tt, D.imm, D.imms, D.isN, List.map_cons, List.map_nil, List.length_cons, List.length_nil, List.set_cons_zero, List.set_cons_succ, List.getElem?_cons_zero, List.getElem?_cons_succ, List.getElem?_nil, Option.bind_some, Option.bind_none, Option.join_some, Option.join_none, Option.map_some, Bool.and_true, Bool.true_and, Bool.and_false, Bool.false_and, Bool.not_true, Bool.not_false, Bool.false_eq_true, Bool.true_eq_false, if_true, if_false, ite_true, ite_false, List.cons_append, List.nil_append, List.append_nil, Nat.zero_add, Nat.reduceAdd, Nat.reduceSub, Nat.reduceLeDiff, Int.reduceNeg, List.replicate_succ, List.replicate_zero, true_and, and_true, List.length_map, and_pu, or_pu, tand_pu, tor_pu, idx_0, idx_1, if_tt, if_ff, dSl, dNo, dSo, slD, imm_cD, imm_wD, intsD, sAppIx, sExt, sApp, lsD, sFor, seq_sD, eq_str, ne_str, eq_int, ne_int, nc0, nc1, nc2, nc3, nc4, decide_true, decide_false, ne_eq, not_true_eq_false, Int.reduceEq, not_false_eq_true, Bool.or_false, Bool.or_true, Bool.false_or, Bool.true_or, List.all_cons, List.all_nil, id_eq, listRng, chk_pos h0, Int.toNat_natCast, rngD_nI]
    refine EnC.bd (c1 := 40) (c2 := 90) (by decide) (n_shuffled (l0 := List.range ss.length) (by rw [List.length_range, S.len]; exact n40)) ?_
    rintro _ ⟨ol, hp, rfl⟩
    have hol : ol.length = ws.length := by rw [hp.length_eq, List.length_range, S.len]
    simp (decide := true) (implicitDefEqProofs := false) only [bodyD, env0, sSeq, thenF, sIf, sRet, sRetN, sRetV, sSet, sSetN, sExpr, sNil, sAsg, sPar, resD, dV, dC, dOp, dUn, dNot, dAnd, dOr, dNotT, dAndT, dOrT, dB, dIf, dChain, dTup, dCons, dNil, dLst, dLstB, dCB, dCall, dCallK, dImm, dYes, a1, a2, bTup, bLst, bCons, bNil, bName, fSeq, seqOf, fRng1, fRng2, fEn, fZip, zip2, one1, ints1, ints2, asB, asI, negD, addD, subD, modD, ltD, gtD, geD, leD, isND, isnND, intOp, intOpC, lenD_lst, lenD_tup, lenD_frz, len_sD, tupleD, listD, absD, max2D, min2D, allD, isiD, tyN, isiT_tt, isiT_ii, isiT_ib, idxD, lsA, gw, gt, opt_some, opt_none, bd_pu, bd_fl, bd_bd, chk_true, chk_tt, D.imm, D.imms, D.isN, List.map_cons, List.map_nil, List.length_cons, List.length_nil, List.set_cons_zero, List.set_cons_succ, List.getElem?_cons_zero, List.getElem?_cons_succ, List.getElem?_nil, Option.bind_some, Option.bind_none, Option.join_some, Option.join_none, Option.map_some, Bool.and_true, Bool.true_and, Bool.and_false, Bool.false_and, Bool.not_true, Bool.not_false, Bool.false_eq_true, Bool.true_eq_false, if_true, if_false, ite_true, ite_false, List.cons_append, List.nil_append, List.append_nil, Nat.zero_add, Nat.reduceAdd, Nat.reduceSub, Nat.reduceLeDiff, Int.reduceNeg, List.replicate_succ, List.replicate_zero, true_and, and_true, List.length_map, and_pu, or_pu, tand_pu, tor_pu, idx_0, idx_1, if_tt, if_ff, dSl, dNo, dSo, slD, imm_cD, imm_wD, intsD, sAppIx, sExt, sApp, lsD, sFor, seq_sD, eq_str, ne_str, eq_int, ne_int, nc0, nc1, nc2, nc3, nc4, decide_true, decide_false, ne_eq, not_true_eq_false, Int.reduceEq, not_false_eq_true, Bool.or_false, Bool.or_true, Bool.false_or, Bool.true_or, List.all_cons, List.all_nil, id_eq, imms_int]
    refine EnC.wk (EnC.mono (c1 := 2 * ((nI ol).map D.int).length) (by unfold nI; rw [List.length_map, List.length_map, hol]; omega) (EnC.for (c := 2) (fun _ δ => ∃ (s' : List Int) (x y z u : Option D), VS ws cs s' ∧ δ = [some .src, some (yD ws cs), some (.tup (ss.map D.int)), some (.lst (s'.map D.int)), x, y, z, u]) _ _ 0 ⟨s', _, _, _, _, S', rfl⟩ ?_)) fun r h => h
    rintro j d δ hd ⟨s', x, y, z, u, S', rfl⟩
    obtain ⟨vi, hvi, rfl⟩ := map_at D.int (nI ol) hd
    obtain ⟨v, hv, rfl⟩ : ∃ v : Nat, ol[j]? = some v ∧ vi = v := by
      unfold nI at hvi
      rw [List.getElem?_map] at hvi
      obtain ⟨v, h1, h2⟩ := Option.map_eq_some_iff.mp hvi
      exact ⟨v, h1, h2.symm⟩
    have hvl : v < ws.length := by
      have := List.mem_range.mp (hp.mem_iff.mp (List.mem_of_getElem? hv))
      rw [S.len] at this
      exact this
    have hvs : v < s'.length := by rw [S'.len]; exact hvl
    simp (decide := true) (implicitDefEqProofs := false) only [bodyD, env0, sSeq, thenF, sIf, sRet, sRetN, sRetV, sSet, sSetN, sExpr, sNil, sAsg, sPar, resD, dV, dC, dOp, dUn, dNot, dAnd, dOr, dNotT, dAndT, dOrT, dB, dIf, dChain, dTup, dCons, dNil, dLst, dLstB, dCB, dCall, dCallK, dImm, dYes, a1, a2, bTup, bLst, bCons, bNil, bName, fSeq, seqOf, fRng1, fRng2, fEn, fZip, zip2, one1, ints1, ints2, asB, asI, negD, addD, subD, modD, ltD, gtD, geD, leD, isND, isnND, intOp, intOpC, lenD_lst, lenD_tup, lenD_frz, len_sD, tupleD, listD, absD, max2D, min2D, allD, isiD, tyN, isiT_tt, isiT_ii, isiT_ib, idxD, lsA, gw, gt, opt_some, opt_none, bd_pu, bd_fl, bd_bd, chk_true, chk_tt, D.imm, D.imms, D.isN, List.map_cons, List.map_nil, List.length_cons, List.length_nil, List.set_cons_zero, List.set_cons_succ, List.getElem?_cons_zero, List.getElem?_cons_succ, List.getElem?_nil, Option.bind_some, Option.bind_none, Option.join_some, Option.join_none, Option.map_some, Bool.and_true, Bool.true_and, Bool.and_false, Bool.false_and, Bool.not_true, Bool.not_false, Bool.false_eq_true, Bool.true_eq_false, if_true, if_false, ite_true, ite_false, List.cons_append, List.nil_append, List.append_nil, Nat.zero_add, Nat.reduceAdd, Nat.reduceSub, Nat.reduceLeDiff, Int.reduceNeg, List.replicate_succ, List.replicate_zero, true_and, and_true, List.length_map, and_pu, or_pu, tand_pu, tor_pu, idx_0, idx_1, if_tt, if_ff, dSl, dNo, dSo, slD, imm_cD, imm_wD, intsD, sAppIx, sExt, sApp, lsD, sFor, seq_sD, eq_str, ne_str, eq_int, ne_int, nc0, nc1, nc2, nc3, nc4, decide_true, decide_false, ne_eq, not_true_eq_false, Int.reduceEq, not_false_eq_true, Bool.or_false, Bool.or_true, Bool.false_or, Bool.true_or, List.all_cons, List.all_nil, id_eq]
    refine EnC.bd (c1 := 0) (c2 := 2) (by decide) (n_room V S' hvl) ?_
    rintro _ ⟨lo, hi, rfl, R⟩
    have g1 : 0 < hi - lo + 1 := by have := R.at_; omega
    have g2 : hi - lo + 1 < 2 ^ 40 := by
      have := R.wal _ (getW hvl)
      have w0 := V.wok _ (List.mem_of_getElem? (getW hvl))
      omega
    simp (decide := true) (implicitDefEqProofs := false) only [bodyD, env0, sSeq, thenF, sIf, sRet, sRetN, sRetV, sSet, sSetN, sExpr, sNil, sAsg, sPar, resD, dV, dC, dOp, dUn, dNot, dAnd, dOr, dNotT, dAndT, dOrT, dB, dIf, dChain, dTup, dCons, dNil, dLst, dLstB, dCB, dCall, dCallK, dImm, dYes, a1, a2, bTup, bLst, bCons, bNil, bName, fSeq, seqOf, fRng1, fRng2, fEn, fZip, zip2, one1, ints1, ints2, asB, asI, negD, addD, subD, modD, ltD, gtD, geD, leD, isND, isnND, intOp, intOpC, lenD_lst, lenD_tup, lenD_frz, len_sD, tupleD, listD, absD, max2D, min2D, allD, isiD, tyN, isiT_tt, isiT_ii, isiT_ib, idxD, lsA, gw, gt, opt_some, opt_none, bd_pu, bd_fl, bd_bd, chk_true, chk_tt, D.imm, D.imms, D.isN, List.map_cons, List.map_nil, List.length_cons, List.length_nil, List.set_cons_zero, List.set_cons_succ, List.getElem?_cons_zero, List.getElem?_cons_succ, List.getElem?_nil, Option.bind_some, Option.bind_none, Option.join_some, Option.join_none, Option.map_some, Bool.and_true, Bool.true_and, Bool.and_false, Bool.false_and, Bool.not_true, Bool.not_false, Bool.false_eq_true, Bool.true_eq_false, if_true, if_false, ite_true, ite_false, List.cons_append, List.nil_append, List.append_nil, Nat.zero_add, Nat.reduceAdd, Nat.reduceSub, Nat.reduceLeDiff, Int.reduceNeg, List.replicate_succ, List.replicate_zero, true_and, and_true, List.length_map, and_pu, or_pu, tand_pu, tor_pu, idx_0, idx_1, if_tt, if_ff, dSl, dNo, dSo, slD, imm_cD, imm_wD, intsD, sAppIx, sExt, sApp, lsD, sFor, seq_sD, eq_str, ne_str, eq_int, ne_int, nc0, nc1, nc2, nc3, nc4, decide_true, decide_false, ne_eq, not_true_eq_false, Int.reduceEq, not_false_eq_true, Bool.or_false, Bool.or_true, Bool.false_or, Bool.true_or, List.all_cons, List.all_nil, id_eq, sPut, idx_int hvs]
    refine EnC.bd (c1 := 1) (c2 := 1) (by decide) (n_next g1 g2) ?_
    rintro _ ⟨r, rfl, r0, r1⟩
    simp (decide := true) (implicitDefEqProofs := false) only [bodyD, env0, sSeq, thenF, sIf, sRet, sRetN, sRetV, sSet, sSetN, sExpr, sNil, sAsg, sPar, resD, dV, dC, dOp, dUn, dNot, dAnd, dOr, dNotT, dAndT, dOrT, dB, dIf, dChain, dTup, dCons, dNil, dLst, dLstB, dCB, dCall, dCallK, dImm, dYes, a1, a2, bTup, bLst, bCons, bNil, bName, fSeq, seqOf, fRng1, fRng2, fEn, fZip, zip2, one1, ints1, ints2, asB, asI, negD, addD, subD, modD, ltD, gtD, geD, leD, isND, isnND, intOp, intOpC, lenD_lst, lenD_tup, lenD_frz, len_sD, tupleD, listD, absD, max2D, min2D, allD, isiD, tyN, isiT_tt, isiT_ii, isiT_ib, idxD, lsA, gw, gt, opt_some, opt_none, bd_pu, bd_fl, bd_bd, chk_true, chk_tt, D.imm, D.imms, D.isN, List.map_cons, List.map_nil, List.length_cons, List.length_nil, List.set_cons_zero, List.set_cons_succ, List.getElem?_cons_zero, List.getElem?_cons_succ, List.getElem?_nil, Option.bind_some, Option.bind_none, Option.join_some, Option.join_none, Option.map_some, Bool.and_true, Bool.true_and, Bool.and_false, Bool.false_and, Bool.not_true, Bool.not_false, Bool.false_eq_true, Bool.true_eq_false, if_true, if_false, ite_true, ite_false, List.cons_append, List.nil_append, List.append_nil, Nat.zero_add, Nat.reduceAdd, Nat.reduceSub, Nat.reduceLeDiff, Int.reduceNeg, List.replicate_succ, List.replicate_zero, true_and, and_true, List.length_map, and_pu, or_pu, tand_pu, tor_pu, idx_0, idx_1, if_tt, if_ff, dSl, dNo, dSo, slD, imm_cD, imm_wD, intsD, sAppIx, sExt, sApp, lsD, sFor, seq_sD, eq_str, ne_str, eq_int, ne_int, nc0, nc1, nc2, nc3, nc4, decide_true, decide_false, ne_eq, not_true_eq_false, Int.reduceEq, not_false_eq_true, Bool.or_false, Bool.or_true, Bool.false_or, Bool.true_or, List.all_cons, List.all_nil, id_eq]
    refine EnC.bd (c1 := 1) (c2 := 0) (by decide) (n_of4 lo hi (s'.getD v 0) (lo + r)) ?_
    rintro _ ⟨x1, hx1, rfl⟩
    simp (decide := true) (implicitDefEqProofs := false) only [bodyD, env0, sSeq, thenF, sIf, sRet, sRetN, sRetV, sSet, sSetN, sExpr, sNil, sAsg, sPar, resD, dV, dC, dOp, dUn, dNot, dAnd, dOr, dNotT, dAndT, dOrT, dB, dIf, dChain, dTup, dCons, dNil, dLst, dLstB, dCB, dCall, dCallK, dImm, dYes, a1, a2, bTup, bLst, bCons, bNil, bName, fSeq, seqOf, fRng1, fRng2, fEn, fZip, zip2, one1, ints1, ints2, asB, asI, negD, addD, subD, modD, ltD, gtD, geD, leD, isND, isnND, intOp, intOpC, lenD_lst, lenD_tup, lenD_frz, len_sD, tupleD, listD, absD, max2D, min2D, allD, isiD, tyN, isiT_tt, isiT_ii, isiT_ib, idxD, lsA, gw, gt, opt_some, opt_none, bd_pu, bd_fl, bd_bd, chk_true, chk_tt, D.imm, D.imms, D.isN, List.map_cons, List.map_nil, List.length_cons, List.length_nil, List.set_cons_zero, List.set_cons_succ, List.getElem?_cons_zero, List.getElem?_cons_succ, List.getElem?_nil, Option.bind_some, Option.bind_none, Option.join_some, Option.join_none, Option.map_some, Bool.and_true, Bool.true_and, Bool.and_false, Bool.false_and, Bool.not_true, Bool.not_false, Bool.false_eq_true, Bool.true_eq_false, if_true, if_false, ite_true, ite_false, List.cons_append, List.nil_append, List.append_nil, Nat.zero_add, Nat.reduceAdd, Nat.reduceSub, Nat.reduceLeDiff, Int.reduceNeg, List.replicate_succ, List.replicate_zero, true_and, and_true, List.length_map, and_pu, or_pu, tand_pu, tor_pu, idx_0, idx_1, if_tt, if_ff, dSl, dNo, dSo, slD, imm_cD, imm_wD, intsD, sAppIx, sExt, sApp, lsD, sFor, seq_sD, eq_str, ne_str, eq_int, ne_int, nc0, nc1, nc2, nc3, nc4, decide_true, decide_false, ne_eq, not_true_eq_false, Int.reduceEq, not_false_eq_true, Bool.or_false, Bool.or_true, Bool.false_or, Bool.true_or, List.all_cons, List.all_nil, id_eq, ixN_nat hvs, setm, imms_int]
    have hx2 : lo ≤ x1 ∧ x1 ≤ hi := by have := R.at_; omega
    exact EnC.pu ⟨_, rfl, _, _, _, _, _, R.set V S' hvl hx2.1 hx2.2, rfl⟩
  · rintro δ' ⟨s', x, y, z, u, S', rfl⟩
    simp (decide := true) (implicitDefEqProofs := false) only [bodyD, env0, sSeq, thenF, sIf, sRet, sRetN, sRetV, sSet, sSetN, sExpr, sNil, sAsg, sPar, resD, dV, dC, dOp, dUn, dNot, dAnd, dOr, dNotT, dAndT, dOrT, dB, dIf, dChain, dTup, dCons, dNil, dLst, dLstB, dCB, dCall, dCallK, dImm, dYes, a1, a2, bTup, bLst, bCons, bNil, bName, fSeq, seqOf, fRng1, fRng2, fEn, fZip, zip2, one1, ints1, ints2, asB, asI, negD, addD, subD, modD, ltD, gtD, geD, leD, isND, isnND, intOp, intOpC, lenD_lst, lenD_tup, lenD_frz, len_sD, tupleD, listD, absD, max2D, min2D, allD, isiD, tyN, isiT_tt, isiT_ii, isiT_ib, idxD, lsA, gw, gt, opt_some, opt_none, bd_pu, bd_fl, bd_bd, chk_true, chk_tt, D.imm, D.imms, D.isN, List.map_cons, List.map_nil, List.length_cons, List.length_nil, List.set_cons_zero, List.set_cons_succ, List.getElem?_cons_zero, List.getElem?_cons_succ, List.getElem?_nil, Option.bind_some, Option.bind_none, Option.join_some, Option.join_none, Option.map_some, Bool.and_true, Bool.true_and, Bool.and_false, Bool.false_and, Bool.not_true, Bool.not_false, Bool.false_eq_true, Bool.true_eq_false, if_true, if_false, ite_true, ite_false, List.cons_append, List.nil_append, List.append_nil, Nat.zero_add, Nat.reduceAdd, Nat.reduceSub, Nat.reduceLeDiff, Int.reduceNeg, List.replicate_succ, List.replicate_zero, true_and, and_true, List.length_map, and_pu, or_pu, tand_pu, tor_pu, idx_0, idx_1, if_tt, if_ff, dSl, dNo, dSo, slD, imm_cD, imm_wD, intsD, sAppIx, sExt, sApp, lsD, sFor, seq_sD, eq_str, ne_str, eq_int, ne_int, nc0, nc1, nc2, nc3, nc4, decide_true, decide_false, ne_eq, not_true_eq_false, Int.reduceEq, not_false_eq_true, Bool.or_false, Bool.or_true, Bool.false_or, Bool.true_or, List.all_cons, List.all_nil, id_eq, imms_int]
    exact EnC.pu ⟨s', rfl, S'⟩
end DB
namespace CY
open PySem L2 DL
/-! ### what is small enough to be shown -/
theorem roks_int : ∀ {l : List Int}, (∀ v ∈ l, v.natAbs < 10 ^ 30) → roks (l.map D.int) = true
  | [], _ => rfl
  | v :: l, h => by
    simp only [List.map_cons, roks, rok, Bool.and_eq_true, decide_eq_true_eq]
    exact ⟨h v List.mem_cons_self, roks_int fun u hu => h u (List.mem_cons_of_mem _ hu)⟩
theorem wts_int : ∀ (l : List Int), wts (l.map D.int) = 102 * l.length
  | [] => rfl
  | v :: l => by simp only [List.map_cons, wts, wt, wts_int l, List.length_cons]; omega
theorem dpts_int : ∀ (l : List Int), dpts (l.map D.int) = 0
  | [] => rfl
  | v :: l => by simp only [List.map_cons, dpts, dpt, dpts_int l]; rfl
theorem roks_wD : ∀ {l : List (Int × Int)}, (∀ w ∈ l, w.1.natAbs < 10 ^ 30 ∧ w.2.natAbs < 10 ^ 30) → roks (l.map wD) = true
  | [], _ => rfl
  | v :: l, h => by
    have h0 := h v List.mem_cons_self
    simp only [List.map_cons, roks, rok, wD, Bool.and_eq_true, decide_eq_true_eq]
    exact ⟨⟨h0.1, h0.2, trivial⟩, roks_wD fun u hu => h u (List.mem_cons_of_mem _ hu)⟩
theorem wts_wD : ∀ (l : List (Int × Int)), wts (l.map wD) = 205 * l.length
  | [] => rfl
  | v :: l => by simp only [List.map_cons, wts, wt, wD, wts_wD l, List.length_cons]; omega
theorem dpts_wD : ∀ (l : List (Int × Int)), dpts (l.map wD) ≤ 1
  | [] => by decide
  | v :: l => by
    have := dpts_wD l
    simp only [List.map_cons, dpts, dpt, wD]
    omega
theorem roks_cD : ∀ {l : List Cp}, (∀ c ∈ l, c.i < 1000 ∧ c.j < 1000 ∧ c.lo.natAbs < 10 ^ 30 ∧ c.hi.natAbs < 10 ^ 30) → roks (l.map cD) = true
  | [], _ => rfl
  | v :: l, h => by
    have h0 := h v List.mem_cons_self
    simp only [List.map_cons, roks, rok, cD, Bool.and_eq_true, decide_eq_true_eq]
    exact ⟨⟨by omega, by omega, h0.2.2.1, h0.2.2.2, trivial⟩, roks_cD fun u hu => h u (List.mem_cons_of_mem _ hu)⟩
theorem wts_cD : ∀ (l : List Cp), wts (l.map cD) = 409 * l.length
  | [] => rfl
  | v :: l => by simp only [List.map_cons, wts, wt, cD, wts_cD l, List.length_cons]; omega
theorem dpts_cD : ∀ (l : List Cp), dpts (l.map cD) ≤ 1
  | [] => by decide
  | v :: l => by
    have := dpts_cD l
    simp only [List.map_cons, dpts, dpt, cD]
    omega
theorem VS.small {ws : List (Int × Int)} {cs : List Cp} {ss : List Int} (V : VY ws cs) (S : VS ws cs ss) : ∀ v ∈ ss, v.natAbs ≤ 1000000000 := fun v hv => by
  obtain ⟨k, hk⟩ := List.mem_iff_getElem?.mp hv
  have hl : k < ws.length := by rw [← S.len]; exact (List.getElem?_eq_some_iff.mp hk).1
  have h1 := S.wal k _ (getW hl)
  have h2 := V.wok _ (List.mem_of_getElem? (getW hl))
  have h3 : ss.getD k 0 = v := by rw [List.getD_eq_getElem?_getD, hk]; rfl
  rw [h3] at h1
  omega
theorem rok_sD {ws : List (Int × Int)} {cs : List Cp} {ss : List Int} (V : VY ws cs) (S : VS ws cs ss) : rok (sD ss) = true ∧ wt (sD ss) ≤ 5000 ∧ dpt (sD ss) = 1 := by
  refine ⟨?_, ?_, ?_⟩
  · show roks (ss.map D.int) = true
    exact roks_int fun v hv => Nat.lt_of_le_of_lt (VS.small V S v hv) (by decide)
  · show wts (ss.map D.int) ≤ 5000
    rw [wts_int]
    have := S.len
    have := V.n40
    omega
  · show dpts (ss.map D.int) + 1 = 1
    rw [dpts_int]
theorem rok_yD {ws : List (Int × Int)} {cs : List Cp} (V : VY ws cs) : rok (yD ws cs) = true ∧ wt (yD ws cs) ≤ 30000 ∧ dpt (yD ws cs) ≤ 5 := by
  have n40 := V.n40
  have few := V.few
  refine ⟨?_, ?_, ?_⟩
  · have h1 : roks (ws.map wD) = true := roks_wD fun w hw => by have := V.wok w hw; omega
    have h2 : roks (cs.map cD) = true := roks_cD fun c hc => by have := V.cok c hc; omega
    show (rok (.tup (ws.map wD)) && (rok (.tup (cs.map cD)) && true)) = true
    show (roks (ws.map wD) && (roks (cs.map cD) && true)) = true
    rw [h1, h2]
    rfl
  · show wts (ws.map wD) + 1 + (wts (cs.map cD) + 1 + 0) ≤ 30000
    rw [wts_wD, wts_cD]
    omega
  · have := dpts_wD ws
    have := dpts_cD cs
    show max (dpts (ws.map wD) + 1) (max (dpts (cs.map cD) + 1) 0) + 1 ≤ 5
    omega
theorem roks_sD {ws : List (Int × Int)} {cs : List Cp} (V : VY ws cs) : ∀ {rows : List (List Int)}, (∀ r ∈ rows, VS ws cs r) → roks (rows.map sD) = true ∧ wts (rows.map sD) ≤ 5001 * rows.length ∧ dpts (rows.map sD) ≤ 1
  | [], _ => ⟨rfl, by decide, by decide⟩
  | r :: rows, h => by
    obtain ⟨a1, a2, a3⟩ := rok_sD V (h r List.mem_cons_self)
    obtain ⟨b1, b2, b3⟩ := roks_sD V (rows := rows) fun r hr => h r (List.mem_cons_of_mem _ hr)
    refine ⟨?_, ?_, ?_⟩
    · show (rok (sD r) && roks (rows.map sD)) = true
      rw [a1, b1]; rfl
    · show wt (sD r) + 1 + wts (rows.map sD) ≤ 5001 * (rows.length + 1)
      omega
    · show max (dpt (sD r)) (dpts (rows.map sD)) ≤ 1
      omega
/-- repr of a list of arrangements -/
theorem e_reprS {ws : List (Int × Int)} {cs : List Cp} {rows : List (List Int)} (V : VY ws cs) (h : ∀ r ∈ rows, VS ws cs r) (hl : rows.length ≤ 50) : reprD (.lst (rows.map sD)) = pu (.str (shD (.lst (rows.map sD)))) := by
  obtain ⟨b1, b2, b3⟩ := roks_sD V h
  exact e_repr b1 (by show dpts _ + 1 ≤ 60; omega) (by show wts _ ≤ 500000; omega)
theorem e_reprL {ws : List (Int × Int)} {cs : List Cp} {rows : List (List Int)} (V : VY ws cs) (h : ∀ r ∈ rows, VS ws cs r) (hl : rows.length ≤ 50) : reprD (.lst [yD ws cs, .lst (rows.map sD)]) = pu (.str (shD (.lst [yD ws cs, .lst (rows.map sD)]))) := by
  obtain ⟨b1, b2, b3⟩ := roks_sD V h
  obtain ⟨a1, a2, a3⟩ := rok_yD V
  refine e_repr ?_ ?_ ?_
  · show (rok (yD ws cs) && (roks (rows.map sD) && true)) = true
    rw [a1, b1]; rfl
  · show max (dpt (yD ws cs)) (max (dpts (rows.map sD) + 1) 0) + 1 ≤ 60
    omega
  · show wt (yD ws cs) + 1 + (wts (rows.map sD) + 1 + 0) ≤ 500000
    omega
theorem e_reprI {l : List Int} (h : ∀ v ∈ l, v.natAbs < 10 ^ 30) (hl : l.length ≤ 50) : reprD (.lst (l.map D.int)) = pu (.str (shD (.lst (l.map D.int)))) := by
  refine e_repr (roks_int h) ?_ ?_
  · show dpts (l.map D.int) + 1 ≤ 60
    rw [dpts_int]
    decide
  · show wts (l.map D.int) ≤ 500000
    rw [wts_int]
    omega
/-! ### minima and distances, place by place -/
theorem getD_rng (f : Nat → Int) {n v : Nat} (h : v < n) : ((List.range n).map f).getD v 0 = f v := by
  rw [List.getD_eq_getElem?_getD, List.getElem?_map, List.getElem?_range h]
  rfl
theorem mnv_len (n : Nat) (rows : List (List Int)) : (mnv n rows).length = n := by unfold mnv; rw [List.length_map, List.length_range]
theorem mxv_len (n : Nat) (rows : List (List Int)) : (mxv n rows).length = n := by unfold mxv; rw [List.length_map, List.length_range]
theorem mnv_at {n v : Nat} {rows : List (List Int)} (h : v < n) : (mnv n rows).getD v 0 = lmin (rows.map fun r => r.getD v 0) := getD_rng _ h
theorem mxv_at {n v : Nat} {rows : List (List Int)} (h : v < n) : (mxv n rows).getD v 0 = lmax (rows.map fun r => r.getD v 0) := getD_rng _ h
theorem mnv_vs {ws : List (Int × Int)} {cs : List Cp} {rows : List (List Int)} (V : VY ws cs) (h : ∀ r ∈ rows, VS ws cs r) (h0 : rows ≠ []) : VS ws cs (mnv ws.length rows) := by
  have pick : ∀ v, ∃ r ∈ rows, lmin (rows.map fun r => r.getD v 0) = r.getD v 0 ∧ ∀ q ∈ rows, lmin (rows.map fun r => r.getD v 0) ≤ q.getD v 0 := fun v => by
    obtain ⟨a, b⟩ := lmin_mem (ns := rows.map fun r => r.getD v 0) (fun z => h0 (List.map_eq_nil_iff.mp z))
    obtain ⟨r, hr, e⟩ := List.mem_map.mp a
    exact ⟨r, hr, e.symm, fun q hq => b _ (List.mem_map.mpr ⟨q, hq, rfl⟩)⟩
  refine ⟨mnv_len _ _, fun v w hw => ?_, fun c hc => ?_⟩
  · rw [mnv_at (List.getElem?_eq_some_iff.mp hw).1]
    obtain ⟨r, hr, e, _⟩ := pick v
    rw [e]
    exact (h r hr).wal v w hw
  · have ok := V.cok c hc
    rw [mnv_at (show c.j < ws.length by omega), mnv_at (show c.i < ws.length by omega)]
    obtain ⟨r, hr, e1, f1⟩ := pick c.j
    obtain ⟨q, hq, e2, f2⟩ := pick c.i
    have h1 := (h r hr).cpl c hc
    have h2 := (h q hq).cpl c hc
    have h3 := f1 q hq
    have h4 := f2 r hr
    omega
theorem mxv_vs {ws : List (Int × Int)} {cs : List Cp} {rows : List (List Int)} (V : VY ws cs) (h : ∀ r ∈ rows, VS ws cs r) (h0 : rows ≠ []) : VS ws cs (mxv ws.length rows) := by
  have pick : ∀ v, ∃ r ∈ rows, lmax (rows.map fun r => r.getD v 0) = r.getD v 0 ∧ ∀ q ∈ rows, q.getD v 0 ≤ lmax (rows.map fun r => r.getD v 0) := fun v => by
    obtain ⟨a, b⟩ := lmax_mem (ns := rows.map fun r => r.getD v 0) (fun z => h0 (List.map_eq_nil_iff.mp z))
    obtain ⟨r, hr, e⟩ := List.mem_map.mp a
    exact ⟨r, hr, e.symm, fun q hq => b _ (List.mem_map.mpr ⟨q, hq, rfl⟩)⟩
  refine ⟨mxv_len _ _, fun v w hw => ?_, fun c hc => ?_⟩
  · rw [mxv_at (List.getElem?_eq_some_iff.mp hw).1]
    obtain ⟨r, hr, e, _⟩ := pick v
    rw [e]
    exact (h r hr).wal v w hw
  · have ok := V.cok c hc
    rw [mxv_at (show c.j < ws.length by omega), mxv_at (show c.i < ws.length by omega)]
    obtain ⟨r, hr, e1, f1⟩ := pick c.j
    obtain ⟨q, hq, e2, f2⟩ := pick c.i
    have h1 := (h r hr).cpl c hc
    have h2 := (h q hq).cpl c hc
    have h3 := f1 q hq
    have h4 := f2 r hr
    omega
theorem mnv_same {n : Nat} {rows rows' : List (List Int)} (h0 : rows ≠ []) (h : ∀ r, r ∈ rows ↔ r ∈ rows') : mnv n rows' = mnv n rows := by
  unfold mnv
  refine List.map_congr_left fun v _ => ?_
  obtain ⟨a, b⟩ := lmin_mem (ns := rows.map fun r => r.getD v 0) (fun z => h0 (List.map_eq_nil_iff.mp z))
  refine lmin_eq ?_ fun y hy => ?_
  · obtain ⟨r, hr, e⟩ := List.mem_map.mp a
    exact List.mem_map.mpr ⟨r, (h r).mp hr, e⟩
  · obtain ⟨r, hr, rfl⟩ := List.mem_map.mp hy
    exact b _ (List.mem_map.mpr ⟨r, (h r).mpr hr, rfl⟩)
theorem mxv_same {n : Nat} {rows rows' : List (List Int)} (h0 : rows ≠ []) (h : ∀ r, r ∈ rows ↔ r ∈ rows') : mxv n rows' = mxv n rows := by
  unfold mxv
  refine List.map_congr_left fun v _ => ?_
  obtain ⟨a, b⟩ := lmax_mem (ns := rows.map fun r => r.getD v 0) (fun z => h0 (List.map_eq_nil_iff.mp z))
  refine lmax_eq ?_ fun y hy => ?_
  · obtain ⟨r, hr, e⟩ := List.mem_map.mp a
    exact List.mem_map.mpr ⟨r, (h r).mp hr, e⟩
  · obtain ⟨r, hr, rfl⟩ := List.mem_map.mp hy
    exact b _ (List.mem_map.mpr ⟨r, (h r).mpr hr, rfl⟩)
theorem ext_getD {a b : List Int} {n : Nat} (ha : a.length = n) (hb : b.length = n) (h : ∀ v, v < n → a.getD v 0 = b.getD v 0) : a = b := by
  refine List.ext_getElem (by omega) fun v h1 h2 => ?_
  have := h v (by omega)
  rw [List.getD_eq_getElem?_getD, List.getD_eq_getElem?_getD, List.getElem?_eq_getElem h1, List.getElem?_eq_getElem h2] at this
  exact this
theorem mnv_one {n : Nat} {a : List Int} (h : a.length = n) : mnv n [a] = a := ext_getD (mnv_len _ _) h fun v hv => mnv_at hv
theorem mxv_one {n : Nat} {a : List Int} (h : a.length = n) : mxv n [a] = a := ext_getD (mxv_len _ _) h fun v hv => mxv_at hv
theorem dists_rng {a b : List Int} {n : Nat} (ha : a.length = n) (hb : b.length = n) : dists a b = (List.range n).map fun v => absI (a.getD v 0 - b.getD v 0) := by
  unfold dists
  refine List.ext_getElem (by simp; omega) fun i h1 h2 => ?_
  have hi : i < a.length := by simp at h1; omega
  have hi' : i < b.length := by simp at h1; omega
  simp only [List.getElem_map, List.getElem_zip, List.getElem_range]
  rw [List.getD_eq_getElem?_getD, List.getD_eq_getElem?_getD, List.getElem?_eq_getElem hi, List.getElem?_eq_getElem hi']
  rfl
theorem sum_rng (f g k : Nat → Int) : ∀ (n : Nat), (∀ v, v < n → f v + g v = k v) → ((List.range n).map f).sum + ((List.range n).map g).sum = ((List.range n).map k).sum
  | 0, _ => rfl
  | n + 1, h => by
    have ih := sum_rng f g k n fun v hv => h v (by omega)
    have h0 := h n (by omega)
    rw [List.range_succ, List.map_append, List.map_append, List.map_append, List.sum_append, List.sum_append, List.sum_append]
    simp
    omega
theorem sum_rngL (f g k : Nat → Int) : ∀ (n : Nat), (∀ v, v < n → k v ≤ f v + g v) → ((List.range n).map k).sum ≤ ((List.range n).map f).sum + ((List.range n).map g).sum
  | 0, _ => Int.le_refl _
  | n + 1, h => by
    have ih := sum_rngL f g k n fun v hv => h v (by omega)
    have h0 := h n (by omega)
    rw [List.range_succ, List.map_append, List.map_append, List.map_append, List.sum_append, List.sum_append, List.sum_append]
    simp
    omega
theorem sum_bd (f : Nat → Int) (B : Nat) : ∀ (n : Nat), (∀ v, v < n → (f v).natAbs ≤ B) → (((List.range n).map f).sum).natAbs ≤ B * n
  | 0, _ => by simp
  | n + 1, h => by
    have ih := sum_bd f B n fun v hv => h v (by omega)
    have h0 := h n (by omega)
    rw [List.range_succ, List.map_append, List.sum_append, Nat.mul_succ]
    simp
    omega
theorem dists_comm {a b : List Int} {n : Nat} (ha : a.length = n) (hb : b.length = n) : dists b a = dists a b := by
  rw [dists_rng hb ha, dists_rng ha hb]
  refine List.map_congr_left fun v _ => ?_
  unfold absI
  split <;> split <;> omega
theorem dists_min {a b : List Int} {n : Nat} (ha : a.length = n) (hb : b.length = n) : (dists a (mnv n [a, b])).sum + (dists (mnv n [a, b]) b).sum = (dists a b).sum := by
  rw [dists_rng ha (mnv_len _ _), dists_rng (mnv_len _ _) hb, dists_rng ha hb]
  refine sum_rng _ _ _ n fun v hv => ?_
  rw [mnv_at hv]
  show absI (a.getD v 0 - min (a.getD v 0) (b.getD v 0)) + absI (min (a.getD v 0) (b.getD v 0) - b.getD v 0) = absI (a.getD v 0 - b.getD v 0)
  unfold absI
  split <;> split <;> split <;> omega
theorem dists_max {a b : List Int} {n : Nat} (ha : a.length = n) (hb : b.length = n) : (dists a (mxv n [a, b])).sum + (dists (mxv n [a, b]) b).sum = (dists a b).sum := by
  rw [dists_rng ha (mxv_len _ _), dists_rng (mxv_len _ _) hb, dists_rng ha hb]
  refine sum_rng _ _ _ n fun v hv => ?_
  rw [mxv_at hv]
  show absI (a.getD v 0 - max (a.getD v 0) (b.getD v 0)) + absI (max (a.getD v 0) (b.getD v 0) - b.getD v 0) = absI (a.getD v 0 - b.getD v 0)
  unfold absI
  split <;> split <;> split <;> omega
theorem dists_mm {a b : List Int} {n : Nat} (ha : a.length = n) (hb : b.length = n) : dists (mnv n [a, b]) (mxv n [a, b]) = dists a b := by
  rw [dists_rng (mnv_len _ _) (mxv_len _ _), dists_rng ha hb]
  refine List.map_congr_left fun v hv => ?_
  rw [mnv_at (List.mem_range.mp hv), mxv_at (List.mem_range.mp hv)]
  show absI (min (a.getD v 0) (b.getD v 0) - max (a.getD v 0) (b.getD v 0)) = absI (a.getD v 0 - b.getD v 0)
  unfold absI
  split <;> split <;> omega
theorem dists_tri {a b c : List Int} {n : Nat} (ha : a.length = n) (hb : b.length = n) (hc : c.length = n) : (dists a c).sum ≤ (dists a b).sum + (dists b c).sum := by
  rw [dists_rng ha hc, dists_rng ha hb, dists_rng hb hc]
  refine sum_rngL _ _ _ n fun v hv => ?_
  unfold absI
  split <;> split <;> split <;> omega
end CY
namespace K08
open PySem L2 DL CY DB
theorem e_min2 {ws : List (Int × Int)} {cs : List Cp} {a b : List Int} (V : VY ws cs) (A : VS ws cs a) (B : VS ws cs b) : F_minimum [yD ws cs, sD a, sD b] = pu (sD (mnv ws.length [a, b])) :=
  e_minimum (rows := [a, b]) V (by intro r hr; simp only [List.mem_cons, List.not_mem_nil, or_false] at hr; rcases hr with rfl | rfl <;> assumption) (fun z => nomatch z) (by show 2 ≤ 100; decide)
theorem e_max2 {ws : List (Int × Int)} {cs : List Cp} {a b : List Int} (V : VY ws cs) (A : VS ws cs a) (B : VS ws cs b) : F_maximum [yD ws cs, sD a, sD b] = pu (sD (mxv ws.length [a, b])) :=
  e_maximum (rows := [a, b]) V (by intro r hr; simp only [List.mem_cons, List.not_mem_nil, or_false] at hr; rcases hr with rfl | rfl <;> assumption) (fun z => nomatch z) (by show 2 ≤ 100; decide)
theorem mul2 (d : D) (h : d.imm = true) : mulD (.lst [d]) (.int 2) = pu (.lst [d, d]) := by
  show chk ((2 : Int) < 2 ^ 63 ∧ -(2 ^ 63) ≤ (2 : Int) ∧ [d].length * (2 : Int).toNat ≤ sizeLine ∧ D.imms [d] = true) (DL.pu (D.lst (List.replicate (2 : Int).toNat [d]).flatten) : DL.W D) = _
  rw [chk_pos ⟨by decide, by decide, by show 1 * 2 ≤ sizeLine; decide, by simp [D.imms, h]⟩]
  rfl
theorem mul2i (a : Int) : mulD (.lst [.int a]) (.int 2) = pu (.lst [.int a, .int a]) := mul2 _ rfl
theorem cat22 (a b c d : Int) : catD (.lst [.int a, .int b]) (.lst [.int c, .int d]) = pu (.lst [.int a, .int b, .int c, .int d]) := by
  show chk (2 + 2 ≤ sizeLine ∧ D.imms [.int a, .int b] = true ∧ D.imms [.int c, .int d] = true) _ = _
  rw [chk_pos ⟨by decide, rfl, rfl⟩]
  rfl
theorem repr4 {a b c d : Int} (h1 : a.natAbs < 10 ^ 30) (h2 : b.natAbs < 10 ^ 30) (h3 : c.natAbs < 10 ^ 30) (h4 : d.natAbs < 10 ^ 30) : reprD (.lst [.int a, .int b, .int c, .int d]) = pu (.str (shD (.lst [.int a, .int b, .int c, .int d]))) :=
  e_reprI (l := [a, b, c, d]) (fun v hv => by simp only [List.mem_cons, List.not_mem_nil, or_false] at hv; rcases hv with rfl | rfl | rfl | rfl <;> assumption) (by show 4 ≤ 50; decide)
theorem pick3 {α : Type} (a b c : α) : DL.pick [2, 1, 0] [a, b, c] = [c, b, a] := rfl
theorem dist_small {ws : List (Int × Int)} {cs : List Cp} {a b : List Int} (V : VY ws cs) (A : VS ws cs a) (B : VS ws cs b) : (∀ v ∈ dists a b, v.natAbs ≤ 2000000000) ∧ (dists a b).sum.natAbs ≤ 2000000000 * 40 := by
  have hf : ∀ v, v < ws.length → (absI (a.getD v 0 - b.getD v 0)).natAbs ≤ 2000000000 := fun v hv => by
    have w0 := V.wok _ (List.mem_of_getElem? (getW hv))
    have wa := A.wal v _ (getW hv)
    have wb := B.wal v _ (getW hv)
    unfold absI
    split <;> omega
  rw [dists_rng A.len B.len]
  refine ⟨fun v hv => ?_, ?_⟩
  · obtain ⟨k, hk, rfl⟩ := List.mem_map.mp hv
    exact hf k (List.mem_range.mp hk)
  · have := sum_bd _ 2000000000 ws.length hf
    have := V.n40
    omega
theorem e_far {ws : List (Int × Int)} {cs : List Cp} {a b : List Int} (V : VY ws cs) (A : VS ws cs a) (B : VS ws cs b) : F__law_far_right [yD ws cs, sD a, sD b] = pu (.bl true) := by
  have n40 := V.n40
  have la : a.length ≤ 40 := by rw [A.len]; exact n40
  have M : VS ws cs (mnv ws.length [a, b]) := mnv_vs V (by intro r hr; simp only [List.mem_cons, List.not_mem_nil, or_false] at hr; rcases hr with rfl | rfl <;> assumption) (fun z => nomatch z)
  have N : VS ws cs (mxv ws.length [a, b]) := mxv_vs V (by intro r hr; simp only [List.mem_cons, List.not_mem_nil, or_false] at hr; rcases hr with rfl | rfl <;> assumption) (fun z => nomatch z)
  have cm := dists_comm A.len B.len
  obtain ⟨sm, su⟩ := dist_small V A B
  have ne : dists a b ≠ [] := List.length_pos_iff.mp (by rw [dists_len, A.len, B.len]; have := V.n1; omega)
  have mx := (lmax_mem ne).1
  have smx := sm _ mx
  have gaps : dLc [7, 8] (fZip (dCons (dV 1) (dCons (dV 2) dNil))) (bTup 2 (bCons (bName 7) (bCons (bName 8) bNil))) dYes (dCB (a1 absD) (dCons (dOp subD (dV 7) (dV 8)) dNil)) [some (yD ws cs), some (sD a), some (sD b), none, none, none, none, none, none] = pu (.lst ((dists a b).map D.int)) := by
    unfold sD
    simp (decide := true) (implicitDefEqProofs := false) only [bodyD, env0, sSeq, thenF, sIf, sRet, sRetN, sRetV, sSet, sSetN, sExpr, sNil, sAsg, sPar, resD, dV, dC, dOp, dUn, dNot, dAnd, dOr, dNotT, dAndT, dOrT, dB, dIf, dChain, dTup, dCons, dNil, dLst, dLstB, dCB, dCall, dCallK, dImm, dYes, a1, a2, bTup, bLst, bCons, bNil, bName, fSeq, seqOf, fRng1, fRng2, fEn, fZip, zip2, one1, ints1, ints2, asB, asI, negD, addD, subD, modD, ltD, gtD, geD, leD, isND, isnND, intOp, intOpC, lenD_lst, lenD_tup, lenD_frz, len_sD, tupleD, listD, absD, max2D, min2D, allD, isiD, tyN, isiT_tt, isiT_ii, isiT_ib, idxD, lsA, gw, gt, opt_some, opt_none, bd_pu, bd_fl, bd_bd, chk_true, chk_tt, D.imm, D.imms, D.isN, List.map_cons, List.map_nil, List.length_cons, List.length_nil, List.set_cons_zero, List.set_cons_succ, List.getElem?_cons_zero, List.getElem?_cons_succ, List.getElem?_nil, Option.bind_some, Option.bind_none, Option.join_some, Option.join_none, Option.map_some, Bool.and_true, Bool.true_and, Bool.and_false, Bool.false_and, Bool.not_true, Bool.not_false, Bool.false_eq_true, Bool.true_eq_false, if_true, if_false, ite_true, ite_false, List.cons_append, List.nil_append, List.append_nil, Nat.zero_add, Nat.reduceAdd, Nat.reduceSub, Nat.reduceLeDiff, Int.reduceNeg, List.replicate_succ, List.replicate_zero, true_and, and_true, List.length_map, and_pu, or_pu, tand_pu, tor_pu, idx_0, idx_1, if_tt, if_ff, dSl, dNo, dSo, slD, imm_cD, imm_wD, intsD, sAppIx, sExt, sApp, lsD, sFor, seq_sD, eq_str, ne_str, eq_int, ne_int, nc0, nc1, nc2, nc3, nc4, decide_true, decide_false, ne_eq, not_true_eq_false, Int.reduceEq, not_false_eq_true, Bool.or_false, Bool.or_true, Bool.false_or, Bool.true_or, List.all_cons, List.all_nil, id_eq, dLc, wipeE, imms_int, zip_D]
    rw [lc_map (fun d => match d with | .tup [.int a, .int b] => D.int (absI (a - b)) | _ => .non) _ (by rw [List.length_map, List.length_zip]; exact small (by omega)) (fun d q => by
      obtain ⟨p, _, rfl⟩ := List.mem_map.mp q
      refine ⟨_, by simp (decide := true) (implicitDefEqProofs := false) only [bodyD, env0, sSeq, thenF, sIf, sRet, sRetN, sRetV, sSet, sSetN, sExpr, sNil, sAsg, sPar, resD, dV, dC, dOp, dUn, dNot, dAnd, dOr, dNotT, dAndT, dOrT, dB, dIf, dChain, dTup, dCons, dNil, dLst, dLstB, dCB, dCall, dCallK, dImm, dYes, a1, a2, bTup, bLst, bCons, bNil, bName, fSeq, seqOf, fRng1, fRng2, fEn, fZip, zip2, one1, ints1, ints2, asB, asI, negD, addD, subD, modD, ltD, gtD, geD, leD, isND, isnND, intOp, intOpC, lenD_lst, lenD_tup, lenD_frz, len_sD, tupleD, listD, absD, max2D, min2D, allD, isiD, tyN, isiT_tt, isiT_ii, isiT_ib, idxD, lsA, gw, gt, opt_some, opt_none, bd_pu, bd_fl, bd_bd, chk_true, chk_tt, D.imm, D.imms, D.isN, List.map_cons, List.map_nil, List.length_cons, List.length_nil, List.set_cons_zero, List.set_cons_succ, List.getElem?_cons_zero, List.getElem?_cons_succ, List.getElem?_nil, Option.bind_some, Option.bind_none, Option.join_some, Option.join_none, Option.map_some, Bool.and_true, Bool.true_and, Bool.and_false, Bool.false_and, Bool.not_true, Bool.not_false, Bool.false_eq_true, Bool.true_eq_false, if_true, if_false, ite_true, ite_false, List.cons_append, List.nil_append, List.append_nil, Nat.zero_add, Nat.reduceAdd, Nat.reduceSub, Nat.reduceLeDiff, Int.reduceNeg, List.replicate_succ, List.replicate_zero, true_and, and_true, List.length_map, and_pu, or_pu, tand_pu, tor_pu, idx_0, idx_1, if_tt, if_ff, dSl, dNo, dSo, slD, imm_cD, imm_wD, intsD, sAppIx, sExt, sApp, lsD, sFor, seq_sD, eq_str, ne_str, eq_int, ne_int, nc0, nc1, nc2, nc3, nc4, decide_true, decide_false, ne_eq, not_true_eq_false, Int.reduceEq, not_false_eq_true, Bool.or_false, Bool.or_true, Bool.false_or, Bool.true_or, List.all_cons, List.all_nil, id_eq]; rfl, ?_, rfl⟩
      simp (decide := true) (implicitDefEqProofs := false) only [bodyD, env0, sSeq, thenF, sIf, sRet, sRetN, sRetV, sSet, sSetN, sExpr, sNil, sAsg, sPar, resD, dV, dC, dOp, dUn, dNot, dAnd, dOr, dNotT, dAndT, dOrT, dB, dIf, dChain, dTup, dCons, dNil, dLst, dLstB, dCB, dCall, dCallK, dImm, dYes, a1, a2, bTup, bLst, bCons, bNil, bName, fSeq, seqOf, fRng1, fRng2, fEn, fZip, zip2, one1, ints1, ints2, asB, asI, negD, addD, subD, modD, ltD, gtD, geD, leD, isND, isnND, intOp, intOpC, lenD_lst, lenD_tup, lenD_frz, len_sD, tupleD, listD, absD, max2D, min2D, allD, isiD, tyN, isiT_tt, isiT_ii, isiT_ib, idxD, lsA, gw, gt, opt_some, opt_none, bd_pu, bd_fl, bd_bd, chk_true, chk_tt, D.imm, D.imms, D.isN, List.map_cons, List.map_nil, List.length_cons, List.length_nil, List.set_cons_zero, List.set_cons_succ, List.getElem?_cons_zero, List.getElem?_cons_succ, List.getElem?_nil, Option.bind_some, Option.bind_none, Option.join_some, Option.join_none, Option.map_some, Bool.and_true, Bool.true_and, Bool.and_false, Bool.false_and, Bool.not_true, Bool.not_false, Bool.false_eq_true, Bool.true_eq_false, if_true, if_false, ite_true, ite_false, List.cons_append, List.nil_append, List.append_nil, Nat.zero_add, Nat.reduceAdd, Nat.reduceSub, Nat.reduceLeDiff, Int.reduceNeg, List.replicate_succ, List.replicate_zero, true_and, and_true, List.length_map, and_pu, or_pu, tand_pu, tor_pu, idx_0, idx_1, if_tt, if_ff, dSl, dNo, dSo, slD, imm_cD, imm_wD, intsD, sAppIx, sExt, sApp, lsD, sFor, seq_sD, eq_str, ne_str, eq_int, ne_int, nc0, nc1, nc2, nc3, nc4, decide_true, decide_false, ne_eq, not_true_eq_false, Int.reduceEq, not_false_eq_true, Bool.or_false, Bool.or_true, Bool.false_or, Bool.true_or, List.all_cons, List.all_nil, id_eq])]
    simp (decide := true) (implicitDefEqProofs := false) only [bodyD, env0, sSeq, thenF, sIf, sRet, sRetN, sRetV, sSet, sSetN, sExpr, sNil, sAsg, sPar, resD, dV, dC, dOp, dUn, dNot, dAnd, dOr, dNotT, dAndT, dOrT, dB, dIf, dChain, dTup, dCons, dNil, dLst, dLstB, dCB, dCall, dCallK, dImm, dYes, a1, a2, bTup, bLst, bCons, bNil, bName, fSeq, seqOf, fRng1, fRng2, fEn, fZip, zip2, one1, ints1, ints2, asB, asI, negD, addD, subD, modD, ltD, gtD, geD, leD, isND, isnND, intOp, intOpC, lenD_lst, lenD_tup, lenD_frz, len_sD, tupleD, listD, absD, max2D, min2D, allD, isiD, tyN, isiT_tt, isiT_ii, isiT_ib, idxD, lsA, gw, gt, opt_some, opt_none, bd_pu, bd_fl, bd_bd, chk_true, chk_tt, D.imm, D.imms, D.isN, List.map_cons, List.map_nil, List.length_cons, List.length_nil, List.set_cons_zero, List.set_cons_succ, List.getElem?_cons_zero, List.getElem?_cons_succ, List.getElem?_nil, Option.bind_some, Option.bind_none, Option.join_some, Option.join_none, Option.map_some, Bool.and_true, Bool.true_and, Bool.and_false, Bool.false_and, Bool.not_true, Bool.not_false, Bool.false_eq_true, Bool.true_eq_false, if_true, if_false, ite_true, ite_false, List.cons_append, List.nil_append, List.append_nil, Nat.zero_add, Nat.reduceAdd, Nat.reduceSub, Nat.reduceLeDiff, Int.reduceNeg, List.replicate_succ, List.replicate_zero, true_and, and_true, List.length_map, and_pu, or_pu, tand_pu, tor_pu, idx_0, idx_1, if_tt, if_ff, dSl, dNo, dSo, slD, imm_cD, imm_wD, intsD, sAppIx, sExt, sApp, lsD, sFor, seq_sD, eq_str, ne_str, eq_int, ne_int, nc0, nc1, nc2, nc3, nc4, decide_true, decide_false, ne_eq, not_true_eq_false, Int.reduceEq, not_false_eq_true, Bool.or_false, Bool.or_true, Bool.false_or, Bool.true_or, List.all_cons, List.all_nil, id_eq]
    unfold dists
    rw [List.map_map, List.map_map]
    rfl
  unfold subD at gaps
  unfold F__law_far_right g__law_far_right
  simp (decide := true) (implicitDefEqProofs := false) only [bodyD, env0, sSeq, thenF, sIf, sRet, sRetN, sRetV, sSet, sSetN, sExpr, sNil, sAsg, sPar, resD, dV, dC, dOp, dUn, dNot, dAnd, dOr, dNotT, dAndT, dOrT, dB, dIf, dChain, dTup, dCons, dNil, dLst, dLstB, dCB, dCall, dCallK, dImm, dYes, a1, a2, bTup, bLst, bCons, bNil, bName, fSeq, seqOf, fRng1, fRng2, fEn, fZip, zip2, one1, ints1, ints2, asB, asI, negD, addD, subD, modD, ltD, gtD, geD, leD, isND, isnND, intOp, intOpC, lenD_lst, lenD_tup, lenD_frz, len_sD, tupleD, listD, absD, max2D, min2D, allD, isiD, tyN, isiT_tt, isiT_ii, isiT_ib, idxD, lsA, gw, gt, opt_some, opt_none, bd_pu, bd_fl, bd_bd, chk_true, chk_tt, D.imm, D.imms, D.isN, List.map_cons, List.map_nil, List.length_cons, List.length_nil, List.set_cons_zero, List.set_cons_succ, List.getElem?_cons_zero, List.getElem?_cons_succ, List.getElem?_nil, Option.bind_some, Option.bind_none, Option.join_some, Option.join_none, Option.map_some, Bool.and_true, Bool.true_and, Bool.and_false, Bool.false_and, Bool.not_true, Bool.not_false, Bool.false_eq_true, Bool.true_eq_false, if_true, if_false, ite_true, ite_false, List.cons_append, List.nil_append, List.append_nil, Nat.zero_add, Nat.reduceAdd, Nat.reduceSub, Nat.reduceLeDiff, Int.reduceNeg, List.replicate_succ, List.replicate_zero, true_and, and_true, List.length_map, and_pu, or_pu, tand_pu, tor_pu, idx_0, idx_1, if_tt, if_ff, dSl, dNo, dSo, slD, imm_cD, imm_wD, intsD, sAppIx, sExt, sApp, lsD, sFor, seq_sD, eq_str, ne_str, eq_int, ne_int, nc0, nc1, nc2, nc3, nc4, decide_true, decide_false, ne_eq, not_true_eq_false, Int.reduceEq, not_false_eq_true, Bool.or_false, Bool.or_true, Bool.false_or, Bool.true_or, List.all_cons, List.all_nil, id_eq, gaps, e_distance V A B, e_distance V B A, e_stretch V A B, e_stretch V B A, pick3, cm, cat22, e_sum, e_maxL ne, mul2i]
  rw [repr4 (by omega) (by omega) (by omega) (by omega)]
  have s1 := dists_min A.len B.len
  have s2 := dists_max A.len B.len
  have s3 := dists_mm A.len B.len
  simp (decide := true) (implicitDefEqProofs := false) only [bodyD, env0, sSeq, thenF, sIf, sRet, sRetN, sRetV, sSet, sSetN, sExpr, sNil, sAsg, sPar, resD, dV, dC, dOp, dUn, dNot, dAnd, dOr, dNotT, dAndT, dOrT, dB, dIf, dChain, dTup, dCons, dNil, dLst, dLstB, dCB, dCall, dCallK, dImm, dYes, a1, a2, bTup, bLst, bCons, bNil, bName, fSeq, seqOf, fRng1, fRng2, fEn, fZip, zip2, one1, ints1, ints2, asB, asI, negD, addD, subD, modD, ltD, gtD, geD, leD, isND, isnND, intOp, intOpC, lenD_lst, lenD_tup, lenD_frz, len_sD, tupleD, listD, absD, max2D, min2D, allD, isiD, tyN, isiT_tt, isiT_ii, isiT_ib, idxD, lsA, gw, gt, opt_some, opt_none, bd_pu, bd_fl, bd_bd, chk_true, chk_tt, D.imm, D.imms, D.isN, List.map_cons, List.map_nil, List.length_cons, List.length_nil, List.set_cons_zero, List.set_cons_succ, List.getElem?_cons_zero, List.getElem?_cons_succ, List.getElem?_nil, Option.bind_some, Option.bind_none, Option.join_some, Option.join_none, Option.map_some, Bool.and_true, Bool.true_and, Bool.and_false, Bool.false_and, Bool.not_true, Bool.not_false, Bool.false_eq_true, Bool.true_eq_false, if_true, if_false, ite_true, ite_false, List.cons_append, List.nil_append, List.append_nil, Nat.zero_add, Nat.reduceAdd, Nat.reduceSub, Nat.reduceLeDiff, Int.reduceNeg, List.replicate_succ, List.replicate_zero, true_and, and_true, List.length_map, and_pu, or_pu, tand_pu, tor_pu, idx_0, idx_1, if_tt, if_ff, dSl, dNo, dSo, slD, imm_cD, imm_wD, intsD, sAppIx, sExt, sApp, lsD, sFor, seq_sD, eq_str, ne_str, eq_int, ne_int, nc0, nc1, nc2, nc3, nc4, decide_true, decide_false, ne_eq, not_true_eq_false, Int.reduceEq, not_false_eq_true, Bool.or_false, Bool.or_true, Bool.false_or, Bool.true_or, List.all_cons, List.all_nil, id_eq, e_min2 V A B, e_max2 V A B, e_distance V A M, e_distance V M B, e_distance V A N, e_distance V N B, e_distance V M N, s1, s2, s3, e_sum]
end K08
namespace K08
open PySem L2 DL CY DB
theorem rowsD_sD {n : Nat} : ∀ {rows : List (List Int)}, (∀ r ∈ rows, r.length = n) → rowsD n (rows.map sD) = some (rows.map fun r => r.map D.int)
  | [], _ => rfl
  | r :: rows, h => by
    show (if (r.map D.int).length = n ∧ D.imms (r.map D.int) = true then (rowsD n (rows.map sD)).map (r.map D.int :: ·) else none) = _
    rw [if_pos ⟨by rw [List.length_map]; exact h r List.mem_cons_self, imms_int r⟩, rowsD_sD fun q hq => h q (List.mem_cons_of_mem _ hq)]
    rfl
theorem rowsD_len {n : Nat} {r : List Int} {rows : List (List Int)} {rs : List (List D)} (h : rowsD n ((r :: rows).map sD) = some rs) : n = r.length := by
  have h2 : (if (r.map D.int).length = n ∧ D.imms (r.map D.int) = true then (rowsD n (rows.map sD)).map (r.map D.int :: ·) else none) = some rs := h
  by_cases c : (r.map D.int).length = n ∧ D.imms (r.map D.int) = true
  · rw [← c.1, List.length_map]
  · rw [if_neg c] at h2
    cases h2
theorem e_zipN {j n : Nat} {fs : DL.Env → DL.W (List D)} {δ : DL.Env} {rows : List (List Int)} (hf : fs δ = pu (rows.map sD)) (h : ∀ r ∈ rows, r.length = n) (h0 : rows ≠ []) (hj : rows.length = j) :
    fZipN j fs δ = pu ((List.range n).map fun v => .tup ((rows.map fun r => r.getD v 0).map D.int)) := by
  unfold fZipN
  rw [hf, bd_pu]
  have ec : (List.range n).map (colD (rows.map fun r => r.map D.int)) = (List.range n).map fun v => .tup ((rows.map fun r => r.getD v 0).map D.int) := by
    refine List.map_congr_left fun v hv => ?_
    have hv := List.mem_range.mp hv
    unfold colD
    rw [List.map_map, List.map_map]
    congr 1
    refine List.map_congr_left fun r hr => ?_
    show (r.map D.int).getD v .non = .int (r.getD v 0)
    rw [List.getD_eq_getElem?_getD, List.getElem?_map, getD_at (α := Int) (by rw [h r hr]; exact hv)]
    rfl
  funext Q X m
  refine propext ⟨fun ⟨n', rs, h1, h2, q⟩ => ?_, fun q => ⟨n, _, rowsD_sD h, by rw [List.length_map]; exact hj, by rw [ec]; exact q⟩⟩
  have hn : n' = n := by
    cases rows with
    | nil => exact absurd rfl h0
    | cons r rows => rw [rowsD_len h1, h r List.mem_cons_self]
  subst hn
  rw [rowsD_sD h] at h1
  cases h1
  rw [ec] at q
  exact q
def tI : D → List Int
  | .tup ds => (intsD ds).getD []
  | _ => []
theorem tI_of (l : List Int) : tI (.tup (l.map D.int)) = l := by
  show (intsD (l.map D.int)).getD [] = l
  rw [intsD_map]
  rfl
theorem lcols {n : Nat} {rows : List (List Int)} (g : List Int → Int) : ((List.range n).map fun v => D.tup ((rows.map fun r => r.getD v 0).map D.int)).map (fun d => D.int (g (tI d))) = ((List.range n).map fun v => g (rows.map fun r => r.getD v 0)).map D.int := by
  rw [List.map_map, List.map_map]
  refine List.map_congr_left fun v _ => ?_
  show D.int (g (tI (.tup ((rows.map fun r => r.getD v 0).map D.int)))) = _
  rw [tI_of]
  rfl
section
variable {n : Nat} {a b c d : List Int} {y r x6 x7 x8 x10 : Option D} (hn : n ≤ 40) (ha : a.length = n) (hb : b.length = n) (hc : c.length = n) (hd : d.length = n)
include hn ha hb hc hd
theorem e_low4 : dLc [9] (fZipN 4 (dCons (dV 2) (dCons (dV 3) (dCons (dV 4) (dCons (dV 5) dNil))))) (bName 9) dYes (dCB (a1 minTD) (dCons (dV 9) dNil)) [y, r, some (sD a), some (sD b), some (sD c), some (sD d), x6, x7, x8, none, x10] = pu (.lst ((mnv n [a, b, c, d]).map D.int)) := by
  simp (decide := true) (implicitDefEqProofs := false) only [bodyD, env0, sSeq, thenF, sIf, sRet, sRetN, sRetV, sSet, sSetN, sExpr, sNil, sAsg, sPar, resD, dV, dC, dOp, dUn, dNot, dAnd, dOr, dNotT, dAndT, dOrT, dB, dIf, dChain, dTup, dCons, dNil, dLst, dLstB, dCB, dCall, dCallK, dImm, dYes, a1, a2, bTup, bLst, bCons, bNil, bName, fSeq, seqOf, fRng1, fRng2, fEn, fZip, zip2, one1, ints1, ints2, asB, asI, negD, addD, subD, modD, ltD, gtD, geD, leD, isND, isnND, intOp, intOpC, lenD_lst, lenD_tup, lenD_frz, len_sD, tupleD, listD, absD, max2D, min2D, allD, isiD, tyN, isiT_tt, isiT_ii, isiT_ib, idxD, lsA, gw, gt, opt_some, opt_none, bd_pu, bd_fl, bd_bd, chk_true, chk_tt, D.imm, D.imms, D.isN, List.map_cons, List.map_nil, List.length_cons, List.length_nil, List.set_cons_zero, List.set_cons_succ, List.getElem?_cons_zero, List.getElem?_cons_succ, List.getElem?_nil, Option.bind_some, Option.bind_none, Option.join_some, Option.join_none, Option.map_some, Bool.and_true, Bool.true_and, Bool.and_false, Bool.false_and, Bool.not_true, Bool.not_false, Bool.false_eq_true, Bool.true_eq_false, if_true, if_false, ite_true, ite_false, List.cons_append, List.nil_append, List.append_nil, Nat.zero_add, Nat.reduceAdd, Nat.reduceSub, Nat.reduceLeDiff, Int.reduceNeg, List.replicate_succ, List.replicate_zero, true_and, and_true, List.length_map, and_pu, or_pu, tand_pu, tor_pu, idx_0, idx_1, if_tt, if_ff, dSl, dNo, dSo, slD, imm_cD, imm_wD, intsD, sAppIx, sExt, sApp, lsD, sFor, seq_sD, eq_str, ne_str, eq_int, ne_int, nc0, nc1, nc2, nc3, nc4, decide_true, decide_false, ne_eq, not_true_eq_false, Int.reduceEq, not_false_eq_true, Bool.or_false, Bool.or_true, Bool.false_or, Bool.true_or, List.all_cons, List.all_nil, id_eq, dLc, wipeE]
  rw [e_zipN (j := 4) (rows := [a, b, c, d]) (n := n) (by simp (decide := true) (implicitDefEqProofs := false) only [bodyD, env0, sSeq, thenF, sIf, sRet, sRetN, sRetV, sSet, sSetN, sExpr, sNil, sAsg, sPar, resD, dV, dC, dOp, dUn, dNot, dAnd, dOr, dNotT, dAndT, dOrT, dB, dIf, dChain, dTup, dCons, dNil, dLst, dLstB, dCB, dCall, dCallK, dImm, dYes, a1, a2, bTup, bLst, bCons, bNil, bName, fSeq, seqOf, fRng1, fRng2, fEn, fZip, zip2, one1, ints1, ints2, asB, asI, negD, addD, subD, modD, ltD, gtD, geD, leD, isND, isnND, intOp, intOpC, lenD_lst, lenD_tup, lenD_frz, len_sD, tupleD, listD, absD, max2D, min2D, allD, isiD, tyN, isiT_tt, isiT_ii, isiT_ib, idxD, lsA, gw, gt, opt_some, opt_none, bd_pu, bd_fl, bd_bd, chk_true, chk_tt, D.imm, D.imms, D.isN, List.map_cons, List.map_nil, List.length_cons, List.length_nil, List.set_cons_zero, List.set_cons_succ, List.getElem?_cons_zero, List.getElem?_cons_succ, List.getElem?_nil, Option.bind_some, Option.bind_none, Option.join_some, Option.join_none, Option.map_some, Bool.and_true, Bool.true_and, Bool.and_false, Bool.false_and, Bool.not_true, Bool.not_false, Bool.false_eq_true, Bool.true_eq_false, if_true, if_false, ite_true, ite_false, List.cons_append, List.nil_append, List.append_nil, Nat.zero_add, Nat.reduceAdd, Nat.reduceSub, Nat.reduceLeDiff, Int.reduceNeg, List.replicate_succ, List.replicate_zero, true_and, and_true, List.length_map, and_pu, or_pu, tand_pu, tor_pu, idx_0, idx_1, if_tt, if_ff, dSl, dNo, dSo, slD, imm_cD, imm_wD, intsD, sAppIx, sExt, sApp, lsD, sFor, seq_sD, eq_str, ne_str, eq_int, ne_int, nc0, nc1, nc2, nc3, nc4, decide_true, decide_false, ne_eq, not_true_eq_false, Int.reduceEq, not_false_eq_true, Bool.or_false, Bool.or_true, Bool.false_or, Bool.true_or, List.all_cons, List.all_nil, id_eq]) (by intro r hr; simp only [List.mem_cons, List.not_mem_nil, or_false] at hr; rcases hr with rfl | rfl | rfl | rfl <;> assumption) (fun z => nomatch z) rfl]
  rw [bd_pu, lc_map (fun d => D.int (lmin (tI d))) _ (by rw [List.length_map, List.length_range]; exact small (by omega)) (fun d q => by
    obtain ⟨v, _, rfl⟩ := List.mem_map.mp q
    rw [tI_of]
    refine ⟨_, by simp (decide := true) (implicitDefEqProofs := false) only [bodyD, env0, sSeq, thenF, sIf, sRet, sRetN, sRetV, sSet, sSetN, sExpr, sNil, sAsg, sPar, resD, dV, dC, dOp, dUn, dNot, dAnd, dOr, dNotT, dAndT, dOrT, dB, dIf, dChain, dTup, dCons, dNil, dLst, dLstB, dCB, dCall, dCallK, dImm, dYes, a1, a2, bTup, bLst, bCons, bNil, bName, fSeq, seqOf, fRng1, fRng2, fEn, fZip, zip2, one1, ints1, ints2, asB, asI, negD, addD, subD, modD, ltD, gtD, geD, leD, isND, isnND, intOp, intOpC, lenD_lst, lenD_tup, lenD_frz, len_sD, tupleD, listD, absD, max2D, min2D, allD, isiD, tyN, isiT_tt, isiT_ii, isiT_ib, idxD, lsA, gw, gt, opt_some, opt_none, bd_pu, bd_fl, bd_bd, chk_true, chk_tt, D.imm, D.imms, D.isN, List.map_cons, List.map_nil, List.length_cons, List.length_nil, List.set_cons_zero, List.set_cons_succ, List.getElem?_cons_zero, List.getElem?_cons_succ, List.getElem?_nil, Option.bind_some, Option.bind_none, Option.join_some, Option.join_none, Option.map_some, Bool.and_true, Bool.true_and, Bool.and_false, Bool.false_and, Bool.not_true, Bool.not_false, Bool.false_eq_true, Bool.true_eq_false, if_true, if_false, ite_true, ite_false, List.cons_append, List.nil_append, List.append_nil, Nat.zero_add, Nat.reduceAdd, Nat.reduceSub, Nat.reduceLeDiff, Int.reduceNeg, List.replicate_succ, List.replicate_zero, true_and, and_true, List.length_map, and_pu, or_pu, tand_pu, tor_pu, idx_0, idx_1, if_tt, if_ff, dSl, dNo, dSo, slD, imm_cD, imm_wD, intsD, sAppIx, sExt, sApp, lsD, sFor, seq_sD, eq_str, ne_str, eq_int, ne_int, nc0, nc1, nc2, nc3, nc4, decide_true, decide_false, ne_eq, not_true_eq_false, Int.reduceEq, not_false_eq_true, Bool.or_false, Bool.or_true, Bool.false_or, Bool.true_or, List.all_cons, List.all_nil, id_eq, imms_int]; rfl, ?_, rfl⟩
    simp (decide := true) (implicitDefEqProofs := false) only [bodyD, env0, sSeq, thenF, sIf, sRet, sRetN, sRetV, sSet, sSetN, sExpr, sNil, sAsg, sPar, resD, dV, dC, dOp, dUn, dNot, dAnd, dOr, dNotT, dAndT, dOrT, dB, dIf, dChain, dTup, dCons, dNil, dLst, dLstB, dCB, dCall, dCallK, dImm, dYes, a1, a2, bTup, bLst, bCons, bNil, bName, fSeq, seqOf, fRng1, fRng2, fEn, fZip, zip2, one1, ints1, ints2, asB, asI, negD, addD, subD, modD, ltD, gtD, geD, leD, isND, isnND, intOp, intOpC, lenD_lst, lenD_tup, lenD_frz, len_sD, tupleD, listD, absD, max2D, min2D, allD, isiD, tyN, isiT_tt, isiT_ii, isiT_ib, idxD, lsA, gw, gt, opt_some, opt_none, bd_pu, bd_fl, bd_bd, chk_true, chk_tt, D.imm, D.imms, D.isN, List.map_cons, List.map_nil, List.length_cons, List.length_nil, List.set_cons_zero, List.set_cons_succ, List.getElem?_cons_zero, List.getElem?_cons_succ, List.getElem?_nil, Option.bind_some, Option.bind_none, Option.join_some, Option.join_none, Option.map_some, Bool.and_true, Bool.true_and, Bool.and_false, Bool.false_and, Bool.not_true, Bool.not_false, Bool.false_eq_true, Bool.true_eq_false, if_true, if_false, ite_true, ite_false, List.cons_append, List.nil_append, List.append_nil, Nat.zero_add, Nat.reduceAdd, Nat.reduceSub, Nat.reduceLeDiff, Int.reduceNeg, List.replicate_succ, List.replicate_zero, true_and, and_true, List.length_map, and_pu, or_pu, tand_pu, tor_pu, idx_0, idx_1, if_tt, if_ff, dSl, dNo, dSo, slD, imm_cD, imm_wD, intsD, sAppIx, sExt, sApp, lsD, sFor, seq_sD, eq_str, ne_str, eq_int, ne_int, nc0, nc1, nc2, nc3, nc4, decide_true, decide_false, ne_eq, not_true_eq_false, Int.reduceEq, not_false_eq_true, Bool.or_false, Bool.or_true, Bool.false_or, Bool.true_or, List.all_cons, List.all_nil, id_eq]
    exact e_minT (ns := [a.getD v 0, b.getD v 0, c.getD v 0, d.getD v 0]) (fun z => nomatch z)), lcols]
  rfl
theorem e_high4 : dLc [9] (fZipN 4 (dCons (dV 2) (dCons (dV 3) (dCons (dV 4) (dCons (dV 5) dNil))))) (bName 9) dYes (dCB (a1 maxTD) (dCons (dV 9) dNil)) [y, r, some (sD a), some (sD b), some (sD c), some (sD d), x6, x7, x8, none, x10] = pu (.lst ((mxv n [a, b, c, d]).map D.int)) := by
  simp (decide := true) (implicitDefEqProofs := false) only [bodyD, env0, sSeq, thenF, sIf, sRet, sRetN, sRetV, sSet, sSetN, sExpr, sNil, sAsg, sPar, resD, dV, dC, dOp, dUn, dNot, dAnd, dOr, dNotT, dAndT, dOrT, dB, dIf, dChain, dTup, dCons, dNil, dLst, dLstB, dCB, dCall, dCallK, dImm, dYes, a1, a2, bTup, bLst, bCons, bNil, bName, fSeq, seqOf, fRng1, fRng2, fEn, fZip, zip2, one1, ints1, ints2, asB, asI, negD, addD, subD, modD, ltD, gtD, geD, leD, isND, isnND, intOp, intOpC, lenD_lst, lenD_tup, lenD_frz, len_sD, tupleD, listD, absD, max2D, min2D, allD, isiD, tyN, isiT_tt, isiT_ii, isiT_ib, idxD, lsA, gw, gt, opt_some, opt_none, bd_pu, bd_fl, bd_bd, chk_true, chk_tt, D.imm, D.imms, D.isN, List.map_cons, List.map_nil, List.length_cons, List.length_nil, List.set_cons_zero, List.set_cons_succ, List.getElem?_cons_zero, List.getElem?_cons_succ, List.getElem?_nil, Option.bind_some, Option.bind_none, Option.join_some, Option.join_none, Option.map_some, Bool.and_true, Bool.true_and, Bool.and_false, Bool.false_and, Bool.not_true, Bool.not_false, Bool.false_eq_true, Bool.true_eq_false, if_true, if_false, ite_true, ite_false, List.cons_append, List.nil_append, List.append_nil, Nat.zero_add, Nat.reduceAdd, Nat.reduceSub, Nat.reduceLeDiff, Int.reduceNeg, List.replicate_succ, List.replicate_zero, true_and, and_true, List.length_map, and_pu, or_pu, tand_pu, tor_pu, idx_0, idx_1, if_tt, if_ff, dSl, dNo, dSo, slD, imm_cD, imm_wD, intsD, sAppIx, sExt, sApp, lsD, sFor, seq_sD, eq_str, ne_str, eq_int, ne_int, nc0, nc1, nc2, nc3, nc4, decide_true, decide_false, ne_eq, not_true_eq_false, Int.reduceEq, not_false_eq_true, Bool.or_false, Bool.or_true, Bool.false_or, Bool.true_or, List.all_cons, List.all_nil, id_eq, dLc, wipeE]
  rw [e_zipN (j := 4) (rows := [a, b, c, d]) (n := n) (by simp (decide := true) (implicitDefEqProofs := false) only [bodyD, env0, sSeq, thenF, sIf, sRet, sRetN, sRetV, sSet, sSetN, sExpr, sNil, sAsg, sPar, resD, dV, dC, dOp, dUn, dNot, dAnd, dOr, dNotT, dAndT, dOrT, dB, dIf, dChain, dTup, dCons, dNil, dLst, dLstB, dCB, dCall, dCallK, dImm, dYes, a1, a2, bTup, bLst, bCons, bNil, bName, fSeq, seqOf, fRng1, fRng2, fEn, fZip, zip2, one1, ints1, ints2, asB, asI, negD, addD, subD, modD, ltD, gtD, geD, leD, isND, isnND, intOp, intOpC, lenD_lst, lenD_tup, lenD_frz, len_sD, tupleD, listD, absD, max2D, min2D, allD, isiD, tyN, isiT_tt, isiT_ii, isiT_ib, idxD, lsA, gw, gt, opt_some, opt_none, bd_pu, bd_fl, bd_bd, chk_true, chk_tt, D.imm, D.imms, D.isN, List.map_cons, List.map_nil, List.length_cons, List.length_nil, List.set_cons_zero, List.set_cons_succ, List.getElem?_cons_zero, List.getElem?_cons_succ, List.getElem?_nil, Option.bind_some, Option.bind_none, Option.join_some, Option.join_none, Option.map_some, Bool.and_true, Bool.true_and, Bool.and_false, Bool.false_and, Bool.not_true, Bool.not_false, Bool.false_eq_true, Bool.true_eq_false, if_true, if_false, ite_true, ite_false, List.cons_append, List.nil_append, List.append_nil, Nat.zero_add, Nat.reduceAdd, Nat.reduceSub, Nat.reduceLeDiff, Int.reduceNeg, List.replicate_succ, List.replicate_zero, true_and, and_true, List.length_map, and_pu, or_pu, tand_pu, tor_pu, idx_0, idx_1, if_tt, if_ff, dSl, dNo, dSo, slD, imm_cD, imm_wD, intsD, sAppIx, sExt, sApp, lsD, sFor, seq_sD, eq_str, ne_str, eq_int, ne_int, nc0, nc1, nc2, nc3, nc4, decide_true, decide_false, ne_eq, not_true_eq_false, Int.reduceEq, not_false_eq_true, Bool.or_false, Bool.or_true, Bool.false_or, Bool.true_or, List.all_cons, List.all_nil, id_eq]) (by intro r hr; simp only [List.mem_cons, List.not_mem_nil, or_false] at hr; rcases hr with rfl | rfl | rfl | rfl <;> assumption) (fun z => nomatch z) rfl]
  rw [bd_pu, lc_map (fun d => D.int (lmax (tI d))) _ (by rw [List.length_map, List.length_range]; exact small (by omega)) (fun d q => by
    obtain ⟨v, _, rfl⟩ := List.mem_map.mp q
    rw [tI_of]
    refine ⟨_, by simp (decide := true) (implicitDefEqProofs := false) only [bodyD, env0, sSeq, thenF, sIf, sRet, sRetN, sRetV, sSet, sSetN, sExpr, sNil, sAsg, sPar, resD, dV, dC, dOp, dUn, dNot, dAnd, dOr, dNotT, dAndT, dOrT, dB, dIf, dChain, dTup, dCons, dNil, dLst, dLstB, dCB, dCall, dCallK, dImm, dYes, a1, a2, bTup, bLst, bCons, bNil, bName, fSeq, seqOf, fRng1, fRng2, fEn, fZip, zip2, one1, ints1, ints2, asB, asI, negD, addD, subD, modD, ltD, gtD, geD, leD, isND, isnND, intOp, intOpC, lenD_lst, lenD_tup, lenD_frz, len_sD, tupleD, listD, absD, max2D, min2D, allD, isiD, tyN, isiT_tt, isiT_ii, isiT_ib, idxD, lsA, gw, gt, opt_some, opt_none, bd_pu, bd_fl, bd_bd, chk_true, chk_tt, D.imm, D.imms, D.isN, List.map_cons, List.map_nil, List.length_cons, List.length_nil, List.set_cons_zero, List.set_cons_succ, List.getElem?_cons_zero, List.getElem?_cons_succ, List.getElem?_nil, Option.bind_some, Option.bind_none, Option.join_some, Option.join_none, Option.map_some, Bool.and_true, Bool.true_and, Bool.and_false, Bool.false_and, Bool.not_true, Bool.not_false, Bool.false_eq_true, Bool.true_eq_false, if_true, if_false, ite_true, ite_false, List.cons_append, List.nil_append, List.append_nil, Nat.zero_add, Nat.reduceAdd, Nat.reduceSub, Nat.reduceLeDiff, Int.reduceNeg, List.replicate_succ, List.replicate_zero, true_and, and_true, List.length_map, and_pu, or_pu, tand_pu, tor_pu, idx_0, idx_1, if_tt, if_ff, dSl, dNo, dSo, slD, imm_cD, imm_wD, intsD, sAppIx, sExt, sApp, lsD, sFor, seq_sD, eq_str, ne_str, eq_int, ne_int, nc0, nc1, nc2, nc3, nc4, decide_true, decide_false, ne_eq, not_true_eq_false, Int.reduceEq, not_false_eq_true, Bool.or_false, Bool.or_true, Bool.false_or, Bool.true_or, List.all_cons, List.all_nil, id_eq, imms_int]; rfl, ?_, rfl⟩
    simp (decide := true) (implicitDefEqProofs := false) only [bodyD, env0, sSeq, thenF, sIf, sRet, sRetN, sRetV, sSet, sSetN, sExpr, sNil, sAsg, sPar, resD, dV, dC, dOp, dUn, dNot, dAnd, dOr, dNotT, dAndT, dOrT, dB, dIf, dChain, dTup, dCons, dNil, dLst, dLstB, dCB, dCall, dCallK, dImm, dYes, a1, a2, bTup, bLst, bCons, bNil, bName, fSeq, seqOf, fRng1, fRng2, fEn, fZip, zip2, one1, ints1, ints2, asB, asI, negD, addD, subD, modD, ltD, gtD, geD, leD, isND, isnND, intOp, intOpC, lenD_lst, lenD_tup, lenD_frz, len_sD, tupleD, listD, absD, max2D, min2D, allD, isiD, tyN, isiT_tt, isiT_ii, isiT_ib, idxD, lsA, gw, gt, opt_some, opt_none, bd_pu, bd_fl, bd_bd, chk_true, chk_tt, D.imm, D.imms, D.isN, List.map_cons, List.map_nil, List.length_cons, List.length_nil, List.set_cons_zero, List.set_cons_succ, List.getElem?_cons_zero, List.getElem?_cons_succ, List.getElem?_nil, Option.bind_some, Option.bind_none, Option.join_some, Option.join_none, Option.map_some, Bool.and_true, Bool.true_and, Bool.and_false, Bool.false_and, Bool.not_true, Bool.not_false, Bool.false_eq_true, Bool.true_eq_false, if_true, if_false, ite_true, ite_false, List.cons_append, List.nil_append, List.append_nil, Nat.zero_add, Nat.reduceAdd, Nat.reduceSub, Nat.reduceLeDiff, Int.reduceNeg, List.replicate_succ, List.replicate_zero, true_and, and_true, List.length_map, and_pu, or_pu, tand_pu, tor_pu, idx_0, idx_1, if_tt, if_ff, dSl, dNo, dSo, slD, imm_cD, imm_wD, intsD, sAppIx, sExt, sApp, lsD, sFor, seq_sD, eq_str, ne_str, eq_int, ne_int, nc0, nc1, nc2, nc3, nc4, decide_true, decide_false, ne_eq, not_true_eq_false, Int.reduceEq, not_false_eq_true, Bool.or_false, Bool.or_true, Bool.false_or, Bool.true_or, List.all_cons, List.all_nil, id_eq]
    exact e_maxT (ns := [a.getD v 0, b.getD v 0, c.getD v 0, d.getD v 0]) (fun z => nomatch z)), lcols]
  rfl
theorem e_low2 : dLc [9] (fZipN 2 (dCons (dV 2) (dCons (dV 3) dNil))) (bName 9) dYes (dCB (a1 minTD) (dCons (dV 9) dNil)) [y, r, some (sD a), some (sD b), some (sD c), some (sD d), x6, x7, x8, none, x10] = pu (.lst ((mnv n [a, b]).map D.int)) := by
  simp (decide := true) (implicitDefEqProofs := false) only [bodyD, env0, sSeq, thenF, sIf, sRet, sRetN, sRetV, sSet, sSetN, sExpr, sNil, sAsg, sPar, resD, dV, dC, dOp, dUn, dNot, dAnd, dOr, dNotT, dAndT, dOrT, dB, dIf, dChain, dTup, dCons, dNil, dLst, dLstB, dCB, dCall, dCallK, dImm, dYes, a1, a2, bTup, bLst, bCons, bNil, bName, fSeq, seqOf, fRng1, fRng2, fEn, fZip, zip2, one1, ints1, ints2, asB, asI, negD, addD, subD, modD, ltD, gtD, geD, leD, isND, isnND, intOp, intOpC, lenD_lst, lenD_tup, lenD_frz, len_sD, tupleD, listD, absD, max2D, min2D, allD, isiD, tyN, isiT_tt, isiT_ii, isiT_ib, idxD, lsA, gw, gt, opt_some, opt_none, bd_pu, bd_fl, bd_bd, chk_true, chk_tt, D.imm, D.imms, D.isN, List.map_cons, List.map_nil, List.length_cons, List.length_nil, List.set_cons_zero, List.set_cons_succ, List.getElem?_cons_zero, List.getElem?_cons_succ, List.getElem?_nil, Option.bind_some, Option.bind_none, Option.join_some, Option.join_none, Option.map_some, Bool.and_true, Bool.true_and, Bool.and_false, Bool.false_and, Bool.not_true, Bool.not_false, Bool.false_eq_true, Bool.true_eq_false, if_true, if_false, ite_true, ite_false, List.cons_append, List.nil_append, List.append_nil, Nat.zero_add, Nat.reduceAdd, Nat.reduceSub, Nat.reduceLeDiff, Int.reduceNeg, List.replicate_succ, List.replicate_zero, true_and, and_true, List.length_map, and_pu, or_pu, tand_pu, tor_pu, idx_0, idx_1, if_tt, if_ff, dSl, dNo, dSo, slD, imm_cD, imm_wD, intsD, sAppIx, sExt, sApp, lsD, sFor, seq_sD, eq_str, ne_str, eq_int, ne_int, nc0, nc1, nc2, nc3, nc4, decide_true, decide_false, ne_eq, not_true_eq_false, Int.reduceEq, not_false_eq_true, Bool.or_false, Bool.or_true, Bool.false_or, Bool.true_or, List.all_cons, List.all_nil, id_eq, dLc, wipeE]
  rw [e_zipN (j := 2) (rows := [a, b]) (n := n) (by simp (decide := true) (implicitDefEqProofs := false) only [bodyD, env0, sSeq, thenF, sIf, sRet, sRetN, sRetV, sSet, sSetN, sExpr, sNil, sAsg, sPar, resD, dV, dC, dOp, dUn, dNot, dAnd, dOr, dNotT, dAndT, dOrT, dB, dIf, dChain, dTup, dCons, dNil, dLst, dLstB, dCB, dCall, dCallK, dImm, dYes, a1, a2, bTup, bLst, bCons, bNil, bName, fSeq, seqOf, fRng1, fRng2, fEn, fZip, zip2, one1, ints1, ints2, asB, asI, negD, addD, subD, modD, ltD, gtD, geD, leD, isND, isnND, intOp, intOpC, lenD_lst, lenD_tup, lenD_frz, len_sD, tupleD, listD, absD, max2D, min2D, allD, isiD, tyN, isiT_tt, isiT_ii, isiT_ib, idxD, lsA, gw, gt, opt_some, opt_none, bd_pu, bd_fl, bd_bd, chk_true, chk_tt, D.imm, D.imms, D.isN, List.map_cons, List.map_nil, List.length_cons, List.length_nil, List.set_cons_zero, List.set_cons_succ, List.getElem?_cons_zero, List.getElem?_cons_succ, List.getElem?_nil, Option.bind_some, Option.bind_none, Option.join_some, Option.join_none, Option.map_some, Bool.and_true, Bool.true_and, Bool.and_false, Bool.false_and, Bool.not_true, Bool.not_false, Bool.false_eq_true, Bool.true_eq_false, if_true, if_false, ite_true, ite_false, List.cons_append, List.nil_append, List.append_nil, Nat.zero_add, Nat.reduceAdd, Nat.reduceSub, Nat.reduceLeDiff, Int.reduceNeg, List.replicate_succ, List.replicate_zero, true_and, and_true, List.length_map, and_pu, or_pu, tand_pu, tor_pu, idx_0, idx_1, if_tt, if_ff, dSl, dNo, dSo, slD, imm_cD, imm_wD, intsD, sAppIx, sExt, sApp, lsD, sFor, seq_sD, eq_str, ne_str, eq_int, ne_int, nc0, nc1, nc2, nc3, nc4, decide_true, decide_false, ne_eq, not_true_eq_false, Int.reduceEq, not_false_eq_true, Bool.or_false, Bool.or_true, Bool.false_or, Bool.true_or, List.all_cons, List.all_nil, id_eq]) (by intro r hr; simp only [List.mem_cons, List.not_mem_nil, or_false] at hr; rcases hr with rfl | rfl <;> assumption) (fun z => nomatch z) rfl]
  rw [bd_pu, lc_map (fun d => D.int (lmin (tI d))) _ (by rw [List.length_map, List.length_range]; exact small (by omega)) (fun d q => by
    obtain ⟨v, _, rfl⟩ := List.mem_map.mp q
    rw [tI_of]
    refine ⟨_, by simp (decide := true) (implicitDefEqProofs := false) only [bodyD, env0, sSeq, thenF, sIf, sRet, sRetN, sRetV, sSet, sSetN, sExpr, sNil, sAsg, sPar, resD, dV, dC, dOp, dUn, dNot, dAnd, dOr, dNotT, dAndT, dOrT, dB, dIf, dChain, dTup, dCons, dNil, dLst, dLstB, dCB, dCall, dCallK, dImm, dYes, a1, a2, bTup, bLst, bCons, bNil, bName, fSeq, seqOf, fRng1, fRng2, fEn, fZip, zip2, one1, ints1, ints2, asB, asI, negD, addD, subD, modD, ltD, gtD, geD, leD, isND, isnND, intOp, intOpC, lenD_lst, lenD_tup, lenD_frz, len_sD, tupleD, listD, absD, max2D, min2D, allD, isiD, tyN, isiT_tt, isiT_ii, isiT_ib, idxD, lsA, gw, gt, opt_some, opt_none, bd_pu, bd_fl, bd_bd, chk_true, chk_tt, D.imm, D.imms, D.isN, List.map_cons, List.map_nil, List.length_cons, List.length_nil, List.set_cons_zero, List.set_cons_succ, List.getElem?_cons_zero, List.getElem?_cons_succ, List.getElem?_nil, Option.bind_some, Option.bind_none, Option.join_some, Option.join_none, Option.map_some, Bool.and_true, Bool.true_and, Bool.and_false, Bool.false_and, Bool.not_true, Bool.not_false, Bool.false_eq_true, Bool.true_eq_false, if_true, if_false, ite_true, ite_false, List.cons_append, List.nil_append, List.append_nil, Nat.zero_add, Nat.reduceAdd, Nat.reduceSub, Nat.reduceLeDiff, Int.reduceNeg, List.replicate_succ, List.replicate_zero, true_and, and_true, List.length_map, and_pu, or_pu, tand_pu, tor_pu, idx_0, idx_1, if_tt, if_ff, dSl, dNo, dSo, slD, imm_cD, imm_wD, intsD, sAppIx, sExt, sApp, lsD, sFor, seq_sD, eq_str, ne_str, eq_int, ne_int, nc0, nc1, nc2, nc3, nc4, decide_true, decide_false, ne_eq, not_true_eq_false, Int.reduceEq, not_false_eq_true, Bool.or_false, Bool.or_true, Bool.false_or, Bool.true_or, List.all_cons, List.all_nil, id_eq, imms_int]; rfl, ?_, rfl⟩
    simp (decide := true) (implicitDefEqProofs := false) only [bodyD, env0, sSeq, thenF, sIf, sRet, sRetN, sRetV, sSet, sSetN, sExpr, sNil, sAsg, sPar, resD, dV, dC, dOp, dUn, dNot, dAnd, dOr, dNotT, dAndT, dOrT, dB, dIf, dChain, dTup, dCons, dNil, dLst, dLstB, dCB, dCall, dCallK, dImm, dYes, a1, a2, bTup, bLst, bCons, bNil, bName, fSeq, seqOf, fRng1, fRng2, fEn, fZip, zip2, one1, ints1, ints2, asB, asI, negD, addD, subD, modD, ltD, gtD, geD, leD, isND, isnND, intOp, intOpC, lenD_lst, lenD_tup, lenD_frz, len_sD, tupleD, listD, absD, max2D, min2D, allD, isiD, tyN, isiT_tt, isiT_ii, isiT_ib, idxD, lsA, gw, gt, opt_some, opt_none, bd_pu, bd_fl, bd_bd, chk_true, chk_tt, D.imm, D.imms, D.isN, List.map_cons, List.map_nil, List.length_cons, List.length_nil, List.set_cons_zero, List.set_cons_succ, List.getElem?_cons_zero, List.getElem?_cons_succ, List.getElem?_nil, Option.bind_some, Option.bind_none, Option.join_some, Option.join_none, Option.map_some, Bool.and_true, Bool.true_and, Bool.and_false, Bool.false_and, Bool.not_true, Bool.not_false, Bool.false_eq_true, Bool.true_eq_false, if_true, if_false, ite_true, ite_false, List.cons_append, List.nil_append, List.append_nil, Nat.zero_add, Nat.reduceAdd, Nat.reduceSub, Nat.reduceLeDiff, Int.reduceNeg, List.replicate_succ, List.replicate_zero, true_and, and_true, List.length_map, and_pu, or_pu, tand_pu, tor_pu, idx_0, idx_1, if_tt, if_ff, dSl, dNo, dSo, slD, imm_cD, imm_wD, intsD, sAppIx, sExt, sApp, lsD, sFor, seq_sD, eq_str, ne_str, eq_int, ne_int, nc0, nc1, nc2, nc3, nc4, decide_true, decide_false, ne_eq, not_true_eq_false, Int.reduceEq, not_false_eq_true, Bool.or_false, Bool.or_true, Bool.false_or, Bool.true_or, List.all_cons, List.all_nil, id_eq]
    exact e_minT (ns := [a.getD v 0, b.getD v 0]) (fun z => nomatch z)), lcols]
  rfl
theorem e_high2 : dLc [9] (fZipN 2 (dCons (dV 2) (dCons (dV 3) dNil))) (bName 9) dYes (dCB (a1 maxTD) (dCons (dV 9) dNil)) [y, r, some (sD a), some (sD b), some (sD c), some (sD d), x6, x7, x8, none, x10] = pu (.lst ((mxv n [a, b]).map D.int)) := by
  simp (decide := true) (implicitDefEqProofs := false) only [bodyD, env0, sSeq, thenF, sIf, sRet, sRetN, sRetV, sSet, sSetN, sExpr, sNil, sAsg, sPar, resD, dV, dC, dOp, dUn, dNot, dAnd, dOr, dNotT, dAndT, dOrT, dB, dIf, dChain, dTup, dCons, dNil, dLst, dLstB, dCB, dCall, dCallK, dImm, dYes, a1, a2, bTup, bLst, bCons, bNil, bName, fSeq, seqOf, fRng1, fRng2, fEn, fZip, zip2, one1, ints1, ints2, asB, asI, negD, addD, subD, modD, ltD, gtD, geD, leD, isND, isnND, intOp, intOpC, lenD_lst, lenD_tup, lenD_frz, len_sD, tupleD, listD, absD, max2D, min2D, allD, isiD, tyN, isiT_tt, isiT_ii, isiT_ib, idxD, lsA, gw, gt, opt_some, opt_none, bd_pu, bd_fl, bd_bd, chk_true, chk_tt, D.imm, D.imms, D.isN, List.map_cons, List.map_nil, List.length_cons, List.length_nil, List.set_cons_zero, List.set_cons_succ, List.getElem?_cons_zero, List.getElem?_cons_succ, List.getElem?_nil, Option.bind_some, Option.bind_none, Option.join_some, Option.join_none, Option.map_some, Bool.and_true, Bool.true_and, Bool.and_false, Bool.false_and, Bool.not_true, Bool.not_false, Bool.false_eq_true, Bool.true_eq_false, if_true, if_false, ite_true, ite_false, List.cons_append, List.nil_append, List.append_nil, Nat.zero_add, Nat.reduceAdd, Nat.reduceSub, Nat.reduceLeDiff, Int.reduceNeg, List.replicate_succ, List.replicate_zero, true_and, and_true, List.length_map, and_pu, or_pu, tand_pu, tor_pu, idx_0, idx_1, if_tt, if_ff, dSl, dNo, dSo, slD, imm_cD, imm_wD, intsD, sAppIx, sExt, sApp, lsD, sFor, seq_sD, eq_str, ne_str, eq_int, ne_int, nc0, nc1, nc2, nc3, nc4, decide_true, decide_false, ne_eq, not_true_eq_false, Int.reduceEq, not_false_eq_true, Bool.or_false, Bool.or_true, Bool.false_or, Bool.true_or, List.all_cons, List.all_nil, id_eq, dLc, wipeE]
  rw [e_zipN (j := 2) (rows := [a, b]) (n := n) (by simp (decide := true) (implicitDefEqProofs := false) only [bodyD, env0, sSeq, thenF, sIf, sRet, sRetN, sRetV, sSet, sSetN, sExpr, sNil, sAsg, sPar, resD, dV, dC, dOp, dUn, dNot, dAnd, dOr, dNotT, dAndT, dOrT, dB, dIf, dChain, dTup, dCons, dNil, dLst, dLstB, dCB, dCall, dCallK, dImm, dYes, a1, a2, bTup, bLst, bCons, bNil, bName, fSeq, seqOf, fRng1, fRng2, fEn, fZip, zip2, one1, ints1, ints2, asB, asI, negD, addD, subD, modD, ltD, gtD, geD, leD, isND, isnND, intOp, intOpC, lenD_lst, lenD_tup, lenD_frz, len_sD, tupleD, listD, absD, max2D, min2D, allD, isiD, tyN, isiT_tt, isiT_ii, isiT_ib, idxD, lsA, gw, gt, opt_some, opt_none, bd_pu, bd_fl, bd_bd, chk_true, chk_tt, D.imm, D.imms, D.isN, List.map_cons, List.map_nil, List.length_cons, List.length_nil, List.set_cons_zero, List.set_cons_succ, List.getElem?_cons_zero, List.getElem?_cons_succ, List.getElem?_nil, Option.bind_some, Option.bind_none, Option.join_some, Option.join_none, Option.map_some, Bool.and_true, Bool.true_and, Bool.and_false, Bool.false_and, Bool.not_true, Bool.not_false, Bool.false_eq_true, Bool.true_eq_false, if_true, if_false, ite_true, ite_false, List.cons_append, List.nil_append, List.append_nil, Nat.zero_add, Nat.reduceAdd, Nat.reduceSub, Nat.reduceLeDiff, Int.reduceNeg, List.replicate_succ, List.replicate_zero, true_and, and_true, List.length_map, and_pu, or_pu, tand_pu, tor_pu, idx_0, idx_1, if_tt, if_ff, dSl, dNo, dSo, slD, imm_cD, imm_wD, intsD, sAppIx, sExt, sApp, lsD, sFor, seq_sD, eq_str, ne_str, eq_int, ne_int, nc0, nc1, nc2, nc3, nc4, decide_true, decide_false, ne_eq, not_true_eq_false, Int.reduceEq, not_false_eq_true, Bool.or_false, Bool.or_true, Bool.false_or, Bool.true_or, List.all_cons, List.all_nil, id_eq]) (by intro r hr; simp only [List.mem_cons, List.not_mem_nil, or_false] at hr; rcases hr with rfl | rfl <;> assumption) (fun z => nomatch z) rfl]
  rw [bd_pu, lc_map (fun d => D.int (lmax (tI d))) _ (by rw [List.length_map, List.length_range]; exact small (by omega)) (fun d q => by
    obtain ⟨v, _, rfl⟩ := List.mem_map.mp q
    rw [tI_of]
    refine ⟨_, by simp (decide := true) (implicitDefEqProofs := false) only [bodyD, env0, sSeq, thenF, sIf, sRet, sRetN, sRetV, sSet, sSetN, sExpr, sNil, sAsg, sPar, resD, dV, dC, dOp, dUn, dNot, dAnd, dOr, dNotT, dAndT, dOrT, dB, dIf, dChain, dTup, dCons, dNil, dLst, dLstB, dCB, dCall, dCallK, dImm, dYes, a1, a2, bTup, bLst, bCons, bNil, bName, fSeq, seqOf, fRng1, fRng2, fEn, fZip, zip2, one1, ints1, ints2, asB, asI, negD, addD, subD, modD, ltD, gtD, geD, leD, isND, isnND, intOp, intOpC, lenD_lst, lenD_tup, lenD_frz, len_sD, tupleD, listD, absD, max2D, min2D, allD, isiD, tyN, isiT_tt, isiT_ii, isiT_ib, idxD, lsA, gw, gt, opt_some, opt_none, bd_pu, bd_fl, bd_bd, chk_true, chk_tt, D.imm, D.imms, D.isN, List.map_cons, List.map_nil, List.length_cons, List.length_nil, List.set_cons_zero, List.set_cons_succ, List.getElem?_cons_zero, List.getElem?_cons_succ, List.getElem?_nil, Option.bind_some, Option.bind_none, Option.join_some, Option.join_none, Option.map_some, Bool.and_true, Bool.true_and, Bool.and_false, Bool.false_and, Bool.not_true, Bool.not_false, Bool.false_eq_true, Bool.true_eq_false, if_true, if_false, ite_true, ite_false, List.cons_append, List.nil_append, List.append_nil, Nat.zero_add, Nat.reduceAdd, Nat.reduceSub, Nat.reduceLeDiff, Int.reduceNeg, List.replicate_succ, List.replicate_zero, true_and, and_true, List.length_map, and_pu, or_pu, tand_pu, tor_pu, idx_0, idx_1, if_tt, if_ff, dSl, dNo, dSo, slD, imm_cD, imm_wD, intsD, sAppIx, sExt, sApp, lsD, sFor, seq_sD, eq_str, ne_str, eq_int, ne_int, nc0, nc1, nc2, nc3, nc4, decide_true, decide_false, ne_eq, not_true_eq_false, Int.reduceEq, not_false_eq_true, Bool.or_false, Bool.or_true, Bool.false_or, Bool.true_or, List.all_cons, List.all_nil, id_eq, imms_int]; rfl, ?_, rfl⟩
    simp (decide := true) (implicitDefEqProofs := false) only [bodyD, env0, sSeq, thenF, sIf, sRet, sRetN, sRetV, sSet, sSetN, sExpr, sNil, sAsg, sPar, resD, dV, dC, dOp, dUn, dNot, dAnd, dOr, dNotT, dAndT, dOrT, dB, dIf, dChain, dTup, dCons, dNil, dLst, dLstB, dCB, dCall, dCallK, dImm, dYes, a1, a2, bTup, bLst, bCons, bNil, bName, fSeq, seqOf, fRng1, fRng2, fEn, fZip, zip2, one1, ints1, ints2, asB, asI, negD, addD, subD, modD, ltD, gtD, geD, leD, isND, isnND, intOp, intOpC, lenD_lst, lenD_tup, lenD_frz, len_sD, tupleD, listD, absD, max2D, min2D, allD, isiD, tyN, isiT_tt, isiT_ii, isiT_ib, idxD, lsA, gw, gt, opt_some, opt_none, bd_pu, bd_fl, bd_bd, chk_true, chk_tt, D.imm, D.imms, D.isN, List.map_cons, List.map_nil, List.length_cons, List.length_nil, List.set_cons_zero, List.set_cons_succ, List.getElem?_cons_zero, List.getElem?_cons_succ, List.getElem?_nil, Option.bind_some, Option.bind_none, Option.join_some, Option.join_none, Option.map_some, Bool.and_true, Bool.true_and, Bool.and_false, Bool.false_and, Bool.not_true, Bool.not_false, Bool.false_eq_true, Bool.true_eq_false, if_true, if_false, ite_true, ite_false, List.cons_append, List.nil_append, List.append_nil, Nat.zero_add, Nat.reduceAdd, Nat.reduceSub, Nat.reduceLeDiff, Int.reduceNeg, List.replicate_succ, List.replicate_zero, true_and, and_true, List.length_map, and_pu, or_pu, tand_pu, tor_pu, idx_0, idx_1, if_tt, if_ff, dSl, dNo, dSo, slD, imm_cD, imm_wD, intsD, sAppIx, sExt, sApp, lsD, sFor, seq_sD, eq_str, ne_str, eq_int, ne_int, nc0, nc1, nc2, nc3, nc4, decide_true, decide_false, ne_eq, not_true_eq_false, Int.reduceEq, not_false_eq_true, Bool.or_false, Bool.or_true, Bool.false_or, Bool.true_or, List.all_cons, List.all_nil, id_eq]
    exact e_maxT (ns := [a.getD v 0, b.getD v 0]) (fun z => nomatch z)), lcols]
  rfl
end
end K08
namespace K08
open PySem L2 DL CY DB
theorem eq_ints (l : List Int) : eqS (.lst (l.map D.int)) (.lst (l.map D.int)) = pu (.bl true) := by
  have := dep_int l
  have hs : SeqAt.shaped (.list (l.map PyData.int)) = true := Bool.and_eq_true_iff.mpr ⟨lay_int l, decide_eq_true (by show PyData.depthAll (l.map PyData.int) + 1 ≤ 64; omega)⟩
  have e : (D.lst (l.map D.int)).py = some (.list (l.map PyData.int)) := by simp [D.py, pys_int]
  show eqD _ _ = _
  unfold eqD eqvD
  rw [e, opt_some, opt_some, chk_pos ⟨hs, hs⟩, SeqAt.eqv_refl _ (Bool.and_eq_true_iff.mp hs).1]
theorem catS {xs ys : List (List Int)} (h : xs.length ≤ 100) (h2 : ys.length ≤ 100) : catD (.lst (xs.map sD)) (.lst (ys.map sD)) = pu (.lst ((xs ++ ys).map sD)) := by
  show chk ((xs.map sD).length + (ys.map sD).length ≤ sizeLine ∧ D.imms (xs.map sD) = true ∧ D.imms (ys.map sD) = true) (pu (D.lst (xs.map sD ++ ys.map sD))) = _
  rw [chk_pos ⟨by rw [List.length_map, List.length_map]; exact Nat.le_trans (by omega : xs.length + ys.length ≤ 200) (by decide), imms_sD xs, imms_sD ys⟩, List.map_append]
theorem ne_same (x : Str) : neS (.str x) (.str x) = pu (.bl false) := by
  rw [ne_str]
  simp
section
variable {ws : List (Int × Int)} {cs : List Cp} {a b c d : List Int} (V : VY ws cs) (A : VS ws cs a) (B : VS ws cs b) (C : VS ws cs c) (E : VS ws cs d)
include V A B C E
theorem e_bounds : F__law_bounds_right [yD ws cs, .lst [sD a, sD b, sD c, sD d]] = pu (.bl true) := by
  have n40 := V.n40
  have in4 : ∀ r ∈ [a, b, c, d], VS ws cs r := by intro r hr; simp only [List.mem_cons, List.not_mem_nil, or_false] at hr; rcases hr with rfl | rfl | rfl | rfl <;> assumption
  have in2 : ∀ r ∈ [a, b], VS ws cs r := by intro r hr; simp only [List.mem_cons, List.not_mem_nil, or_false] at hr; rcases hr with rfl | rfl <;> assumption
  have in2' : ∀ r ∈ [b, a], VS ws cs r := by intro r hr; simp only [List.mem_cons, List.not_mem_nil, or_false] at hr; rcases hr with rfl | rfl <;> assumption
  have m1 : F_minimum [yD ws cs, sD a, sD b, sD c, sD d] = pu (sD (mnv ws.length [a, b, c, d])) := e_minimum (rows := [a, b, c, d]) V in4 (fun z => nomatch z) (by show 4 ≤ 100; decide)
  have m2 : F_minimum [yD ws cs, sD d, sD b, sD b, sD c, sD a] = pu (sD (mnv ws.length [a, b, c, d])) := by
    rw [← mnv_same (rows := [a, b, c, d]) (rows' := [d, b, b, c, a]) (fun z => nomatch z) (fun r => by simp only [List.mem_cons, List.not_mem_nil, or_false]; constructor <;> intro h <;> (rcases h with h | h | h | h <;> first | simp [h] | (rcases h with h | h <;> simp [h])))]
    exact e_minimum (rows := [d, b, b, c, a]) V (by intro r hr; simp only [List.mem_cons, List.not_mem_nil, or_false] at hr; rcases hr with rfl | rfl | rfl | rfl | rfl <;> assumption) (fun z => nomatch z) (by show 5 ≤ 100; decide)
  have m3 : F_maximum [yD ws cs, sD a, sD b, sD c, sD d] = pu (sD (mxv ws.length [a, b, c, d])) := e_maximum (rows := [a, b, c, d]) V in4 (fun z => nomatch z) (by show 4 ≤ 100; decide)
  have m4 : F_maximum [yD ws cs, sD c, sD d, sD a, sD a, sD b] = pu (sD (mxv ws.length [a, b, c, d])) := by
    rw [← mxv_same (rows := [a, b, c, d]) (rows' := [c, d, a, a, b]) (fun z => nomatch z) (fun r => by simp only [List.mem_cons, List.not_mem_nil, or_false]; constructor <;> intro h <;> (rcases h with h | h | h | h <;> first | simp [h] | (rcases h with h | h <;> simp [h])))]
    exact e_maximum (rows := [c, d, a, a, b]) V (by intro r hr; simp only [List.mem_cons, List.not_mem_nil, or_false] at hr; rcases hr with rfl | rfl | rfl | rfl | rfl <;> assumption) (fun z => nomatch z) (by show 5 ≤ 100; decide)
  have m5 := e_min2 V A B
  have m6 : F_maximum [yD ws cs, sD b, sD a] = pu (sD (mxv ws.length [a, b])) := by
    rw [← mxv_same (rows := [a, b]) (rows' := [b, a]) (fun z => nomatch z) (fun r => by simp only [List.mem_cons, List.not_mem_nil, or_false]; constructor <;> (intro h; rcases h with h | h <;> simp [h]))]
    exact e_max2 V B A
  have m7 : F_minimum [yD ws cs, sD c] = pu (sD c) := by
    have := e_minimum (rows := [c]) V (by intro r hr; simp only [List.mem_cons, List.not_mem_nil, or_false] at hr; subst hr; exact C) (fun z => nomatch z) (by show 1 ≤ 100; decide)
    rw [mnv_one C.len] at this
    exact this
  have m8 : F_maximum [yD ws cs, sD c] = pu (sD c) := by
    have := e_maximum (rows := [c]) V (by intro r hr; simp only [List.mem_cons, List.not_mem_nil, or_false] at hr; subst hr; exact C) (fun z => nomatch z) (by show 1 ≤ 100; decide)
    rw [mxv_one C.len] at this
    exact this
  have L4 := mnv_vs V in4 (fun z => nomatch z)
  have H4 := mxv_vs V in4 (fun z => nomatch z)
  have L2 := mnv_vs V in2 (fun z => nomatch z)
  have H2 := mxv_vs V in2 (fun z => nomatch z)
  have u1 := fun (y r x6 x7 x8 x10 : Option D) => e_low4 (y := y) (r := r) (x6 := x6) (x7 := x7) (x8 := x8) (x10 := x10) n40 A.len B.len C.len E.len
  have u2 := fun (y r x6 x7 x8 x10 : Option D) => e_high4 (y := y) (r := r) (x6 := x6) (x7 := x7) (x8 := x8) (x10 := x10) n40 A.len B.len C.len E.len
  have u3 := fun (y r x6 x7 x8 x10 : Option D) => e_low2 (y := y) (r := r) (x6 := x6) (x7 := x7) (x8 := x8) (x10 := x10) n40 A.len B.len C.len E.len
  have u4 := fun (y r x6 x7 x8 x10 : Option D) => e_high2 (y := y) (r := r) (x6 := x6) (x7 := x7) (x8 := x8) (x10 := x10) n40 A.len B.len C.len E.len
  generalize hL : mnv ws.length [a, b, c, d] = lo4 at *
  generalize hH : mxv ws.length [a, b, c, d] = hi4 at *
  generalize hl : mnv ws.length [a, b] = lo2 at *
  generalize hh : mxv ws.length [a, b] = hi2 at *
  have fold : ∀ ss : List Int, D.tup (ss.map D.int) = sD ss := fun _ => rfl
  have c1 : catD (.lst [sD lo4, sD lo4]) (.lst [sD hi4, sD hi4]) = pu (.lst [sD lo4, sD lo4, sD hi4, sD hi4]) := catS (xs := [lo4, lo4]) (ys := [hi4, hi4]) (by show 2 ≤ 100; decide) (by show 2 ≤ 100; decide)
  have c2 : catD (.lst [sD lo4, sD lo4, sD hi4, sD hi4]) (.lst [sD lo2, sD hi2]) = pu (.lst ([lo4, lo4, hi4, hi4, lo2, hi2].map sD)) := catS (xs := [lo4, lo4, hi4, hi4]) (ys := [lo2, hi2]) (by show 4 ≤ 100; decide) (by show 2 ≤ 100; decide)
  have r1 : reprD (.lst [sD lo4, sD lo4, sD hi4, sD hi4]) = pu (.str (shD (.lst [sD lo4, sD lo4, sD hi4, sD hi4]))) := e_reprS (rows := [lo4, lo4, hi4, hi4]) V (by intro r hr; simp only [List.mem_cons, List.not_mem_nil, or_false] at hr; rcases hr with rfl | rfl | rfl | rfl <;> assumption) (by show 4 ≤ 50; decide)
  have r2 : reprD (.lst [sD lo2, sD hi2]) = pu (.str (shD (.lst [sD lo2, sD hi2]))) := e_reprS (rows := [lo2, hi2]) V (by intro r hr; simp only [List.mem_cons, List.not_mem_nil, or_false] at hr; rcases hr with rfl | rfl <;> assumption) (by show 2 ≤ 50; decide)
  have r3 : reprD (.lst [sD c, sD c]) = pu (.str (shD (.lst [sD c, sD c]))) := e_reprS (rows := [c, c]) V (by intro r hr; simp only [List.mem_cons, List.not_mem_nil, or_false] at hr; rcases hr with rfl | rfl <;> assumption) (by show 2 ≤ 50; decide)
  have en : eqS (.lst []) (.lst []) = pu (.bl true) := eq_ints []
  unfold F__law_bounds_right g__law_bounds_right
  simp (decide := true) (implicitDefEqProofs := false) only [bodyD, env0, sSeq, thenF, sIf, sRet, sRetN, sRetV, sSet, sSetN, sExpr, sNil, sAsg, sPar, resD, dV, dC, dOp, dUn, dNot, dAnd, dOr, dNotT, dAndT, dOrT, dB, dIf, dChain, dTup, dCons, dNil, dLst, dLstB, dCB, dCall, dCallK, dImm, dYes, a1, a2, bTup, bLst, bCons, bNil, bName, fSeq, seqOf, fRng1, fRng2, fEn, fZip, zip2, one1, ints1, ints2, asB, asI, negD, addD, subD, modD, ltD, gtD, geD, leD, isND, isnND, intOp, intOpC, lenD_lst, lenD_tup, lenD_frz, len_sD, tupleD, listD, absD, max2D, min2D, allD, isiD, tyN, isiT_tt, isiT_ii, isiT_ib, idxD, lsA, gw, gt, opt_some, opt_none, bd_pu, bd_fl, bd_bd, chk_true, chk_tt, D.imm, D.imms, D.isN, List.map_cons, List.map_nil, List.length_cons, List.length_nil, List.set_cons_zero, List.set_cons_succ, List.getElem?_cons_zero, List.getElem?_cons_succ, List.getElem?_nil, Option.bind_some, Option.bind_none, Option.join_some, Option.join_none, Option.map_some, Bool.and_true, Bool.true_and, Bool.and_false, Bool.false_and, Bool.not_true, Bool.not_false, Bool.false_eq_true, Bool.true_eq_false, if_true, if_false, ite_true, ite_false, List.cons_append, List.nil_append, List.append_nil, Nat.zero_add, Nat.reduceAdd, Nat.reduceSub, Nat.reduceLeDiff, Int.reduceNeg, List.replicate_succ, List.replicate_zero, true_and, and_true, List.length_map, and_pu, or_pu, tand_pu, tor_pu, idx_0, idx_1, if_tt, if_ff, dSl, dNo, dSo, slD, imm_cD, imm_wD, intsD, sAppIx, sExt, sApp, lsD, sFor, seq_sD, eq_str, ne_str, eq_int, ne_int, nc0, nc1, nc2, nc3, nc4, decide_true, decide_false, ne_eq, not_true_eq_false, Int.reduceEq, not_false_eq_true, Bool.or_false, Bool.or_true, Bool.false_or, Bool.true_or, List.all_cons, List.all_nil, id_eq, imm_sD, u1, u2, u3, u4, fold, m1, m2, m3, m4, c1, r1, ne_same]
  simp (decide := true) (implicitDefEqProofs := false) only [bodyD, env0, sSeq, thenF, sIf, sRet, sRetN, sRetV, sSet, sSetN, sExpr, sNil, sAsg, sPar, resD, dV, dC, dOp, dUn, dNot, dAnd, dOr, dNotT, dAndT, dOrT, dB, dIf, dChain, dTup, dCons, dNil, dLst, dLstB, dCB, dCall, dCallK, dImm, dYes, a1, a2, bTup, bLst, bCons, bNil, bName, fSeq, seqOf, fRng1, fRng2, fEn, fZip, zip2, one1, ints1, ints2, asB, asI, negD, addD, subD, modD, ltD, gtD, geD, leD, isND, isnND, intOp, intOpC, lenD_lst, lenD_tup, lenD_frz, len_sD, tupleD, listD, absD, max2D, min2D, allD, isiD, tyN, isiT_tt, isiT_ii, isiT_ib, idxD, lsA, gw, gt, opt_some, opt_none, bd_pu, bd_fl, bd_bd, chk_true, chk_tt, D.imm, D.imms, D.isN, List.map_cons, List.map_nil, List.length_cons, List.length_nil, List.set_cons_zero, List.set_cons_succ, List.getElem?_cons_zero, List.getElem?_cons_succ, List.getElem?_nil, Option.bind_some, Option.bind_none, Option.join_some, Option.join_none, Option.map_some, Bool.and_true, Bool.true_and, Bool.and_false, Bool.false_and, Bool.not_true, Bool.not_false, Bool.false_eq_true, Bool.true_eq_false, if_true, if_false, ite_true, ite_false, List.cons_append, List.nil_append, List.append_nil, Nat.zero_add, Nat.reduceAdd, Nat.reduceSub, Nat.reduceLeDiff, Int.reduceNeg, List.replicate_succ, List.replicate_zero, true_and, and_true, List.length_map, and_pu, or_pu, tand_pu, tor_pu, idx_0, idx_1, if_tt, if_ff, dSl, dNo, dSo, slD, imm_cD, imm_wD, intsD, sAppIx, sExt, sApp, lsD, sFor, seq_sD, eq_str, ne_str, eq_int, ne_int, nc0, nc1, nc2, nc3, nc4, decide_true, decide_false, ne_eq, not_true_eq_false, Int.reduceEq, not_false_eq_true, Bool.or_false, Bool.or_true, Bool.false_or, Bool.true_or, List.all_cons, List.all_nil, id_eq, m5, m6, m7, m8, r2, r3, ne_same, dLc, wipeE, imm_sD, c2]
  rw [lc_pick (fun _ => false) id [sD lo4, sD lo4, sD hi4, sD hi4, sD lo2, sD hi2] [] (by show 0 + 6 < sizeLine; decide) (fun q hq => by
    have hv : ∃ r, VS ws cs r ∧ q = sD r := by
      simp only [List.mem_cons, List.not_mem_nil, or_false] at hq
      rcases hq with h | h | h | h | h | h <;> subst h
      · exact ⟨_, L4, rfl⟩
      · exact ⟨_, L4, rfl⟩
      · exact ⟨_, H4, rfl⟩
      · exact ⟨_, H4, rfl⟩
      · exact ⟨_, L2, rfl⟩
      · exact ⟨_, H2, rfl⟩
    obtain ⟨r, hr, rfl⟩ := hv
    refine ⟨_, by simp (decide := true) (implicitDefEqProofs := false) only [bodyD, env0, sSeq, thenF, sIf, sRet, sRetN, sRetV, sSet, sSetN, sExpr, sNil, sAsg, sPar, resD, dV, dC, dOp, dUn, dNot, dAnd, dOr, dNotT, dAndT, dOrT, dB, dIf, dChain, dTup, dCons, dNil, dLst, dLstB, dCB, dCall, dCallK, dImm, dYes, a1, a2, bTup, bLst, bCons, bNil, bName, fSeq, seqOf, fRng1, fRng2, fEn, fZip, zip2, one1, ints1, ints2, asB, asI, negD, addD, subD, modD, ltD, gtD, geD, leD, isND, isnND, intOp, intOpC, lenD_lst, lenD_tup, lenD_frz, len_sD, tupleD, listD, absD, max2D, min2D, allD, isiD, tyN, isiT_tt, isiT_ii, isiT_ib, idxD, lsA, gw, gt, opt_some, opt_none, bd_pu, bd_fl, bd_bd, chk_true, chk_tt, D.imm, D.imms, D.isN, List.map_cons, List.map_nil, List.length_cons, List.length_nil, List.set_cons_zero, List.set_cons_succ, List.getElem?_cons_zero, List.getElem?_cons_succ, List.getElem?_nil, Option.bind_some, Option.bind_none, Option.join_some, Option.join_none, Option.map_some, Bool.and_true, Bool.true_and, Bool.and_false, Bool.false_and, Bool.not_true, Bool.not_false, Bool.false_eq_true, Bool.true_eq_false, if_true, if_false, ite_true, ite_false, List.cons_append, List.nil_append, List.append_nil, Nat.zero_add, Nat.reduceAdd, Nat.reduceSub, Nat.reduceLeDiff, Int.reduceNeg, List.replicate_succ, List.replicate_zero, true_and, and_true, List.length_map, and_pu, or_pu, tand_pu, tor_pu, idx_0, idx_1, if_tt, if_ff, dSl, dNo, dSo, slD, imm_cD, imm_wD, intsD, sAppIx, sExt, sApp, lsD, sFor, seq_sD, eq_str, ne_str, eq_int, ne_int, nc0, nc1, nc2, nc3, nc4, decide_true, decide_false, ne_eq, not_true_eq_false, Int.reduceEq, not_false_eq_true, Bool.or_false, Bool.or_true, Bool.false_or, Bool.true_or, List.all_cons, List.all_nil, id_eq, imm_sD]; rfl, ?_, fun z => nomatch z⟩
    simp (decide := true) (implicitDefEqProofs := false) only [bodyD, env0, sSeq, thenF, sIf, sRet, sRetN, sRetV, sSet, sSetN, sExpr, sNil, sAsg, sPar, resD, dV, dC, dOp, dUn, dNot, dAnd, dOr, dNotT, dAndT, dOrT, dB, dIf, dChain, dTup, dCons, dNil, dLst, dLstB, dCB, dCall, dCallK, dImm, dYes, a1, a2, bTup, bLst, bCons, bNil, bName, fSeq, seqOf, fRng1, fRng2, fEn, fZip, zip2, one1, ints1, ints2, asB, asI, negD, addD, subD, modD, ltD, gtD, geD, leD, isND, isnND, intOp, intOpC, lenD_lst, lenD_tup, lenD_frz, len_sD, tupleD, listD, absD, max2D, min2D, allD, isiD, tyN, isiT_tt, isiT_ii, isiT_ib, idxD, lsA, gw, gt, opt_some, opt_none, bd_pu, bd_fl, bd_bd, chk_true, chk_tt, D.imm, D.imms, D.isN, List.map_cons, List.map_nil, List.length_cons, List.length_nil, List.set_cons_zero, List.set_cons_succ, List.getElem?_cons_zero, List.getElem?_cons_succ, List.getElem?_nil, Option.bind_some, Option.bind_none, Option.join_some, Option.join_none, Option.map_some, Bool.and_true, Bool.true_and, Bool.and_false, Bool.false_and, Bool.not_true, Bool.not_false, Bool.false_eq_true, Bool.true_eq_false, if_true, if_false, ite_true, ite_false, List.cons_append, List.nil_append, List.append_nil, Nat.zero_add, Nat.reduceAdd, Nat.reduceSub, Nat.reduceLeDiff, Int.reduceNeg, List.replicate_succ, List.replicate_zero, true_and, and_true, List.length_map, and_pu, or_pu, tand_pu, tor_pu, idx_0, idx_1, if_tt, if_ff, dSl, dNo, dSo, slD, imm_cD, imm_wD, intsD, sAppIx, sExt, sApp, lsD, sFor, seq_sD, eq_str, ne_str, eq_int, ne_int, nc0, nc1, nc2, nc3, nc4, decide_true, decide_false, ne_eq, not_true_eq_false, Int.reduceEq, not_false_eq_true, Bool.or_false, Bool.or_true, Bool.false_or, Bool.true_or, List.all_cons, List.all_nil, id_eq, e_is_arrangement V hr])]
  have ef : ([] : List D) ++ ([sD lo4, sD lo4, sD hi4, sD hi4, sD lo2, sD hi2].filter fun _ => false).map id = [] := rfl
  rw [ef]
  simp (decide := true) (implicitDefEqProofs := false) only [bodyD, env0, sSeq, thenF, sIf, sRet, sRetN, sRetV, sSet, sSetN, sExpr, sNil, sAsg, sPar, resD, dV, dC, dOp, dUn, dNot, dAnd, dOr, dNotT, dAndT, dOrT, dB, dIf, dChain, dTup, dCons, dNil, dLst, dLstB, dCB, dCall, dCallK, dImm, dYes, a1, a2, bTup, bLst, bCons, bNil, bName, fSeq, seqOf, fRng1, fRng2, fEn, fZip, zip2, one1, ints1, ints2, asB, asI, negD, addD, subD, modD, ltD, gtD, geD, leD, isND, isnND, intOp, intOpC, lenD_lst, lenD_tup, lenD_frz, len_sD, tupleD, listD, absD, max2D, min2D, allD, isiD, tyN, isiT_tt, isiT_ii, isiT_ib, idxD, lsA, gw, gt, opt_some, opt_none, bd_pu, bd_fl, bd_bd, chk_true, chk_tt, D.imm, D.imms, D.isN, List.map_cons, List.map_nil, List.length_cons, List.length_nil, List.set_cons_zero, List.set_cons_succ, List.getElem?_cons_zero, List.getElem?_cons_succ, List.getElem?_nil, Option.bind_some, Option.bind_none, Option.join_some, Option.join_none, Option.map_some, Bool.and_true, Bool.true_and, Bool.and_false, Bool.false_and, Bool.not_true, Bool.not_false, Bool.false_eq_true, Bool.true_eq_false, if_true, if_false, ite_true, ite_false, List.cons_append, List.nil_append, List.append_nil, Nat.zero_add, Nat.reduceAdd, Nat.reduceSub, Nat.reduceLeDiff, Int.reduceNeg, List.replicate_succ, List.replicate_zero, true_and, and_true, List.length_map, and_pu, or_pu, tand_pu, tor_pu, idx_0, idx_1, if_tt, if_ff, dSl, dNo, dSo, slD, imm_cD, imm_wD, intsD, sAppIx, sExt, sApp, lsD, sFor, seq_sD, eq_str, ne_str, eq_int, ne_int, nc0, nc1, nc2, nc3, nc4, decide_true, decide_false, ne_eq, not_true_eq_false, Int.reduceEq, not_false_eq_true, Bool.or_false, Bool.or_true, Bool.false_or, Bool.true_or, List.all_cons, List.all_nil, id_eq, en]
end
end K08
namespace K08
open PySem L2 DL CY DB
theorem idx_2 (a b c : D) (ds : List D) : idxL (a :: b :: c :: ds) 2 = pu c := idx_nat (k := 2) rfl
theorem idx_3 (a b c d : D) (ds : List D) : idxL (a :: b :: c :: d :: ds) 3 = pu d := idx_nat (k := 3) rfl
def w0 : List (Int × Int) := [(0, 9), (0, 9), (0, 9)]
def c0 : List Cp := [⟨0, 1, 1, 2⟩, ⟨1, 2, 1, 2⟩]
theorem vy0 : VY w0 c0 := by
  refine ⟨by decide, by decide, by decide, by decide, ?_, fun k c hc => ?_, by decide⟩
  · exact List.pairwise_cons.mpr ⟨fun b hb => by rw [List.mem_singleton.mp hb]; exact .inl (by decide), List.pairwise_singleton _ _⟩
  · match k, hc with
    | 0, hc =>
      cases hc
      refine ⟨fun v => decide (v = 0), by decide, fun l d hd hl => ?_⟩
      match l, hd, hl with
      | 0, _, hl => exact absurd rfl hl
      | 1, hd, _ => cases hd; decide
      | l + 2, hd, _ => cases hd
    | 1, hc =>
      cases hc
      refine ⟨fun v => decide (v = 2), by decide, fun l d hd hl => ?_⟩
      match l, hd, hl with
      | 0, hd, _ => cases hd; decide
      | 1, _, hl => exact absurd rfl hl
      | l + 2, hd, _ => cases hd
    | k + 2, hc => cases hc
theorem vs0 (a b c : Int) (h1 : 0 ≤ a ∧ a ≤ 9) (h2 : 0 ≤ b ∧ b ≤ 9) (h3 : 0 ≤ c ∧ c ≤ 9) (h4 : 1 ≤ b - a ∧ b - a ≤ 2) (h5 : 1 ≤ c - b ∧ c - b ≤ 2) : VS w0 c0 [a, b, c] := by
  refine ⟨rfl, fun v w hw => ?_, fun d hd => ?_⟩
  · match v, hw with
    | 0, hw => cases hw; exact h1
    | 1, hw => cases hw; exact h2
    | 2, hw => cases hw; exact h3
    | v + 3, hw => cases hw
  · simp only [c0, List.mem_cons, List.not_mem_nil, or_false] at hd
    rcases hd with rfl | rfl
    · exact h4
    · exact h5
theorem mul3 (d : D) (h : d.imm = true) : mulD (.tup [d]) (.int 3) = pu (.tup [d, d, d]) := by
  show chk ([d] ≠ [] ∧ (2 : Int) ≤ 3 ∧ (3 : Int) ≤ 1000 ∧ [d].length ≤ 1000 ∧ D.imms [d] = true) (DL.pu (D.tup (List.replicate (3 : Int).toNat [d]).flatten) : DL.W D) = _
  rw [chk_pos ⟨(fun z => nomatch z), by decide, by decide, by show 1 ≤ 1000; decide, by simp [D.imms, h]⟩]
  rfl
theorem en_law (ns : List Int) (h63 : ns.length ≤ 63) : EnC 100000 (g_lawR (env0 N_law.length [.frz (ns.map D.int), .src])) fun r => r.1 = .rt (.bl true) := by
  have e0 : env0 N_law.length [.frz (ns.map D.int), .src] = [some (.frz (ns.map D.int)), some .src, none, none, none, none, none, none] := rfl
  rw [e0]
  unfold g_lawR
  obtain ⟨t, ht⟩ : ∃ t : Nat, 1 + (if ((ns.length : Nat) : Int) < 5 then ((ns.length : Nat) : Int) else 5) = t := by
    refine ⟨(1 + (if ((ns.length : Nat) : Int) < 5 then ((ns.length : Nat) : Int) else 5)).toNat, ?_⟩
    split <;> omega
  have t6 : t ≤ 6 := by
    split at ht <;> omega
  have htr : -(2 ^ 62) ≤ (t : Int) ∧ (t : Int) < 2 ^ 62 := by omega
  simp (decide := true) (implicitDefEqProofs := false) only [bodyD, env0, sSeq, thenF, sIf, sRet, sRetN, sRetV, sSet, sSetN, sExpr, sNil, sAsg, sPar, resD, dV, dC, dOp, dUn, dNot, dAnd, dOr, dNotT, dAndT, dOrT, dB, dIf, dChain, dTup, dCons, dNil, dLst, dLstB, dCB, dCall, dCallK, dImm, dYes, a1, a2, bTup, bLst, bCons, bNil, bName, fSeq, seqOf, fRng1, fRng2, fEn, fZip, zip2, one1, ints1, ints2, asB, asI, negD, addD, subD, modD, ltD, gtD, geD, leD, isND, isnND, intOp, intOpC, lenD_lst, lenD_tup, lenD_frz, len_sD, tupleD, listD, absD, max2D, min2D, allD, isiD, tyN, isiT_tt, isiT_ii, isiT_ib, idxD, lsA, gw, gt, opt_some, opt_none, bd_pu, bd_fl, bd_bd, chk_true, chk_tt, D.imm, D.imms, D.isN, List.map_cons, List.map_nil, List.length_cons, List.length_nil, List.set_cons_zero, List.set_cons_succ, List.getElem?_cons_zero, List.getElem?_cons_succ, List.getElem?_nil, Option.bind_some, Option.bind_none, Option.join_some, Option.join_none, Option.map_some, Bool.and_true, Bool.true_and, Bool.and_false, Bool.false_and, Bool.not_true, Bool.not_false, Bool.false_eq_true, Bool.true_eq_false, if_true, if_false, ite_true, ite_false, List.cons_append, List.nil_append, List.append_nil, Nat.zero_add, Nat.reduceAdd, Nat.reduceSub, Nat.reduceLeDiff, Int.reduceNeg, List.replicate_succ, List.replicate_zero, true_and, and_true, List.length_map, and_pu, or_pu, tand_pu, tor_pu, idx_0, idx_1, if_tt, if_ff, dSl, dNo, dSo, slD, imm_cD, imm_wD, intsD, sAppIx, sExt, sApp, lsD, sFor, seq_sD, eq_str, ne_str, eq_int, ne_int, nc0, nc1, nc2, nc3, nc4, decide_true, decide_false, ne_eq, not_true_eq_false, Int.reduceEq, not_false_eq_true, Bool.or_false, Bool.or_true, Bool.false_or, Bool.true_or, List.all_cons, List.all_nil, id_eq, ht, chk_pos htr, Int.toNat_natCast]
  refine EnC.bdFor (c1 := 3000) (c2 := 0) 6 (fun i δ => ∃ (a b c d e f : Option D), δ = [some (.frz (ns.map D.int)), some .src, a, b, c, d, e, f]) (by rw [rngD_len]; exact t6) (by decide) ⟨_, _, _, _, _, _, rfl⟩ ?_ ?_
  · rintro i d δ hd ⟨a, b, c, d', e, f, rfl⟩
    obtain ⟨hi, rfl⟩ := rngD_at hd
    obtain ⟨most, hm, em⟩ : ∃ most : Nat, (1 ≤ most ∧ most ≤ 40) ∧ idxL [.int 7, .int 3, .int 40] ((i : Int) % 3) = pu (.int most) := by
      have q1 : 0 ≤ (i : Int) % 3 := Int.emod_nonneg _ (by decide)
      have q2 : (i : Int) % 3 < 3 := Int.emod_lt_of_pos _ (by decide)
      obtain ⟨x, hx, e⟩ := idx_at (l := [.int 7, .int 3, .int 40]) (r := (i : Int) % 3) q1 (by show (i : Int) % 3 < 3; exact q2)
      simp only [List.mem_cons, List.not_mem_nil, or_false] at hx
      rcases hx with rfl | rfl | rfl
      · exact ⟨7, by decide, e⟩
      · exact ⟨3, by decide, e⟩
      · exact ⟨40, by decide, e⟩
    have mp : modD (.int (i : Nat)) (.int 3) = pu (.int ((i : Int) % 3)) := mod_pos _ _ (by decide)
    have h3 : (0 : Int) < 3 := by decide
    simp (decide := true) (implicitDefEqProofs := false) only [bodyD, env0, sSeq, thenF, sIf, sRet, sRetN, sRetV, sSet, sSetN, sExpr, sNil, sAsg, sPar, resD, dV, dC, dOp, dUn, dNot, dAnd, dOr, dNotT, dAndT, dOrT, dB, dIf, dChain, dTup, dCons, dNil, dLst, dLstB, dCB, dCall, dCallK, dImm, dYes, a1, a2, bTup, bLst, bCons, bNil, bName, fSeq, seqOf, fRng1, fRng2, fEn, fZip, zip2, one1, ints1, ints2, asB, asI, negD, addD, subD, modD, ltD, gtD, geD, leD, isND, isnND, intOp, intOpC, lenD_lst, lenD_tup, lenD_frz, len_sD, tupleD, listD, absD, max2D, min2D, allD, isiD, tyN, isiT_tt, isiT_ii, isiT_ib, idxD, lsA, gw, gt, opt_some, opt_none, bd_pu, bd_fl, bd_bd, chk_true, chk_tt, D.imm, D.imms, D.isN, List.map_cons, List.map_nil, List.length_cons, List.length_nil, List.set_cons_zero, List.set_cons_succ, List.getElem?_cons_zero, List.getElem?_cons_succ, List.getElem?_nil, Option.bind_some, Option.bind_none, Option.join_some, Option.join_none, Option.map_some, Bool.and_true, Bool.true_and, Bool.and_false, Bool.false_and, Bool.not_true, Bool.not_false, Bool.false_eq_true, Bool.true_eq_false, if_true, if_false, ite_true, ite_false, List.cons_append, List.nil_append, List.append_nil, Nat.zero_add, Nat.reduceAdd, Nat.reduceSub, Nat.reduceLeDiff, Int.reduceNeg, List.replicate_succ, List.replicate_zero, true_and, and_true, List.length_map, and_pu, or_pu, tand_pu, tor_pu, idx_0, idx_1, if_tt, if_ff, dSl, dNo, dSo, slD, imm_cD, imm_wD, intsD, sAppIx, sExt, sApp, lsD, sFor, seq_sD, eq_str, ne_str, eq_int, ne_int, nc0, nc1, nc2, nc3, nc4, decide_true, decide_false, ne_eq, not_true_eq_false, Int.reduceEq, not_false_eq_true, Bool.or_false, Bool.or_true, Bool.false_or, Bool.true_or, List.all_cons, List.all_nil, id_eq, chk_pos h3, em]
    refine EnC.bd (c1 := 1000) (c2 := 2000) (by decide) (n_lot hm) ?_
    rintro _ ⟨ws, cs, ss, rfl, V, S⟩
    have r3 : -(2 ^ 62) ≤ (3 : Int) ∧ (3 : Int) < 2 ^ 62 := by omega
    simp (decide := true) (implicitDefEqProofs := false) only [bodyD, env0, sSeq, thenF, sIf, sRet, sRetN, sRetV, sSet, sSetN, sExpr, sNil, sAsg, sPar, resD, dV, dC, dOp, dUn, dNot, dAnd, dOr, dNotT, dAndT, dOrT, dB, dIf, dChain, dTup, dCons, dNil, dLst, dLstB, dCB, dCall, dCallK, dImm, dYes, a1, a2, bTup, bLst, bCons, bNil, bName, fSeq, seqOf, fRng1, fRng2, fEn, fZip, zip2, one1, ints1, ints2, asB, asI, negD, addD, subD, modD, ltD, gtD, geD, leD, isND, isnND, intOp, intOpC, lenD_lst, lenD_tup, lenD_frz, len_sD, tupleD, listD, absD, max2D, min2D, allD, isiD, tyN, isiT_tt, isiT_ii, isiT_ib, idxD, lsA, gw, gt, opt_some, opt_none, bd_pu, bd_fl, bd_bd, chk_true, chk_tt, D.imm, D.imms, D.isN, List.map_cons, List.map_nil, List.length_cons, List.length_nil, List.set_cons_zero, List.set_cons_succ, List.getElem?_cons_zero, List.getElem?_cons_succ, List.getElem?_nil, Option.bind_some, Option.bind_none, Option.join_some, Option.join_none, Option.map_some, Bool.and_true, Bool.true_and, Bool.and_false, Bool.false_and, Bool.not_true, Bool.not_false, Bool.false_eq_true, Bool.true_eq_false, if_true, if_false, ite_true, ite_false, List.cons_append, List.nil_append, List.append_nil, Nat.zero_add, Nat.reduceAdd, Nat.reduceSub, Nat.reduceLeDiff, Int.reduceNeg, List.replicate_succ, List.replicate_zero, true_and, and_true, List.length_map, and_pu, or_pu, tand_pu, tor_pu, idx_0, idx_1, if_tt, if_ff, dSl, dNo, dSo, slD, imm_cD, imm_wD, intsD, sAppIx, sExt, sApp, lsD, sFor, seq_sD, eq_str, ne_str, eq_int, ne_int, nc0, nc1, nc2, nc3, nc4, decide_true, decide_false, ne_eq, not_true_eq_false, Int.reduceEq, not_false_eq_true, Bool.or_false, Bool.or_true, Bool.false_or, Bool.true_or, List.all_cons, List.all_nil, id_eq, imm_yD, imm_sD, dLc, wipeE, chk_pos r3]
    refine EnC.bd (c1 := 500 * (rngD 0 (3 : Int).toNat).length) (c2 := 400) (by rw [rngD_len]; decide) (EnC.lc (c := 500) (fun e => ∃ s', e = sD s' ∧ VS ws cs s') _ [] (by rw [rngD_len]; decide) (fun _ z => nomatch z) fun d hd => ?_) ?_
    · obtain ⟨k, hk⟩ := List.mem_iff_getElem?.mp hd
      obtain ⟨_, rfl⟩ := rngD_at hk
      refine ⟨_, by simp (decide := true) (implicitDefEqProofs := false) only [bodyD, env0, sSeq, thenF, sIf, sRet, sRetN, sRetV, sSet, sSetN, sExpr, sNil, sAsg, sPar, resD, dV, dC, dOp, dUn, dNot, dAnd, dOr, dNotT, dAndT, dOrT, dB, dIf, dChain, dTup, dCons, dNil, dLst, dLstB, dCB, dCall, dCallK, dImm, dYes, a1, a2, bTup, bLst, bCons, bNil, bName, fSeq, seqOf, fRng1, fRng2, fEn, fZip, zip2, one1, ints1, ints2, asB, asI, negD, addD, subD, modD, ltD, gtD, geD, leD, isND, isnND, intOp, intOpC, lenD_lst, lenD_tup, lenD_frz, len_sD, tupleD, listD, absD, max2D, min2D, allD, isiD, tyN, isiT_tt, isiT_ii, isiT_ib, idxD, lsA, gw, gt, opt_some, opt_none, bd_pu, bd_fl, bd_bd, chk_true, chk_tt, D.imm, D.imms, D.isN, List.map_cons, List.map_nil, List.length_cons, List.length_nil, List.set_cons_zero, List.set_cons_succ, List.getElem?_cons_zero, List.getElem?_cons_succ, List.getElem?_nil, Option.bind_some, Option.bind_none, Option.join_some, Option.join_none, Option.map_some, Bool.and_true, Bool.true_and, Bool.and_false, Bool.false_and, Bool.not_true, Bool.not_false, Bool.false_eq_true, Bool.true_eq_false, if_true, if_false, ite_true, ite_false, List.cons_append, List.nil_append, List.append_nil, Nat.zero_add, Nat.reduceAdd, Nat.reduceSub, Nat.reduceLeDiff, Int.reduceNeg, List.replicate_succ, List.replicate_zero, true_and, and_true, List.length_map, and_pu, or_pu, tand_pu, tor_pu, idx_0, idx_1, if_tt, if_ff, dSl, dNo, dSo, slD, imm_cD, imm_wD, intsD, sAppIx, sExt, sApp, lsD, sFor, seq_sD, eq_str, ne_str, eq_int, ne_int, nc0, nc1, nc2, nc3, nc4, decide_true, decide_false, ne_eq, not_true_eq_false, Int.reduceEq, not_false_eq_true, Bool.or_false, Bool.or_true, Bool.false_or, Bool.true_or, List.all_cons, List.all_nil, id_eq]; rfl, ?_⟩
      simp (decide := true) (implicitDefEqProofs := false) only [bodyD, env0, sSeq, thenF, sIf, sRet, sRetN, sRetV, sSet, sSetN, sExpr, sNil, sAsg, sPar, resD, dV, dC, dOp, dUn, dNot, dAnd, dOr, dNotT, dAndT, dOrT, dB, dIf, dChain, dTup, dCons, dNil, dLst, dLstB, dCB, dCall, dCallK, dImm, dYes, a1, a2, bTup, bLst, bCons, bNil, bName, fSeq, seqOf, fRng1, fRng2, fEn, fZip, zip2, one1, ints1, ints2, asB, asI, negD, addD, subD, modD, ltD, gtD, geD, leD, isND, isnND, intOp, intOpC, lenD_lst, lenD_tup, lenD_frz, len_sD, tupleD, listD, absD, max2D, min2D, allD, isiD, tyN, isiT_tt, isiT_ii, isiT_ib, idxD, lsA, gw, gt, opt_some, opt_none, bd_pu, bd_fl, bd_bd, chk_true, chk_tt, D.imm, D.imms, D.isN, List.map_cons, List.map_nil, List.length_cons, List.length_nil, List.set_cons_zero, List.set_cons_succ, List.getElem?_cons_zero, List.getElem?_cons_succ, List.getElem?_nil, Option.bind_some, Option.bind_none, Option.join_some, Option.join_none, Option.map_some, Bool.and_true, Bool.true_and, Bool.and_false, Bool.false_and, Bool.not_true, Bool.not_false, Bool.false_eq_true, Bool.true_eq_false, if_true, if_false, ite_true, ite_false, List.cons_append, List.nil_append, List.append_nil, Nat.zero_add, Nat.reduceAdd, Nat.reduceSub, Nat.reduceLeDiff, Int.reduceNeg, List.replicate_succ, List.replicate_zero, true_and, and_true, List.length_map, and_pu, or_pu, tand_pu, tor_pu, idx_0, idx_1, if_tt, if_ff, dSl, dNo, dSo, slD, imm_cD, imm_wD, intsD, sAppIx, sExt, sApp, lsD, sFor, seq_sD, eq_str, ne_str, eq_int, ne_int, nc0, nc1, nc2, nc3, nc4, decide_true, decide_false, ne_eq, not_true_eq_false, Int.reduceEq, not_false_eq_true, Bool.or_false, Bool.or_true, Bool.false_or, Bool.true_or, List.all_cons, List.all_nil, id_eq]
      exact (n_moved V S).wk fun e ⟨s', h1, h2⟩ => ⟨⟨s', h1, h2⟩, by rw [h1]; exact imm_sD _⟩
    · rintro es ⟨hl, hes⟩
      rw [rngD_len] at hl
      match es, hl with
      | [x, y, z], _ =>
        obtain ⟨p, rfl, P⟩ := hes x (by simp)
        obtain ⟨q, rfl, Q⟩ := hes y (by simp)
        obtain ⟨r, rfl, R⟩ := hes z (by simp)
        have c1 : catD (.lst [sD ss]) (.lst [sD p, sD q, sD r]) = pu (.lst [sD ss, sD p, sD q, sD r]) := catS (xs := [ss]) (ys := [p, q, r]) (by show 1 ≤ 100; decide) (by show 3 ≤ 100; decide)
        have rp : reprD (.lst [yD ws cs, .lst [sD ss, sD p, sD q, sD r]]) = pu (.str (shD (.lst [yD ws cs, .lst [sD ss, sD p, sD q, sD r]]))) := e_reprL (rows := [ss, p, q, r]) V (by intro x hx; simp only [List.mem_cons, List.not_mem_nil, or_false] at hx; rcases hx with rfl | rfl | rfl | rfl <;> assumption) (by show 4 ≤ 50; decide)
        have tri := dists_tri S.len P.len R.len
        have dt : decide ((dists ss p).sum + (dists p r).sum < (dists ss r).sum) = false := decide_eq_false (by omega)
        simp (decide := true) (implicitDefEqProofs := false) only [bodyD, env0, sSeq, thenF, sIf, sRet, sRetN, sRetV, sSet, sSetN, sExpr, sNil, sAsg, sPar, resD, dV, dC, dOp, dUn, dNot, dAnd, dOr, dNotT, dAndT, dOrT, dB, dIf, dChain, dTup, dCons, dNil, dLst, dLstB, dCB, dCall, dCallK, dImm, dYes, a1, a2, bTup, bLst, bCons, bNil, bName, fSeq, seqOf, fRng1, fRng2, fEn, fZip, zip2, one1, ints1, ints2, asB, asI, negD, addD, subD, modD, ltD, gtD, geD, leD, isND, isnND, intOp, intOpC, lenD_lst, lenD_tup, lenD_frz, len_sD, tupleD, listD, absD, max2D, min2D, allD, isiD, tyN, isiT_tt, isiT_ii, isiT_ib, idxD, lsA, gw, gt, opt_some, opt_none, bd_pu, bd_fl, bd_bd, chk_true, chk_tt, D.imm, D.imms, D.isN, List.map_cons, List.map_nil, List.length_cons, List.length_nil, List.set_cons_zero, List.set_cons_succ, List.getElem?_cons_zero, List.getElem?_cons_succ, List.getElem?_nil, Option.bind_some, Option.bind_none, Option.join_some, Option.join_none, Option.map_some, Bool.and_true, Bool.true_and, Bool.and_false, Bool.false_and, Bool.not_true, Bool.not_false, Bool.false_eq_true, Bool.true_eq_false, if_true, if_false, ite_true, ite_false, List.cons_append, List.nil_append, List.append_nil, Nat.zero_add, Nat.reduceAdd, Nat.reduceSub, Nat.reduceLeDiff, Int.reduceNeg, List.replicate_succ, List.replicate_zero, true_and, and_true, List.length_map, and_pu, or_pu, tand_pu, tor_pu, idx_0, idx_1, if_tt, if_ff, dSl, dNo, dSo, slD, imm_cD, imm_wD, intsD, sAppIx, sExt, sApp, lsD, sFor, seq_sD, eq_str, ne_str, eq_int, ne_int, nc0, nc1, nc2, nc3, nc4, decide_true, decide_false, ne_eq, not_true_eq_false, Int.reduceEq, not_false_eq_true, Bool.or_false, Bool.or_true, Bool.false_or, Bool.true_or, List.all_cons, List.all_nil, id_eq, c1, rp, e_bounds V S P Q R, e_far V S P, e_far V Q R, e_far V S S, e_distance V S R, e_distance V S P, e_distance V P R, dt, idx_2, idx_3, ne_same]
        exact EnC.pu ⟨_, rfl, _, _, _, _, _, _, rfl⟩
  · rintro δ' ⟨a, b, c, d', e, f, rfl⟩
    have ym : D.tup [D.tup [.tup [.int 0, .int 9], .tup [.int 0, .int 9], .tup [.int 0, .int 9]], .tup [.tup [.int 0, .int 1, .int 1, .int 2], .tup [.int 1, .int 2, .int 1, .int 2]]] = yD w0 c0 := rfl
    have m3 := mul3 (.tup [.int 0, .int 9]) rfl
    have v1 := vs0 0 1 2 (by decide) (by decide) (by decide) (by decide) (by decide)
    have v2 := vs0 3 4 6 (by decide) (by decide) (by decide) (by decide) (by decide)
    have ed := e_distance vy0 v1 v2
    have es := e_stretch vy0 v1 v2
    rw [show (dists [0, 1, 2] [3, 4, 6]).sum = 10 by decide] at ed
    rw [show lmax (dists [0, 1, 2] [3, 4, 6]) = 4 by decide] at es
    simp only [sD, List.map_cons, List.map_nil] at ed es
    have eq := eq_ints [10, 4]
    simp only [List.map_cons, List.map_nil] at eq
    simp (decide := true) (implicitDefEqProofs := false) only [bodyD, env0, sSeq, thenF, sIf, sRet, sRetN, sRetV, sSet, sSetN, sExpr, sNil, sAsg, sPar, resD, dV, dC, dOp, dUn, dNot, dAnd, dOr, dNotT, dAndT, dOrT, dB, dIf, dChain, dTup, dCons, dNil, dLst, dLstB, dCB, dCall, dCallK, dImm, dYes, a1, a2, bTup, bLst, bCons, bNil, bName, fSeq, seqOf, fRng1, fRng2, fEn, fZip, zip2, one1, ints1, ints2, asB, asI, negD, addD, subD, modD, ltD, gtD, geD, leD, isND, isnND, intOp, intOpC, lenD_lst, lenD_tup, lenD_frz, len_sD, tupleD, listD, absD, max2D, min2D, allD, isiD, tyN, isiT_tt, isiT_ii, isiT_ib, idxD, lsA, gw, gt, opt_some, opt_none, bd_pu, bd_fl, bd_bd, chk_true, chk_tt, D.imm, D.imms, D.isN, List.map_cons, List.map_nil, List.length_cons, List.length_nil, List.set_cons_zero, List.set_cons_succ, List.getElem?_cons_zero, List.getElem?_cons_succ, List.getElem?_nil, Option.bind_some, Option.bind_none, Option.join_some, Option.join_none, Option.map_some, Bool.and_true, Bool.true_and, Bool.and_false, Bool.false_and, Bool.not_true, Bool.not_false, Bool.false_eq_true, Bool.true_eq_false, if_true, if_false, ite_true, ite_false, List.cons_append, List.nil_append, List.append_nil, Nat.zero_add, Nat.reduceAdd, Nat.reduceSub, Nat.reduceLeDiff, Int.reduceNeg, List.replicate_succ, List.replicate_zero, true_and, and_true, List.length_map, and_pu, or_pu, tand_pu, tor_pu, idx_0, idx_1, if_tt, if_ff, dSl, dNo, dSo, slD, imm_cD, imm_wD, intsD, sAppIx, sExt, sApp, lsD, sFor, seq_sD, eq_str, ne_str, eq_int, ne_int, nc0, nc1, nc2, nc3, nc4, decide_true, decide_false, ne_eq, not_true_eq_false, Int.reduceEq, not_false_eq_true, Bool.or_false, Bool.or_true, Bool.false_or, Bool.true_or, List.all_cons, List.all_nil, id_eq, m3, ym, ed, es, eq]
    exact EnC.pu rfl
theorem law_math : ∀ ns : List Int, ns.length ≤ 63 → ∀ X, g_lawR (env0 N_law.length [.frz (ns.map D.int), .src]) (fun r _ => r.1 = .rt (.bl true)) X 0 := fun ns h X => en_law ns h _ X 0 (by decide) fun r _ _ q => q
end K08
namespace K08
open PySem L2 DL CY DB
def top (i : Nat) : Stmt := PySem.Challenge.pw_coupledyard_k08_minima_distances_stretch.main.body.getD i (.Pass ⟨0, 0, 0, 0⟩)
def q_is_between : {s : Stmt // top 8 = s} := ⟨_, by conv => lhs; whnf⟩
abbrev s_is_between : Stmt := q_is_between.1
def q_is_walls : {s : Stmt // top 9 = s} := ⟨_, by conv => lhs; whnf⟩
abbrev s_is_walls : Stmt := q_is_walls.1
def q_is_coupling : {s : Stmt // top 10 = s} := ⟨_, by conv => lhs; whnf⟩
abbrev s_is_coupling : Stmt := q_is_coupling.1
def q_couplings_problem : {s : Stmt // top 11 = s} := ⟨_, by conv => lhs; whnf⟩
abbrev s_couplings_problem : Stmt := q_couplings_problem.1
def q_yard_problem : {s : Stmt // top 12 = s} := ⟨_, by conv => lhs; whnf⟩
abbrev s_yard_problem : Stmt := q_yard_problem.1
def q_validate_yard : {s : Stmt // top 13 = s} := ⟨_, by conv => lhs; whnf⟩
abbrev s_validate_yard : Stmt := q_validate_yard.1
def q_arrangement_problem : {s : Stmt // top 15 = s} := ⟨_, by conv => lhs; whnf⟩
abbrev s_arrangement_problem : Stmt := q_arrangement_problem.1
def q_need_arrangement : {s : Stmt // top 17 = s} := ⟨_, by conv => lhs; whnf⟩
abbrev s_need_arrangement : Stmt := q_need_arrangement.1
def q_need_all : {s : Stmt // top 19 = s} := ⟨_, by conv => lhs; whnf⟩
abbrev s_need_all : Stmt := q_need_all.1
def q_own_distances : {s : Stmt // top 22 = s} := ⟨_, by conv => lhs; whnf⟩
abbrev s_own_distances : Stmt := q_own_distances.1
def q_distance : {s : Stmt // top 23 = s} := ⟨_, by conv => lhs; whnf⟩
abbrev s_distance : Stmt := q_distance.1
def q_stretch : {s : Stmt // top 24 = s} := ⟨_, by conv => lhs; whnf⟩
abbrev s_stretch : Stmt := q_stretch.1
def q__law_begun : {s : Stmt // top 26 = s} := ⟨_, by conv => lhs; whnf⟩
abbrev s__law_begun : Stmt := q__law_begun.1
def q__law_next : {s : Stmt // top 27 = s} := ⟨_, by conv => lhs; whnf⟩
abbrev s__law_next : Stmt := q__law_next.1
def q__law_of : {s : Stmt // top 28 = s} := ⟨_, by conv => lhs; whnf⟩
abbrev s__law_of : Stmt := q__law_of.1
def q__law_shuffled : {s : Stmt // top 29 = s} := ⟨_, by conv => lhs; whnf⟩
abbrev s__law_shuffled : Stmt := q__law_shuffled.1
def q__law_lot : {s : Stmt // top 30 = s} := ⟨_, by conv => lhs; whnf⟩
abbrev s__law_lot : Stmt := q__law_lot.1
def q__law_room : {s : Stmt // top 31 = s} := ⟨_, by conv => lhs; whnf⟩
abbrev s__law_room : Stmt := q__law_room.1
def q__law_moved : {s : Stmt // top 32 = s} := ⟨_, by conv => lhs; whnf⟩
abbrev s__law_moved : Stmt := q__law_moved.1
def q_is_allowed : {s : Stmt // top 16 = s} := ⟨_, by conv => lhs; whnf⟩
abbrev s_is_allowed : Stmt := q_is_allowed.1
def q_is_arrangement : {s : Stmt // top 18 = s} := ⟨_, by conv => lhs; whnf⟩
abbrev s_is_arrangement : Stmt := q_is_arrangement.1
def q_minimum : {s : Stmt // top 20 = s} := ⟨_, by conv => lhs; whnf⟩
abbrev s_minimum : Stmt := q_minimum.1
def q_maximum : {s : Stmt // top 21 = s} := ⟨_, by conv => lhs; whnf⟩
abbrev s_maximum : Stmt := q_maximum.1
def q__law_bounds_right : {s : Stmt // top 33 = s} := ⟨_, by conv => lhs; whnf⟩
abbrev s__law_bounds_right : Stmt := q__law_bounds_right.1
def q__law_far_right : {s : Stmt // top 34 = s} := ⟨_, by conv => lhs; whnf⟩
abbrev s__law_far_right : Stmt := q__law_far_right.1
def q_law : {s : Stmt // top 35 = s} := ⟨_, by conv => lhs; whnf⟩
abbrev s_law : Stmt := q_law.1
structure Ad where
  a_is_between : Addr
  d_is_between : FuncData
  a_is_walls : Addr
  d_is_walls : FuncData
  a_is_coupling : Addr
  d_is_coupling : FuncData
  a_couplings_problem : Addr
  d_couplings_problem : FuncData
  a_yard_problem : Addr
  d_yard_problem : FuncData
  a_validate_yard : Addr
  d_validate_yard : FuncData
  a_arrangement_problem : Addr
  d_arrangement_problem : FuncData
  a_need_arrangement : Addr
  d_need_arrangement : FuncData
  a_need_all : Addr
  d_need_all : FuncData
  a_own_distances : Addr
  d_own_distances : FuncData
  a_distance : Addr
  d_distance : FuncData
  a_stretch : Addr
  d_stretch : FuncData
  a__law_begun : Addr
  d__law_begun : FuncData
  a__law_next : Addr
  d__law_next : FuncData
  a__law_of : Addr
  d__law_of : FuncData
  a__law_shuffled : Addr
  d__law_shuffled : FuncData
  a__law_lot : Addr
  d__law_lot : FuncData
  a__law_room : Addr
  d__law_room : FuncData
  a__law_moved : Addr
  d__law_moved : FuncData
  a_is_allowed : Addr
  d_is_allowed : FuncData
  a_is_arrangement : Addr
  d_is_arrangement : FuncData
  a_minimum : Addr
  d_minimum : FuncData
  a_maximum : Addr
  d_maximum : FuncData
  a__law_bounds_right : Addr
  d__law_bounds_right : FuncData
  a__law_far_right : Addr
  d__law_far_right : FuncData
  a_law : Addr
  d_law : FuncData
structure Tx (K : PySem.W.Frag) (mg : Str → Option Value) (A : Ad) : Prop where
  h_is_between : L2.Fun K "is_between" "is_between" s_is_between A.a_is_between A.d_is_between
  m_is_between : mg "is_between" = some (.ref A.a_is_between)
  h_is_walls : L2.Fun K "is_walls" "is_walls" s_is_walls A.a_is_walls A.d_is_walls
  m_is_walls : mg "is_walls" = some (.ref A.a_is_walls)
  h_is_coupling : L2.Fun K "is_coupling" "is_coupling" s_is_coupling A.a_is_coupling A.d_is_coupling
  m_is_coupling : mg "is_coupling" = some (.ref A.a_is_coupling)
  h_couplings_problem : L2.Fun K "couplings_problem" "couplings_problem" s_couplings_problem A.a_couplings_problem A.d_couplings_problem
  m_couplings_problem : mg "couplings_problem" = some (.ref A.a_couplings_problem)
  h_yard_problem : L2.Fun K "yard_problem" "yard_problem" s_yard_problem A.a_yard_problem A.d_yard_problem
  m_yard_problem : mg "yard_problem" = some (.ref A.a_yard_problem)
  h_validate_yard : L2.Fun K "validate_yard" "validate_yard" s_validate_yard A.a_validate_yard A.d_validate_yard
  m_validate_yard : mg "validate_yard" = some (.ref A.a_validate_yard)
  h_arrangement_problem : L2.Fun K "arrangement_problem" "arrangement_problem" s_arrangement_problem A.a_arrangement_problem A.d_arrangement_problem
  m_arrangement_problem : mg "arrangement_problem" = some (.ref A.a_arrangement_problem)
  h_need_arrangement : L2.Fun K "need_arrangement" "need_arrangement" s_need_arrangement A.a_need_arrangement A.d_need_arrangement
  m_need_arrangement : mg "need_arrangement" = some (.ref A.a_need_arrangement)
  h_need_all : L2.Fun K "need_all" "need_all" s_need_all A.a_need_all A.d_need_all
  m_need_all : mg "need_all" = some (.ref A.a_need_all)
  h_own_distances : L2.Fun K "own_distances" "own_distances" s_own_distances A.a_own_distances A.d_own_distances
  m_own_distances : mg "own_distances" = some (.ref A.a_own_distances)
  h_distance : L2.Fun K "distance" "distance" s_distance A.a_distance A.d_distance
  m_distance : mg "distance" = some (.ref A.a_distance)
  h_stretch : L2.Fun K "stretch" "stretch" s_stretch A.a_stretch A.d_stretch
  m_stretch : mg "stretch" = some (.ref A.a_stretch)
  h__law_begun : L2.Fun K "_law_begun" "_law_begun" s__law_begun A.a__law_begun A.d__law_begun
  m__law_begun : mg "_law_begun" = some (.ref A.a__law_begun)
  h__law_next : L2.Fun K "_law_next" "_law_next" s__law_next A.a__law_next A.d__law_next
  m__law_next : mg "_law_next" = some (.ref A.a__law_next)
  h__law_of : L2.Fun K "_law_of" "_law_of" s__law_of A.a__law_of A.d__law_of
  m__law_of : mg "_law_of" = some (.ref A.a__law_of)
  h__law_shuffled : L2.Fun K "_law_shuffled" "_law_shuffled" s__law_shuffled A.a__law_shuffled A.d__law_shuffled
  m__law_shuffled : mg "_law_shuffled" = some (.ref A.a__law_shuffled)
  h__law_lot : L2.Fun K "_law_lot" "_law_lot" s__law_lot A.a__law_lot A.d__law_lot
  m__law_lot : mg "_law_lot" = some (.ref A.a__law_lot)
  h__law_room : L2.Fun K "_law_room" "_law_room" s__law_room A.a__law_room A.d__law_room
  m__law_room : mg "_law_room" = some (.ref A.a__law_room)
  h__law_moved : L2.Fun K "_law_moved" "_law_moved" s__law_moved A.a__law_moved A.d__law_moved
  m__law_moved : mg "_law_moved" = some (.ref A.a__law_moved)
  h_is_allowed : L2.Fun K "is_allowed" "is_allowed" s_is_allowed A.a_is_allowed A.d_is_allowed
  m_is_allowed : mg "is_allowed" = some (.ref A.a_is_allowed)
  h_is_arrangement : L2.Fun K "is_arrangement" "is_arrangement" s_is_arrangement A.a_is_arrangement A.d_is_arrangement
  m_is_arrangement : mg "is_arrangement" = some (.ref A.a_is_arrangement)
  h_minimum : L2.Fun K "minimum" "minimum" s_minimum A.a_minimum A.d_minimum
  m_minimum : mg "minimum" = some (.ref A.a_minimum)
  h_maximum : L2.Fun K "maximum" "maximum" s_maximum A.a_maximum A.d_maximum
  m_maximum : mg "maximum" = some (.ref A.a_maximum)
  h__law_bounds_right : L2.Fun K "_law_bounds_right" "_law_bounds_right" s__law_bounds_right A.a__law_bounds_right A.d__law_bounds_right
  m__law_bounds_right : mg "_law_bounds_right" = some (.ref A.a__law_bounds_right)
  h__law_far_right : L2.Fun K "_law_far_right" "_law_far_right" s__law_far_right A.a__law_far_right A.d__law_far_right
  m__law_far_right : mg "_law_far_right" = some (.ref A.a__law_far_right)
  h_law : L2.Fun K "law" "law" s_law A.a_law A.d_law
  m_law : mg "law" = some (.ref A.a_law)
  n_abs : mg "abs" = none
  n_all : mg "all" = none
  n_bool : mg "bool" = none
  n_enumerate : mg "enumerate" = none
  n_int : mg "int" = none
  n_isinstance : mg "isinstance" = none
  n_len : mg "len" = none
  n_list : mg "list" = none
  n_max : mg "max" = none
  n_min : mg "min" = none
  n_range : mg "range" = none
  n_repr : mg "repr" = none
  n_sorted : mg "sorted" = none
  n_sum : mg "sum" = none
  n_tuple : mg "tuple" = none
  n_zip : mg "zip" = none
  c_MOST_DIFFERENCE : ∃ t, mg "MOST_DIFFERENCE" = some (.int 10000000000 t)
  c_MOST_PLACE : ∃ t, mg "MOST_PLACE" = some (.int 1000000000 t)
  c_MOST_WAGONS : ∃ t, mg "MOST_WAGONS" = some (.int 40 t)
section
variable {P : Program} {w : World} {K : PySem.W.Frag} {mg : Str → Option Value} {base : Heap} {Ar : Ad}
theorem sc_is_between : FnScope N_is_between ["value", "least", "most"] (defScope s_is_between) := ⟨rfl, rfl, rfl, by decide +kernel, rfl, by decide +kernel, by decide +kernel⟩
theorem kb_is_between (T : Tx K mg Ar) : KB K Ar.d_is_between ["value", "least", "most"] 3 [] (List.range 3) := kb_of T.h_is_between fun _ _ _ _ _ _ us ws h1 h2 => match us, ws, h1, h2 with
  | [_, _, _], [], _, _ => rfl
set_option maxHeartbeats 4000000 in
theorem ok_is_between (T : Tx K mg Ar) : FnG P w K mg base CX0 1 Ar.a_is_between Ar.d_is_between ["value", "least", "most"] (spD (K := K) F_is_between) :=
  fnD (n := 3) (N := N_is_between) (own := []) (g := g_is_between) T.h_is_between sc_is_between rfl (by decide) (by decide) fun cdv A outer s H E hr gd G H0 xq =>
    (sd_one (sd_ret (pd_and (qd_callB cc_isi PyProof.Rows.boot_isinstance (by rfl) T.n_isinstance (pda_cons (pd_v 0 (pv 0)) (pda_cons (pd_ty (by rfl) T.n_int PyProof.Rows.boot_int) pda_nil))) (pd_and (pd_not (qd_callB cc_isi PyProof.Rows.boot_isinstance (by rfl) T.n_isinstance (pda_cons (pd_v 0 (pv 0)) (pda_cons (pd_ty (by rfl) T.n_bool PyProof.Rows.boot_bool) pda_nil)))) (pd_one (qd_chain (oo_le hr) (oo_le hr) (pd_v 1 (pv 1)) (pd_v 0 (pv 0)) (pd_v 2 (pv 2))))))))
theorem sc_is_walls : FnScope N_is_walls ["value"] (defScope s_is_walls) := ⟨rfl, rfl, rfl, by decide +kernel, rfl, by decide +kernel, by decide +kernel⟩
theorem kb_is_walls (T : Tx K mg Ar) : KB K Ar.d_is_walls ["value"] 1 [] (List.range 1) := kb_of T.h_is_walls fun _ _ _ _ _ _ us ws h1 h2 => match us, ws, h1, h2 with
  | [_], [], _, _ => rfl
set_option maxHeartbeats 4000000 in
theorem ok_is_walls (T : Tx K mg Ar) : FnG P w K mg base CX0 2 Ar.a_is_walls Ar.d_is_walls ["value"] (spD (K := K) F_is_walls) :=
  fnD (n := 1) (N := N_is_walls) (own := [1]) (g := g_is_walls) T.h_is_walls sc_is_walls rfl (by decide) (by decide) fun cdv A outer s H E hr gd G H0 xq =>
    (sd_cons (sd_if ((pw_o (pt_n (pt_v (qd_callB cc_isi PyProof.Rows.boot_isinstance (by rfl) T.n_isinstance (pda_cons (pd_v 0 (pv 0)) (pda_cons (pd_ty (by rfl) T.n_tuple PyProof.Rows.boot_tuple) pda_nil))))) (pw_o1 (qt_c (oo_ne hr) (qd_callB cc_len PySem.boot_len (by rfl) T.n_len (pda_cons (pd_v 0 (pv 0)) pda_nil)) pd_int (nomark _))))).pt (sd_one (sd_ret pd_bl)) sd_nil)
      (sd_one (sd_ret (pd_and (qd_callB (cc_all rfl) PyProof.Rows.boot_all (by rfl) T.n_all (pda_cons (pd_new (pn_lc (own := [("place", 1)]) rfl sc_is_walls.nd (id_seq (pd_v 0 (pv 0))) (blkOk_by (N := N_is_walls) (sc := defScope s_is_walls) (by decide +kernel)) (fun _ _ _ _ _ => (gd_name (i := 1) sc_is_walls.nd rfl (Or.inl rfl))) (fun _ _ _ _ _ => pts0) (fun _ _ _ _ _ => (pd_new (pn_call (ok_is_between T) (bodyD_len _ _ _) (hr.mono (by decide)) gd (by rfl) T.m_is_between T.h_is_between.kp (kb_is_between T) (pda_cons (pd_v 1 (pv 1)) (pda_cons (pd_neg (pd_c (pe_glob (v := V.int 1000000000) (by rfl) T.c_MOST_PLACE.choose_spec ⟨_, rfl⟩) (fun _ => .int _))) (pda_cons (pd_c (pe_glob (v := V.int 1000000000) (by rfl) T.c_MOST_PLACE.choose_spec ⟨_, rfl⟩) (fun _ => .int _)) pda_nil)))))) (by decide))) pda_nil)) (pd_one (qd_cmp (oo_le hr) (qd_ix (pd_v 0 (pv 0)) pd_int (fun _ _ => rfl)) (qd_ix (pd_v 0 (pv 0)) pd_int (fun _ _ => rfl)) (nomark _)))))))
theorem sc_is_coupling : FnScope N_is_coupling ["value", "many"] (defScope s_is_coupling) := ⟨rfl, rfl, rfl, by decide +kernel, rfl, by decide +kernel, by decide +kernel⟩
theorem kb_is_coupling (T : Tx K mg Ar) : KB K Ar.d_is_coupling ["value", "many"] 2 [] (List.range 2) := kb_of T.h_is_coupling fun _ _ _ _ _ _ us ws h1 h2 => match us, ws, h1, h2 with
  | [_, _], [], _, _ => rfl
set_option maxHeartbeats 4000000 in
theorem ok_is_coupling (T : Tx K mg Ar) : FnG P w K mg base CX0 2 Ar.a_is_coupling Ar.d_is_coupling ["value", "many"] (spD (K := K) F_is_coupling) :=
  fnD (n := 2) (N := N_is_coupling) (own := [2, 3, 4, 5]) (g := g_is_coupling) T.h_is_coupling sc_is_coupling rfl (by decide) (by decide) fun cdv A outer s H E hr gd G H0 xq =>
    (sd_cons (sd_if ((pw_o (pt_n (pt_v (qd_callB cc_isi PyProof.Rows.boot_isinstance (by rfl) T.n_isinstance (pda_cons (pd_v 0 (pv 0)) (pda_cons (pd_ty (by rfl) T.n_tuple PyProof.Rows.boot_tuple) pda_nil))))) (pw_o1 (qt_c (oo_ne hr) (qd_callB cc_len PySem.boot_len (by rfl) T.n_len (pda_cons (pd_v 0 (pv 0)) pda_nil)) pd_int (nomark _))))).pt (sd_one (sd_ret pd_bl)) sd_nil)
      (sd_cons (sd_asg (pd_v 0 (pv 0)) (gd_tup rfl (gds_cons (gd_name (i := 2) sc_is_coupling.nd rfl (Or.inl rfl)) (gds_cons (gd_name (i := 3) sc_is_coupling.nd rfl (Or.inl rfl)) (gds_cons (gd_name (i := 4) sc_is_coupling.nd rfl (Or.inl rfl)) (gds_cons (gd_name (i := 5) sc_is_coupling.nd rfl (Or.inl rfl)) gds_nil))))))
      (sd_cons (sd_if ((pw_o (pt_n (pt_v (pd_new (pn_call (ok_is_between T) (bodyD_len _ _ _) (hr.mono (by decide)) gd (by rfl) T.m_is_between T.h_is_between.kp (kb_is_between T) (pda_cons (pd_v 2 (pv 2)) (pda_cons pd_int (pda_cons (qd_op oo_sub (pd_v 1 (pv 1)) pd_int) pda_nil))))))) (pw_o (pt_n (pt_v (pd_new (pn_call (ok_is_between T) (bodyD_len _ _ _) (hr.mono (by decide)) gd (by rfl) T.m_is_between T.h_is_between.kp (kb_is_between T) (pda_cons (pd_v 3 (pv 3)) (pda_cons pd_int (pda_cons (qd_op oo_sub (pd_v 1 (pv 1)) pd_int) pda_nil))))))) (pw_o1 (qt_c oo_ge (pd_v 2 (pv 2)) (pd_v 3 (pv 3)) (nomark _)))))).pt (sd_one (sd_ret pd_bl)) sd_nil)
      (sd_cons (sd_if (pt_n (pt_v (pd_new (pn_call (ok_is_between T) (bodyD_len _ _ _) (hr.mono (by decide)) gd (by rfl) T.m_is_between T.h_is_between.kp (kb_is_between T) (pda_cons (pd_v 4 (pv 4)) (pda_cons (pd_neg (pd_c (pe_glob (v := V.int 10000000000) (by rfl) T.c_MOST_DIFFERENCE.choose_spec ⟨_, rfl⟩) (fun _ => .int _))) (pda_cons (pd_c (pe_glob (v := V.int 10000000000) (by rfl) T.c_MOST_DIFFERENCE.choose_spec ⟨_, rfl⟩) (fun _ => .int _)) pda_nil))))))) (sd_one (sd_ret pd_bl)) sd_nil)
      (sd_one (sd_ret (pd_and (pd_new (pn_call (ok_is_between T) (bodyD_len _ _ _) (hr.mono (by decide)) gd (by rfl) T.m_is_between T.h_is_between.kp (kb_is_between T) (pda_cons (pd_v 5 (pv 5)) (pda_cons (pd_neg (pd_c (pe_glob (v := V.int 10000000000) (by rfl) T.c_MOST_DIFFERENCE.choose_spec ⟨_, rfl⟩) (fun _ => .int _))) (pda_cons (pd_c (pe_glob (v := V.int 10000000000) (by rfl) T.c_MOST_DIFFERENCE.choose_spec ⟨_, rfl⟩) (fun _ => .int _)) pda_nil))))) (pd_one (qd_cmp oo_lt (pd_v 4 (pv 4)) (pd_v 5 (pv 5)) (nomark _))))))))))
theorem sc_couplings_problem : FnScope N_couplings_problem ["couplings", "many"] (defScope s_couplings_problem) := ⟨rfl, rfl, rfl, by decide +kernel, rfl, by decide +kernel, by decide +kernel⟩
theorem kb_couplings_problem (T : Tx K mg Ar) : KB K Ar.d_couplings_problem ["couplings", "many"] 2 [] (List.range 2) := kb_of T.h_couplings_problem fun _ _ _ _ _ _ us ws h1 h2 => match us, ws, h1, h2 with
  | [_, _], [], _, _ => rfl
set_option maxHeartbeats 4000000 in
theorem ok_couplings_problem (T : Tx K mg Ar) : FnG P w K mg base CX0 3 Ar.a_couplings_problem Ar.d_couplings_problem ["couplings", "many"] (spD (K := K) F_couplings_problem) :=
  fnD (n := 2) (N := N_couplings_problem) (own := [2, 3, 4, 5, 6, 7, 8]) (g := g_couplings_problem) T.h_couplings_problem sc_couplings_problem rfl (by decide) (by decide) fun cdv A outer s H E hr gd G H0 xq =>
    (sd_cons (sd_par (i := 2) (j := 3) rfl sc_couplings_problem.nd rfl rfl (by decide) rfl rfl (pn_listRng rfl (by rfl) T.n_list (by rfl) T.n_range (pd_v 1 (pv 1))) (pn_imm (pd_tup (pda_cons (pd_neg pd_int) (pda_cons (pd_neg pd_int) pda_nil)))) rfl)
      (sd_cons (sd_for PassesOwn.never rfl (id_en (by rfl) T.n_enumerate (pda_cons (pd_v 0 (pv 0)) pda_nil)) (gd_tup rfl (gds_cons (gd_name (i := 4) sc_couplings_problem.nd rfl (Or.inl rfl)) (gds_cons (gd_name (i := 5) sc_couplings_problem.nd rfl (Or.inl rfl)) gds_nil))) (sd_cons (sd_if ((pw_o (pt_n (pt_v (pd_new (pn_call (ok_is_coupling T) (bodyD_len _ _ _) (hr.mono (by decide)) gd (by rfl) T.m_is_coupling T.h_is_coupling.kp (kb_is_coupling T) (pda_cons (pd_v 5 (pv 5)) (pda_cons (pd_v 1 (pv 1)) pda_nil)))))) (pw_o1 (qt_c (oo_le hr) (pn_sl (pd_v 5 (pv 5)) pt_no (pt_so pd_int)) (pd_v 3 (pv 3)) (nomark _))))).pt (sd_one (sd_ret (pd_v 4 (pv 4)))) sd_nil)
      (sd_cons (sd_set (i := 3) sc_couplings_problem.nd rfl (Or.inl rfl) (pn_sl (pd_v 5 (pv 5)) pt_no (pt_so pd_int)))
      (sd_cons (sd_parT (i := 6) (j := 7) rfl sc_couplings_problem.nd rfl rfl (Or.inr rfl) (Or.inr rfl) (pn_imm (qd_ix (pd_v 2 (pv 2)) (qd_ix (pd_v 3 (pv 3)) pd_int (fun _ _ => rfl)) (fun _ _ => rfl))) (pn_imm (qd_ix (pd_v 2 (pv 2)) (qd_ix (pd_v 3 (pv 3)) pd_int (fun _ _ => rfl)) (fun _ _ => rfl))) rfl)
      (sd_cons (sd_if (qt_c (oo_eq hr) (pd_v 6 (pv 6)) (pd_v 7 (pv 7)) (nomark _)) (sd_one (sd_ret (pd_v 4 (pv 4)))) sd_nil)
      (sd_one (sd_setLc (i := 2) (own := [("label", 8)]) rfl sc_couplings_problem.nd rfl rfl (sw_true rfl rfl rfl (by decide +kernel)) (id_seq (pd_v 2 (pv 2))) (blkOk_by (N := N_couplings_problem) (sc := defScope s_couplings_problem) (by decide +kernel)) (fun _ _ _ _ _ => (gd_name (i := 8) sc_couplings_problem.nd rfl (Or.inl rfl))) (fun _ _ _ _ _ => pts0) (fun _ _ _ _ _ => (pd_if (qt_c (oo_eq hr) (pd_v 8 (pv 8)) (pd_v 7 (pv 7)) (nomark _)) (pd_v 6 (pv 6)) (pd_v 8 (pv 8)))) (by decide))))))) (by decide))
      (sd_one (sd_ret pd_non))))
theorem sc_yard_problem : FnScope N_yard_problem ["value"] (defScope s_yard_problem) := ⟨rfl, rfl, rfl, by decide +kernel, rfl, by decide +kernel, by decide +kernel⟩
theorem kb_yard_problem (T : Tx K mg Ar) : KB K Ar.d_yard_problem ["value"] 1 [] (List.range 1) := kb_of T.h_yard_problem fun _ _ _ _ _ _ us ws h1 h2 => match us, ws, h1, h2 with
  | [_], [], _, _ => rfl
set_option maxHeartbeats 4000000 in
theorem ok_yard_problem (T : Tx K mg Ar) : FnG P w K mg base CX0 4 Ar.a_yard_problem Ar.d_yard_problem ["value"] (spD (K := K) F_yard_problem) :=
  fnD (n := 1) (N := N_yard_problem) (own := [1, 2, 3, 4]) (g := g_yard_problem) T.h_yard_problem sc_yard_problem rfl (by decide) (by decide) fun cdv A outer s H E hr gd G H0 xq =>
    (sd_cons (sd_if ((pw_o (pt_n (pt_v (qd_callB cc_isi PyProof.Rows.boot_isinstance (by rfl) T.n_isinstance (pda_cons (pd_v 0 (pv 0)) (pda_cons (pd_ty (by rfl) T.n_tuple PyProof.Rows.boot_tuple) pda_nil))))) (pw_o1 (qt_c (oo_ne hr) (qd_callB cc_len PySem.boot_len (by rfl) T.n_len (pda_cons (pd_v 0 (pv 0)) pda_nil)) pd_int (nomark _))))).pt (sd_one (sd_ret (pd_tup (pda_cons pd_str (pda_cons pd_non pda_nil))))) sd_nil)
      (sd_cons (sd_asg (pd_v 0 (pv 0)) (gd_tup rfl (gds_cons (gd_name (i := 1) sc_yard_problem.nd rfl (Or.inl rfl)) (gds_cons (gd_name (i := 2) sc_yard_problem.nd rfl (Or.inl rfl)) gds_nil))))
      (sd_cons (sd_if ((pw_o (pt_n (pt_v (qd_callB cc_isi PyProof.Rows.boot_isinstance (by rfl) T.n_isinstance (pda_cons (pd_v 1 (pv 1)) (pda_cons (pd_ty (by rfl) T.n_tuple PyProof.Rows.boot_tuple) pda_nil))))) (pw_o1 (pt_n (qt_ch (oo_le hr) (oo_le hr) pd_int (qd_callB cc_len PySem.boot_len (by rfl) T.n_len (pda_cons (pd_v 1 (pv 1)) pda_nil)) (pd_c (pe_glob (v := V.int 40) (by rfl) T.c_MOST_WAGONS.choose_spec ⟨_, rfl⟩) (fun _ => .int _))))))).pt (sd_one (sd_ret (pd_tup (pda_cons pd_str (pda_cons pd_non pda_nil))))) sd_nil)
      (sd_cons (sd_for PassesOwn.never rfl (id_en (by rfl) T.n_enumerate (pda_cons (pd_v 1 (pv 1)) pda_nil)) (gd_tup rfl (gds_cons (gd_name (i := 3) sc_yard_problem.nd rfl (Or.inl rfl)) (gds_cons (gd_name (i := 4) sc_yard_problem.nd rfl (Or.inl rfl)) gds_nil))) (sd_one (sd_if (pt_n (pt_v (pd_new (pn_call (ok_is_walls T) (bodyD_len _ _ _) (hr.mono (by decide)) gd (by rfl) T.m_is_walls T.h_is_walls.kp (kb_is_walls T) (pda_cons (pd_v 4 (pv 4)) pda_nil))))) (sd_one (sd_ret (pd_tup (pda_cons pd_str (pda_cons (pd_v 3 (pv 3)) pda_nil))))) sd_nil)) (by decide))
      (sd_cons (sd_if (pt_n (pt_v (qd_callB cc_isi PyProof.Rows.boot_isinstance (by rfl) T.n_isinstance (pda_cons (pd_v 2 (pv 2)) (pda_cons (pd_ty (by rfl) T.n_tuple PyProof.Rows.boot_tuple) pda_nil))))) (sd_one (sd_ret (pd_tup (pda_cons pd_str (pda_cons pd_non pda_nil))))) sd_nil)
      (sd_cons (sd_setN (i := 3) sc_yard_problem.nd rfl (Or.inl rfl) (pn_call (ok_couplings_problem T) (bodyD_len _ _ _) (hr.mono (by decide)) gd (by rfl) T.m_couplings_problem T.h_couplings_problem.kp (kb_couplings_problem T) (pda_cons (pd_v 2 (pv 2)) (pda_cons (qd_callB cc_len PySem.boot_len (by rfl) T.n_len (pda_cons (pd_v 1 (pv 1)) pda_nil)) pda_nil))))
      (sd_one (sd_ret (pd_if (qt_c oo_is (pd_v 3 (pv 3)) pd_non (nomark _)) pd_non (pd_tup (pda_cons pd_str (pda_cons (pd_v 3 (pv 3)) pda_nil))))))))))))
theorem sc_validate_yard : FnScope N_validate_yard ["yard"] (defScope s_validate_yard) := ⟨rfl, rfl, rfl, by decide +kernel, rfl, by decide +kernel, by decide +kernel⟩
theorem kb_validate_yard (T : Tx K mg Ar) : KB K Ar.d_validate_yard ["yard"] 1 [] (List.range 1) := kb_of T.h_validate_yard fun _ _ _ _ _ _ us ws h1 h2 => match us, ws, h1, h2 with
  | [_], [], _, _ => rfl
set_option maxHeartbeats 4000000 in
theorem ok_validate_yard (T : Tx K mg Ar) : FnG P w K mg base CX0 5 Ar.a_validate_yard Ar.d_validate_yard ["yard"] (spD (K := K) F_validate_yard) :=
  fnD (n := 1) (N := N_validate_yard) (own := [1]) (g := g_validate_yard) T.h_validate_yard sc_validate_yard rfl (by decide) (by decide) fun cdv A outer s H E hr gd G H0 xq =>
    (sd_cons (sd_setN (i := 1) sc_validate_yard.nd rfl (Or.inl rfl) (pn_call (ok_yard_problem T) (bodyD_len _ _ _) (hr.mono (by decide)) gd (by rfl) T.m_yard_problem T.h_yard_problem.kp (kb_yard_problem T) (pda_cons (pd_v 0 (pv 0)) pda_nil)))
      (sd_one (sd_if (qt_c oo_isn (pd_v 1 (pv 1)) pd_non (nomark _)) (sd_one sd_never) sd_nil)))
theorem sc_arrangement_problem : FnScope N_arrangement_problem ["yard", "value"] (defScope s_arrangement_problem) := ⟨rfl, rfl, rfl, by decide +kernel, rfl, by decide +kernel, by decide +kernel⟩
theorem kb_arrangement_problem (T : Tx K mg Ar) : KB K Ar.d_arrangement_problem ["yard", "value"] 2 [] (List.range 2) := kb_of T.h_arrangement_problem fun _ _ _ _ _ _ us ws h1 h2 => match us, ws, h1, h2 with
  | [_, _], [], _, _ => rfl
set_option maxHeartbeats 4000000 in
theorem ok_arrangement_problem (T : Tx K mg Ar) : FnG P w K mg base CX0 2 Ar.a_arrangement_problem Ar.d_arrangement_problem ["yard", "value"] (spD (K := K) F_arrangement_problem) :=
  fnD (n := 2) (N := N_arrangement_problem) (own := [2, 3, 4, 5, 6, 7, 8, 9]) (g := g_arrangement_problem) T.h_arrangement_problem sc_arrangement_problem rfl (by decide) (by decide) fun cdv A outer s H E hr gd G H0 xq =>
    (sd_cons (sd_if ((pw_o (pt_n (pt_v (qd_callB cc_isi PyProof.Rows.boot_isinstance (by rfl) T.n_isinstance (pda_cons (pd_v 1 (pv 1)) (pda_cons (pd_ty (by rfl) T.n_tuple PyProof.Rows.boot_tuple) pda_nil))))) (pw_o1 (qt_c (oo_ne hr) (qd_callB cc_len PySem.boot_len (by rfl) T.n_len (pda_cons (pd_v 1 (pv 1)) pda_nil)) (qd_callB cc_len PySem.boot_len (by rfl) T.n_len (pda_cons (qd_ix (pd_v 0 (pv 0)) pd_int (fun _ _ => rfl)) pda_nil)) (nomark _))))).pt (sd_one (sd_ret (pd_tup (pda_cons pd_str (pda_cons pd_non pda_nil))))) sd_nil)
      (sd_cons (sd_for PassesOwn.never rfl (id_en (by rfl) T.n_enumerate (pda_cons (qd_ix (pd_v 0 (pv 0)) pd_int (fun _ _ => rfl)) pda_nil)) (gd_tup rfl (gds_cons (gd_name (i := 2) sc_arrangement_problem.nd rfl (Or.inl rfl)) (gds_cons (gd_tup rfl (gds_cons (gd_name (i := 3) sc_arrangement_problem.nd rfl (Or.inl rfl)) (gds_cons (gd_name (i := 4) sc_arrangement_problem.nd rfl (Or.inl rfl)) gds_nil))) gds_nil))) (sd_one (sd_if (pt_n (pt_v (pd_new (pn_call (ok_is_between T) (bodyD_len _ _ _) (hr.mono (by decide)) gd (by rfl) T.m_is_between T.h_is_between.kp (kb_is_between T) (pda_cons (qd_ix (pd_v 1 (pv 1)) (pd_v 2 (pv 2)) (fun _ _ => rfl)) (pda_cons (pd_v 3 (pv 3)) (pda_cons (pd_v 4 (pv 4)) pda_nil))))))) (sd_one (sd_ret (pd_tup (pda_cons pd_str (pda_cons (pd_v 2 (pv 2)) pda_nil))))) sd_nil)) (by decide))
      (sd_cons (sd_for PassesOwn.never rfl (id_en (by rfl) T.n_enumerate (pda_cons (qd_ix (pd_v 0 (pv 0)) pd_int (fun _ _ => rfl)) pda_nil)) (gd_tup rfl (gds_cons (gd_name (i := 5) sc_arrangement_problem.nd rfl (Or.inl rfl)) (gds_cons (gd_tup rfl (gds_cons (gd_name (i := 6) sc_arrangement_problem.nd rfl (Or.inl rfl)) (gds_cons (gd_name (i := 7) sc_arrangement_problem.nd rfl (Or.inl rfl)) (gds_cons (gd_name (i := 8) sc_arrangement_problem.nd rfl (Or.inl rfl)) (gds_cons (gd_name (i := 9) sc_arrangement_problem.nd rfl (Or.inl rfl)) gds_nil))))) gds_nil))) (sd_one (sd_if (pt_n (qt_ch (oo_le hr) (oo_le hr) (pd_v 8 (pv 8)) (qd_op oo_sub (qd_ix (pd_v 1 (pv 1)) (pd_v 7 (pv 7)) (fun _ _ => rfl)) (qd_ix (pd_v 1 (pv 1)) (pd_v 6 (pv 6)) (fun _ _ => rfl))) (pd_v 9 (pv 9)))) (sd_one (sd_ret (pd_tup (pda_cons pd_str (pda_cons (pd_v 5 (pv 5)) pda_nil))))) sd_nil)) (by decide))
      (sd_one (sd_ret pd_non)))))
theorem sc_need_arrangement : FnScope N_need_arrangement ["yard", "arrangement"] (defScope s_need_arrangement) := ⟨rfl, rfl, rfl, by decide +kernel, rfl, by decide +kernel, by decide +kernel⟩
theorem kb_need_arrangement (T : Tx K mg Ar) : KB K Ar.d_need_arrangement ["yard", "arrangement"] 2 [] (List.range 2) := kb_of T.h_need_arrangement fun _ _ _ _ _ _ us ws h1 h2 => match us, ws, h1, h2 with
  | [_, _], [], _, _ => rfl
set_option maxHeartbeats 4000000 in
theorem ok_need_arrangement (T : Tx K mg Ar) : FnG P w K mg base CX0 3 Ar.a_need_arrangement Ar.d_need_arrangement ["yard", "arrangement"] (spD (K := K) F_need_arrangement) :=
  fnD (n := 2) (N := N_need_arrangement) (own := [2]) (g := g_need_arrangement) T.h_need_arrangement sc_need_arrangement rfl (by decide) (by decide) fun cdv A outer s H E hr gd G H0 xq =>
    (sd_cons (sd_setN (i := 2) sc_need_arrangement.nd rfl (Or.inl rfl) (pn_call (ok_arrangement_problem T) (bodyD_len _ _ _) (hr.mono (by decide)) gd (by rfl) T.m_arrangement_problem T.h_arrangement_problem.kp (kb_arrangement_problem T) (pda_cons (pd_v 0 (pv 0)) (pda_cons (pd_v 1 (pv 1)) pda_nil))))
      (sd_one (sd_if (qt_c oo_isn (pd_v 2 (pv 2)) pd_non (nomark _)) (sd_one sd_never) sd_nil)))
theorem sc_need_all : FnScope N_need_all ["yard", "arrangements"] (defScope s_need_all) := ⟨rfl, rfl, rfl, by decide +kernel, rfl, by decide +kernel, by decide +kernel⟩
theorem kb_need_all (T : Tx K mg Ar) : KB K Ar.d_need_all ["yard", "arrangements"] 2 [] (List.range 2) := kb_of T.h_need_all fun _ _ _ _ _ _ us ws h1 h2 => match us, ws, h1, h2 with
  | [_, _], [], _, _ => rfl
set_option maxHeartbeats 4000000 in
theorem ok_need_all (T : Tx K mg Ar) : FnG P w K mg base CX0 6 Ar.a_need_all Ar.d_need_all ["yard", "arrangements"] (spD (K := K) F_need_all) :=
  fnD (n := 2) (N := N_need_all) (own := [2]) (g := g_need_all) T.h_need_all sc_need_all rfl (by decide) (by decide) fun cdv A outer s H E hr gd G H0 xq =>
    (sd_cons (sd_expr (pd_new (pn_call (ok_validate_yard T) (bodyD_len _ _ _) (hr.mono (by decide)) gd (by rfl) T.m_validate_yard T.h_validate_yard.kp (kb_validate_yard T) (pda_cons (pd_v 0 (pv 0)) pda_nil))))
      (sd_one (sd_for PassesOwn.never rfl (id_seq (pd_v 1 (pv 1))) (gd_name (i := 2) sc_need_all.nd rfl (Or.inl rfl)) (sd_one (sd_expr (pd_new (pn_call (ok_need_arrangement T) (bodyD_len _ _ _) (hr.mono (by decide)) gd (by rfl) T.m_need_arrangement T.h_need_arrangement.kp (kb_need_arrangement T) (pda_cons (pd_v 0 (pv 0)) (pda_cons (pd_v 2 (pv 2)) pda_nil)))))) (by decide))))
theorem sc_own_distances : FnScope N_own_distances ["start", "goal"] (defScope s_own_distances) := ⟨rfl, rfl, rfl, by decide +kernel, rfl, by decide +kernel, by decide +kernel⟩
theorem kb_own_distances (T : Tx K mg Ar) : KB K Ar.d_own_distances ["start", "goal"] 2 [] (List.range 2) := kb_of T.h_own_distances fun _ _ _ _ _ _ us ws h1 h2 => match us, ws, h1, h2 with
  | [_, _], [], _, _ => rfl
set_option maxHeartbeats 4000000 in
theorem ok_own_distances (T : Tx K mg Ar) : FnG P w K mg base CX0 1 Ar.a_own_distances Ar.d_own_distances ["start", "goal"] (spD (K := K) F_own_distances) :=
  fnD (n := 2) (N := N_own_distances) (own := [2, 3]) (g := g_own_distances) T.h_own_distances sc_own_distances rfl (by decide) (by decide) fun cdv A outer s H E hr gd G H0 xq =>
    (sd_one (sd_retN (pn_lc (own := [("one", 2), ("other", 3)]) rfl sc_own_distances.nd (id_zip (by rfl) T.n_zip (pda_cons (pd_v 0 (pv 0)) (pda_cons (pd_v 1 (pv 1)) pda_nil))) (blkOk_by (N := N_own_distances) (sc := defScope s_own_distances) (by decide +kernel)) (fun _ _ _ _ _ => (gd_tup rfl (gds_cons (gd_name (i := 2) sc_own_distances.nd rfl (Or.inl rfl)) (gds_cons (gd_name (i := 3) sc_own_distances.nd rfl (Or.inl rfl)) gds_nil)))) (fun _ _ _ _ _ => pts0) (fun _ _ _ _ _ => (qd_callB cc_abs PyProof.Rows.boot_abs (by rfl) T.n_abs (pda_cons (qd_op oo_sub (pd_v 2 (pv 2)) (pd_v 3 (pv 3))) pda_nil))) (by decide))))
theorem sc_distance : FnScope N_distance ["yard", "start", "goal"] (defScope s_distance) := ⟨rfl, rfl, rfl, by decide +kernel, rfl, by decide +kernel, by decide +kernel⟩
theorem kb_distance_0_goal_start_yard (T : Tx K mg Ar) : KB K Ar.d_distance ["yard", "start", "goal"] 0 ["goal", "start", "yard"] [2, 1, 0] := kb_of T.h_distance fun _ _ _ _ _ _ us ws h1 h2 => match us, ws, h1, h2 with
  | [], [_, _, _], _, _ => rfl
theorem kb_distance (T : Tx K mg Ar) : KB K Ar.d_distance ["yard", "start", "goal"] 3 [] (List.range 3) := kb_of T.h_distance fun _ _ _ _ _ _ us ws h1 h2 => match us, ws, h1, h2 with
  | [_, _, _], [], _, _ => rfl
set_option maxHeartbeats 4000000 in
theorem ok_distance (T : Tx K mg Ar) : FnG P w K mg base CX0 7 Ar.a_distance Ar.d_distance ["yard", "start", "goal"] (spD (K := K) F_distance) :=
  fnD (n := 3) (N := N_distance) (own := []) (g := g_distance) T.h_distance sc_distance rfl (by decide) (by decide) fun cdv A outer s H E hr gd G H0 xq =>
    (sd_cons (sd_expr (pd_new (pn_call (ok_need_all T) (bodyD_len _ _ _) (hr.mono (by decide)) gd (by rfl) T.m_need_all T.h_need_all.kp (kb_need_all T) (pda_cons (pd_v 0 (pv 0)) (pda_cons (pd_tup (pda_cons (pd_v 1 (pv 1)) (pda_cons (pd_v 2 (pv 2)) pda_nil))) pda_nil)))))
      (sd_one (sd_ret (qd_callB (cc_sum rfl) PyProof.Rows.boot_sum (by rfl) T.n_sum (pda_cons (pd_new (pn_call (ok_own_distances T) (bodyD_len _ _ _) (hr.mono (by decide)) gd (by rfl) T.m_own_distances T.h_own_distances.kp (kb_own_distances T) (pda_cons (pd_v 1 (pv 1)) (pda_cons (pd_v 2 (pv 2)) pda_nil)))) pda_nil)))))
theorem sc_stretch : FnScope N_stretch ["yard", "start", "goal"] (defScope s_stretch) := ⟨rfl, rfl, rfl, by decide +kernel, rfl, by decide +kernel, by decide +kernel⟩
theorem kb_stretch_0_goal_start_yard (T : Tx K mg Ar) : KB K Ar.d_stretch ["yard", "start", "goal"] 0 ["goal", "start", "yard"] [2, 1, 0] := kb_of T.h_stretch fun _ _ _ _ _ _ us ws h1 h2 => match us, ws, h1, h2 with
  | [], [_, _, _], _, _ => rfl
theorem kb_stretch (T : Tx K mg Ar) : KB K Ar.d_stretch ["yard", "start", "goal"] 3 [] (List.range 3) := kb_of T.h_stretch fun _ _ _ _ _ _ us ws h1 h2 => match us, ws, h1, h2 with
  | [_, _, _], [], _, _ => rfl
set_option maxHeartbeats 4000000 in
theorem ok_stretch (T : Tx K mg Ar) : FnG P w K mg base CX0 7 Ar.a_stretch Ar.d_stretch ["yard", "start", "goal"] (spD (K := K) F_stretch) :=
  fnD (n := 3) (N := N_stretch) (own := []) (g := g_stretch) T.h_stretch sc_stretch rfl (by decide) (by decide) fun cdv A outer s H E hr gd G H0 xq =>
    (sd_cons (sd_expr (pd_new (pn_call (ok_need_all T) (bodyD_len _ _ _) (hr.mono (by decide)) gd (by rfl) T.m_need_all T.h_need_all.kp (kb_need_all T) (pda_cons (pd_v 0 (pv 0)) (pda_cons (pd_tup (pda_cons (pd_v 1 (pv 1)) (pda_cons (pd_v 2 (pv 2)) pda_nil))) pda_nil)))))
      (sd_one (sd_ret (qd_callB (cc_maxL rfl) PyProof.Rows.boot_max (by rfl) T.n_max (pda_cons (pd_new (pn_call (ok_own_distances T) (bodyD_len _ _ _) (hr.mono (by decide)) gd (by rfl) T.m_own_distances T.h_own_distances.kp (kb_own_distances T) (pda_cons (pd_v 1 (pv 1)) (pda_cons (pd_v 2 (pv 2)) pda_nil)))) pda_nil)))))
theorem sc__law_begun : FnScope N__law_begun ["script"] (defScope s__law_begun) := ⟨rfl, rfl, rfl, by decide +kernel, rfl, by decide +kernel, by decide +kernel⟩
theorem kb__law_begun (T : Tx K mg Ar) : KB K Ar.d__law_begun ["script"] 1 [] (List.range 1) := kb_of T.h__law_begun fun _ _ _ _ _ _ us ws h1 h2 => match us, ws, h1, h2 with
  | [_], [], _, _ => rfl
theorem begun_of {f : Addr} {fd : FuncData} (F : L2.Fun K "_law_begun" "_law_begun" s__law_begun f fd) : FnG P w K mg base CX0 1 f fd ["script"] (spState K) := by
  obtain ⟨oc, od, kV, doc, pm, an, cdv, ct, osl, rfl, lk, hcd⟩ := F.ex
  refine fnG_of lk hcd sc__law_begun spState_len fun A outer s H vs Q E hr gd ⟨a, ns, hv, fz, h63, kq⟩ => ?_
  subst hv
  have hb : PSs (cxOf CX0 P w K mg base N__law_begun "_law_begun" (defScope s__law_begun) f cdv A outer s H E).nox (defBody s__law_begun) (tRet (tDisp [(tC (.str "script"), tVar 0), (tC (.str "at"), tC (.int 0)), (tC (.str "left"), tC (.int 0))])) :=
    pss_one (ps_ret (pe_disp (pps_cons pe_str (pv 0) (pps_cons pe_str pe_int (pps_cons pe_str pe_int pps_nil))) (by rfl) (by rfl) (fun z => by cases z) (by decide)))
  refine ⟨_, hb.nox, ?_⟩
  intro p hp
  refine ⟨.ref a, rfl, upd_same, dkv a 0 0, rfl, by show 3 ≤ 15; decide, ?_⟩
  have em : mergeK [] (dkv a 0 0) = dkv a 0 0 := by rfl
  rw [em]
  have hne : ∀ {b : Addr} {o : HO}, H b = some o → b ≠ p := fun e z => by rw [z, hp] at e; cases e
  have up : ∀ b o, H b = some o → upd (upd H p (.dK [])) p (.dK (dkv a 0 0)) b = some o := fun b o e => by rw [upd_ne (hne e), upd_ne (hne e)]; exact e
  exact kq p [p] _ ⟨a, ns, 0, 0, rfl, h63, Int.le_refl 0, Int.le_refl 0, upd_same, (fz.elim (fun ⟨o, e⟩ => .inl ⟨o, up _ _ e⟩) .inr : ScrL K _ a (ns.map V.int))⟩ up
theorem ok__law_begun (T : Tx K mg Ar) : FnG P w K mg base CX0 1 Ar.a__law_begun Ar.d__law_begun ["script"] (spState K) := begun_of T.h__law_begun
theorem sc__law_next : FnScope N__law_next ["m", "total"] (defScope s__law_next) := ⟨rfl, rfl, rfl, by decide +kernel, rfl, by decide +kernel, by decide +kernel⟩
theorem kb__law_next (T : Tx K mg Ar) : KB K Ar.d__law_next ["m", "total"] 2 [] (List.range 2) := kb_of T.h__law_next fun _ _ _ _ _ _ us ws h1 h2 => match us, ws, h1, h2 with
  | [_, _], [], _, _ => rfl
theorem next_of {f : Addr} {fd : FuncData} (T : Tx K mg Ar) (F : L2.Fun K "_law_next" "_law_next" s__law_next f fd) : FnG P w K mg base CX0 1 f fd ["m", "total"] (spD (K := K) F__law_next) := by
  obtain ⟨oc, od, kV, doc, pm, an, cdv, ct, osl, rfl, lk, hcd⟩ := F.ex
  refine fnG_of lk hcd sc__law_next (spD_len ln__law_next rfl) fun A outer s H vs Q E hr gd ⟨n0, G, ds, Fp, Qd, Xq, ok, nF, r, ⟨tot, hds, t0, t1, nb, hq⟩, kq⟩ => ?_
  subst hds
  obtain ⟨d, rfl, hrt⟩ : ∃ d, vs = [.ref d, .int tot] ∧ G.rt = some d := by
    cases r with
    | cons r0 r1 =>
      cases r1 with
      | cons r1 r2 =>
        cases r2
        cases r0 with
        | src h =>
          cases r1
          exact ⟨_, rfl, h⟩
  have hu := hu_of hr
  have gd' := deep_guards (env := PyProof.Rows.envOfC "_law_next" (defScope s__law_next) s.heap.objs.size f cdv) gd
  refine ⟨_, PSs.nox (X := cxOf CX0 P w K mg base N__law_next "_law_next" (defScope s__law_next) f cdv A outer s H E) (pss_cons (ps_if (pt_cmpR op_gt (pe_dget hu (pv 0) pe_str (fun _ _ => rfl)) pe_int (nomark _))
      (pss_cons (ps_set (i := 2) sc__law_next.nd rfl (Or.inl rfl) (pe_op op_mod (pe_dget hu (pv 0) pe_str (fun _ _ => rfl)) (pv 1)))
      (pss_cons (ps_dput hu (pv 0) pe_str (pe_op op_fdivW (pe_dget hu (pv 0) pe_str (fun _ _ => rfl)) (pv 1)) rfl)
      (pss_one (ps_ret (pv 2))))) pss_nil)
    (pss_cons (ps_set (i := 3) sc__law_next.nd rfl (Or.inl rfl) (pe_dget hu (pv 0) pe_str (fun _ _ => rfl)))
    (pss_cons (ps_dput hu (pv 0) pe_str (pe_op op_add (pv 3) pe_int) rfl)
    (pss_cons (ps_set (i := 4) sc__law_next.nd rfl (Or.inl rfl) (pe_ifExp (pt_cmpR (op_neD hr.units) (pe_dget hu (pv 0) pe_str (fun _ _ => rfl)) (pe_lst pa_nil) (nomark _)) (pe_ix ix_list (pe_dget hu (pv 0) pe_str (fun _ _ => rfl)) (pe_op op_mod (pv 3) (pe_callB call_len_seq (by rfl) T.n_len PySem.boot_len (pa_cons (pe_dget hu (pv 0) pe_str (fun _ _ => rfl)) pa_nil))) (fun _ _ => rfl)) pe_int))
    (pss_cons (ps_if (pw_and (pt_cmpR op_ge (pv 4) (pe_op op_pow pe_int pe_int) (nomark _)) (pw_and1 (pt_cmpR op_lt (pv 3) (pe_callB call_len_seq (by rfl) T.n_len PySem.boot_len (pa_cons (pe_dget hu (pv 0) pe_str (fun _ _ => rfl)) pa_nil)) (nomark _)))).pt
      (pss_cons (ps_dput hu (pv 0) pe_str (pe_op op_fdivW (pv 4) (pv 1)) rfl) (pss_one (ps_ret (pe_op op_mod (pv 4) (pv 1))))) pss_nil)
    (pss_cons (ps_set (i := 5) sc__law_next.nd rfl (Or.inl rfl) (pe_op op_add (pe_op op_mulW (pe_op op_mod (pv 4) pe_int) pe_int) (pe_op op_mod (pe_op op_fdivW (pv 4) pe_int) pe_int)))
    (pss_cons (ps_set (i := 5) sc__law_next.nd rfl (Or.inl rfl) (pe_op op_mod (pe_op op_add (pe_op op_add (pe_op op_add (pv 5) (pe_op op_mulW (pe_op op_mulW pe_int (pv 3)) (pv 3))) (pe_op op_mulW pe_int (pv 3))) pe_int) pe_int))
    (pss_one (ps_ret (pe_op op_mod (pe_op op_fdivW (pe_op op_mod (pe_op op_mulW (pe_op op_mod (pe_op op_mulW (pv 5) (pv 5)) pe_int) pe_int) pe_int) pe_int) (pv 1))))))))))), ?_⟩
  obtain ⟨l, xs, t, lf, hS, x63, tt0, tt1, hd, hl⟩ := (G.fam d hrt H _).mp ok
  have D0 : Ds K H H d l xs t lf := ⟨hd, hl, fun _ _ e _ => e, fun _ e => e⟩
  have fin : ∀ {t' f' : Int} {H' : Hp} (r : Int), Ds K H H' d l xs t' f' → 0 ≤ t' → t' ≤ t + 1 → 0 ≤ r → r < tot → Q (.int r) H' := fun {t' f' H'} r D h2 h3 h0 h1 => kq (.int r) (hq r h0 h1) (.int r) H' [] (D.kpG hrt hS x63 ok h2 (by omega)) (.int r) (fun _ z => nomatch z) List.nodup_nil
  have ctot : ∀ i : Int, CDivW i tot := fun i => ⟨t0, Nat.lt_trans (PySem.Flt.log2_lt_of (k := 64) (by decide) (by omega)) (by decide)⟩
  have cbig : ∀ i j : Int, 0 < j → j.natAbs < 2 ^ 64 → CDivW i j := fun i j h1 h2 => ⟨h1, Nat.lt_trans (PySem.Flt.log2_lt_of (by decide) h2) (by decide)⟩
  have cmul : ∀ i j : Int, i.natAbs < 2 ^ 100 → j.natAbs < 2 ^ 100 → CMulW i j := fun i j h1 h2 => by
    have l1 := PySem.Flt.log2_lt_of (k := 100) (by decide) h1
    have l2 := PySem.Flt.log2_lt_of (k := 100) (by decide) h2
    unfold CMulW
    omega
  have mm : ∀ i : Int, 0 ≤ i % tot ∧ i % tot < tot := fun i => ⟨Int.emod_nonneg _ (by omega), Int.emod_lt_of_pos _ t0⟩
  -- if m['left'] > 0
  refine ⟨_, rfl, d, .int lf, rfl, DGet.k (k := .inr "left") D0.hd, lf, 0, rfl, rfl, _, rfl, ?_⟩
  by_cases hlf : 0 < lf
  · rw [decide_eq_true hlf]
    refine iteT ?_
    refine ⟨_, rfl, d, .int lf, rfl, DGet.k (k := .inr "left") D0.hd, _, rfl, lf, tot, rfl, rfl, t0, ?_⟩
    refine ⟨_, rfl, d, .int lf, rfl, DGet.k (k := .inr "left") D0.hd, _, rfl, lf, tot, rfl, rfl, ctot _, ?_⟩
    refine ⟨_, rfl, d, _, rfl, DPut.k (k := .inr "left") D0.hd (by show 3 < sizeLine; decide), ?_⟩
    have ep : putK (dkv l t lf) (.inr "left") (.int (lf / tot)) = dkv l t (lf / tot) := rfl
    rw [ep]
    exact ⟨_, rfl, fin _ (D0.put t (lf / tot)) tt0 (by omega) (mm lf).1 (mm lf).2⟩
  · rw [decide_eq_false hlf]
    refine iteF ?_
    refine ⟨_, rfl, d, .int t, rfl, DGet.k (k := .inr "at") D0.hd, ?_⟩
    refine ⟨_, rfl, t, 1, rfl, rfl, ?_⟩
    refine ⟨_, rfl, d, _, rfl, DPut.k (k := .inr "at") D0.hd (by show 3 < sizeLine; decide), ?_⟩
    have ep : putK (dkv l t lf) (.inr "at") (.int (t + 1)) = dkv l (t + 1) lf := rfl
    rw [ep]
    have D1 := D0.put (t + 1) lf
    generalize upd H d (.dK (dkv l (t + 1) lf)) = H1 at D1 ⊢
    refine rd_cell (a := t) rfl rfl D1 fun cv H2 D2 => ?_
    refine rd_big (a := t) (cv := cv) rfl rfl rfl D2 fun b => ?_
    cases b with
    | true =>
      refine iteT ?_
      refine ⟨_, rfl, _, rfl, cv, tot, rfl, rfl, ctot _, ?_⟩
      refine ⟨_, rfl, d, _, rfl, DPut.k (k := .inr "left") D2.hd (by show 3 < sizeLine; decide), ?_⟩
      have ep : putK (dkv l (t + 1) lf) (.inr "left") (.int (cv / tot)) = dkv l (t + 1) (cv / tot) := rfl
      rw [ep]
      exact ⟨_, rfl, _, rfl, cv, tot, rfl, rfl, t0, fin _ (D2.put (t + 1) (cv / tot)) (by omega) (Int.le_refl _) (mm cv).1 (mm cv).2⟩
    | false =>
      refine iteF ?_
      have a0 : 0 ≤ cv % 1000003 := Int.emod_nonneg _ (by decide)
      have a1 : cv % 1000003 < 1000003 := Int.emod_lt_of_pos _ (by decide)
      have b0 : 0 ≤ cv / 1000003 % 1000003 := Int.emod_nonneg _ (by decide)
      have b1 : cv / 1000003 % 1000003 < 1000003 := Int.emod_lt_of_pos _ (by decide)
      refine ⟨_, rfl, _, 1000003, rfl, rfl, (by show (0 : Int) < 1000003; decide), _, 48271, rfl, rfl, cmul _ _ (by omega) (by decide), _, rfl, cv, 1000003, rfl, rfl, cbig _ _ (by decide) (by decide), _, 1000003, rfl, rfl, (by show (0 : Int) < 1000003; decide), _, _, rfl, rfl, ?_⟩
      have tb : t.natAbs < 2 ^ 60 := by omega
      have tb2 : (7919 * t).natAbs < 2 ^ 100 := by omega
      have md : ∀ i p : Int, 0 < p → p < 2 ^ 60 → (i % p).natAbs < 2 ^ 100 := fun i p h1 h2 => by
        have h3 : 0 ≤ i % p := Int.emod_nonneg _ (by omega)
        have h4 : i % p < p := Int.emod_lt_of_pos _ h1
        omega
      refine ⟨_, rfl, _, rfl, 7919, t, rfl, rfl, cmul _ _ (by decide) (by omega), _, rfl, _, t, rfl, rfl, cmul _ _ tb2 (by omega), _, _, rfl, rfl, _, rfl, 104729, t, rfl, rfl, cmul _ _ (by decide) (by omega), _, _, rfl, rfl, _, _, rfl, rfl, _, 2147483647, rfl, rfl, (by show (0 : Int) < 2147483647; decide), ?_⟩
      refine ⟨_, rfl, _, rfl, _, _, rfl, rfl, cmul _ _ (md _ _ (by decide) (by decide)) (md _ _ (by decide) (by decide)), _, 2147483629, rfl, rfl, (by show (0 : Int) < 2147483629; decide), _, 69621, rfl, rfl, cmul _ _ (md _ _ (by decide) (by decide)) (by decide), _, 2147483587, rfl, rfl, (by show (0 : Int) < 2147483587; decide), _, 7, rfl, rfl, cbig _ _ (by decide) (by decide), ?_⟩
      exact ⟨_, rfl, _, tot, rfl, rfl, t0, fin _ D2 (by omega) (Int.le_refl _) (mm _).1 (mm _).2⟩
theorem ok__law_next (T : Tx K mg Ar) : FnG P w K mg base CX0 1 Ar.a__law_next Ar.d__law_next ["m", "total"] (spD (K := K) F__law_next) := next_of T T.h__law_next
theorem sc__law_of : FnScope N__law_of ["m", "items"] (defScope s__law_of) := ⟨rfl, rfl, rfl, by decide +kernel, rfl, by decide +kernel, by decide +kernel⟩
theorem kb__law_of (T : Tx K mg Ar) : KB K Ar.d__law_of ["m", "items"] 2 [] (List.range 2) := kb_of T.h__law_of fun _ _ _ _ _ _ us ws h1 h2 => match us, ws, h1, h2 with
  | [_, _], [], _, _ => rfl
set_option maxHeartbeats 4000000 in
theorem ok__law_of (T : Tx K mg Ar) : FnG P w K mg base CX0 2 Ar.a__law_of Ar.d__law_of ["m", "items"] (spD (K := K) F__law_of) :=
  fnD (n := 2) (N := N__law_of) (own := []) (g := g__law_of) T.h__law_of sc__law_of rfl (by decide) (by decide) fun cdv A outer s H E hr gd G H0 xq =>
    (sd_one (sd_ret (qd_ix (pd_v 1 (pv 1)) (pd_new (pn_call (ok__law_next T) (ln__law_next) (hr.mono (by decide)) gd (by rfl) T.m__law_next T.h__law_next.kp (kb__law_next T) (pda_cons (pd_v 0 (pv 0)) (pda_cons (qd_callB cc_len PySem.boot_len (by rfl) T.n_len (pda_cons (pd_v 1 (pv 1)) pda_nil)) pda_nil)))) (fun _ _ => rfl))))
theorem sc__law_shuffled : FnScope N__law_shuffled ["m", "items"] (defScope s__law_shuffled) := ⟨rfl, rfl, rfl, by decide +kernel, rfl, by decide +kernel, by decide +kernel⟩
theorem kb__law_shuffled (T : Tx K mg Ar) : KB K Ar.d__law_shuffled ["m", "items"] 2 [] (List.range 2) := kb_of T.h__law_shuffled fun _ _ _ _ _ _ us ws h1 h2 => match us, ws, h1, h2 with
  | [_, _], [], _, _ => rfl
set_option maxHeartbeats 4000000 in
theorem ok__law_shuffled (T : Tx K mg Ar) : FnG P w K mg base CX0 2 Ar.a__law_shuffled Ar.d__law_shuffled ["m", "items"] (spD (K := K) F__law_shuffled) :=
  fnD (n := 2) (N := N__law_shuffled) (own := [2, 3]) (g := g__law_shuffled) T.h__law_shuffled sc__law_shuffled rfl (by decide) (by decide) fun cdv A outer s H E hr gd G H0 xq =>
    (sd_cons (sd_par (i := 2) (j := 3) rfl sc__law_shuffled.nd rfl rfl (by decide) rfl rfl (qn_callTy cc_list PyProof.Rows.boot_list (by rfl) T.n_list (pda_cons (pd_v 1 (pv 1)) pda_nil)) (pn_lst pda_nil) rfl)
      (sd_cons (sd_while PassesOwn.never (qt_c (oo_ne hr) (pd_v 2 (pv 2)) (pd_lst pda_nil) (nomark _)) (sd_one (sd_appPop 3 2 (by decide) (List.Mem.tail _ (List.Mem.head _)) (List.Mem.head _) (pv 3) (pv 2) (pd_new (pn_call (ok__law_next T) (ln__law_next) (hr.mono (by decide)) gd (by rfl) T.m__law_next T.h__law_next.kp (kb__law_next T) (pda_cons (pd_v 0 (pv 0)) (pda_cons (qd_callB cc_len PySem.boot_len (by rfl) T.n_len (pda_cons (pd_v 2 (pv 2)) pda_nil)) pda_nil)))))))
      (sd_one (sd_retV 3 (List.Mem.tail _ (List.Mem.head _)) (pv 3)))))
theorem sc__law_lot : FnScope N__law_lot ["m", "most"] (defScope s__law_lot) := ⟨rfl, rfl, rfl, by decide +kernel, rfl, by decide +kernel, by decide +kernel⟩
theorem kb__law_lot (T : Tx K mg Ar) : KB K Ar.d__law_lot ["m", "most"] 2 [] (List.range 2) := kb_of T.h__law_lot fun _ _ _ _ _ _ us ws h1 h2 => match us, ws, h1, h2 with
  | [_, _], [], _, _ => rfl
set_option maxHeartbeats 4000000 in
theorem ok__law_lot (T : Tx K mg Ar) : FnG P w K mg base CX0 3 Ar.a__law_lot Ar.d__law_lot ["m", "most"] (spD (K := K) F__law_lot) :=
  fnD (n := 2) (N := N__law_lot) (own := [2, 3, 4, 5, 6, 7, 8, 9, 10, 11, 12, 13]) (g := g__law_lot) T.h__law_lot sc__law_lot rfl (by decide) (by decide) fun cdv A outer s H E hr gd G H0 xq =>
    (sd_cons (sd_parT (i := 2) (j := 3) rfl sc__law_lot.nd rfl rfl (Or.inl rfl) (Or.inr rfl) (pn_imm (qd_op oo_add pd_int (pd_new (pn_call (ok__law_next T) (ln__law_next) (hr.mono (by decide)) gd (by rfl) T.m__law_next T.h__law_next.kp (kb__law_next T) (pda_cons (pd_v 0 (pv 0)) (pda_cons (pd_v 1 (pv 1)) pda_nil)))))) (pn_imm (qd_ix (pd_lst (pda_cons pd_int (pda_cons pd_int (pda_cons pd_int (pda_cons (qd_op oo_mul pd_int (qd_op oo_pow pd_int pd_int)) pda_nil))))) (pd_new (pn_call (ok__law_next T) (ln__law_next) (hr.mono (by decide)) gd (by rfl) T.m__law_next T.h__law_next.kp (kb__law_next T) (pda_cons (pd_v 0 (pv 0)) (pda_cons pd_int pda_nil)))) (fun _ _ => rfl))) rfl)
      (sd_cons (sd_setLc (i := 4) (own := [("k", 7)]) rfl sc__law_lot.nd rfl rfl (sw_true rfl rfl rfl (by decide +kernel)) (id_rng1 (by rfl) T.n_range (pda_cons (pd_v 2 (pv 2)) pda_nil)) (blkOk_by (N := N__law_lot) (sc := defScope s__law_lot) (by decide +kernel)) (fun _ _ _ _ _ => (gd_name (i := 7) sc__law_lot.nd rfl (Or.inl rfl))) (fun _ _ _ _ _ => pts0) (fun _ _ _ _ _ => (qd_op oo_sub (pd_new (pn_call (ok__law_next T) (ln__law_next) (hr.mono (by decide)) gd (by rfl) T.m__law_next T.h__law_next.kp (kb__law_next T) (pda_cons (pd_v 0 (pv 0)) (pda_cons (qd_op oo_add (qd_op oo_mul pd_int (pd_v 3 (pv 3))) pd_int) pda_nil)))) (pd_v 3 (pv 3)))) (by decide))
      (sd_cons (sd_par (i := 5) (j := 6) rfl sc__law_lot.nd rfl rfl (by decide) rfl rfl (pn_call (ok__law_shuffled T) (bodyD_len _ _ _) (hr.mono (by decide)) gd (by rfl) T.m__law_shuffled T.h__law_shuffled.kp (kb__law_shuffled T) (pda_cons (pd_v 0 (pv 0)) (pda_cons (pd_new (pn_listRng rfl (by rfl) T.n_list (by rfl) T.n_range (pd_v 2 (pv 2)))) pda_nil))) (pn_lst pda_nil) rfl)
      (sd_cons (sd_for PassesOwn.never rfl (id_rng2 (by rfl) T.n_range (pda_cons pd_int (pda_cons (pd_v 2 (pv 2)) pda_nil))) (gd_name (i := 7) sc__law_lot.nd rfl (Or.inl rfl)) (sd_one (sd_if (qt_c oo_gt (pd_new (pn_call (ok__law_next T) (ln__law_next) (hr.mono (by decide)) gd (by rfl) T.m__law_next T.h__law_next.kp (kb__law_next T) (pda_cons (pd_v 0 (pv 0)) (pda_cons pd_int pda_nil)))) pd_int (nomark _)) (sd_cons (sd_asg (pd_new (qn_callB cc_sortI PyProof.Rows.boot_sorted (by rfl) T.n_sorted (pda_cons (pd_lst (pda_cons (qd_ix (pd_v 5 (pv 5)) (pd_v 7 (pv 7)) (fun _ _ => rfl)) (pda_cons (qd_ix (pd_v 5 (pv 5)) (pd_new (pn_call (ok__law_next T) (ln__law_next) (hr.mono (by decide)) gd (by rfl) T.m__law_next T.h__law_next.kp (kb__law_next T) (pda_cons (pd_v 0 (pv 0)) (pda_cons (pd_v 7 (pv 7)) pda_nil)))) (fun _ _ => rfl)) pda_nil))) pda_nil))) (gd_lst rfl (gds_cons (gd_name (i := 8) sc__law_lot.nd rfl (Or.inl rfl)) (gds_cons (gd_name (i := 9) sc__law_lot.nd rfl (Or.inl rfl)) gds_nil))))
      (sd_cons (sd_par (i := 10) (j := 11) rfl sc__law_lot.nd rfl rfl (by decide) rfl rfl (pn_call (ok__law_of T) (bodyD_len _ _ _) (hr.mono (by decide)) gd (by rfl) T.m__law_of T.h__law_of.kp (kb__law_of T) (pda_cons (pd_v 0 (pv 0)) (pda_cons (pd_lst (pda_cons pd_int (pda_cons pd_int (pda_cons pd_int (pda_cons (pd_v 3 (pv 3)) pda_nil))))) pda_nil))) (pn_call (ok__law_of T) (bodyD_len _ _ _) (hr.mono (by decide)) gd (by rfl) T.m__law_of T.h__law_of.kp (kb__law_of T) (pda_cons (pd_v 0 (pv 0)) (pda_cons (pd_lst (pda_cons pd_int (pda_cons pd_int (pda_cons pd_int (pda_cons (pd_v 3 (pv 3)) pda_nil))))) pda_nil))) rfl)
      (sd_one (sd_app 6 (List.Mem.tail _ (List.Mem.tail _ (List.Mem.tail _ (List.Mem.tail _ (List.Mem.head _))))) (pv 6) (pd_tup (pda_cons (pd_v 8 (pv 8)) (pda_cons (pd_v 9 (pv 9)) (pda_cons (qd_op oo_sub (qd_op oo_sub (qd_ix (pd_v 4 (pv 4)) (pd_v 9 (pv 9)) (fun _ _ => rfl)) (qd_ix (pd_v 4 (pv 4)) (pd_v 8 (pv 8)) (fun _ _ => rfl))) (pd_v 10 (pv 10))) (pda_cons (qd_op oo_add (qd_op oo_add (qd_op oo_sub (qd_ix (pd_v 4 (pv 4)) (pd_v 9 (pv 9)) (fun _ _ => rfl)) (qd_ix (pd_v 4 (pv 4)) (pd_v 8 (pv 8)) (fun _ _ => rfl))) (pd_v 11 (pv 11))) (qd_callTy cc_int PyProof.Rows.boot_int (by rfl) T.n_int (pda_cons (qd_cmp (oo_eq hr) (qd_op oo_add (pd_v 10 (pv 10)) (pd_v 11 (pv 11))) pd_int (nomark _)) pda_nil))) pda_nil))))))))) sd_nil)) (by decide))
      (sd_cons (sd_setN (i := 12) sc__law_lot.nd rfl (Or.inl rfl) (pn_lst pda_nil))
      (sd_cons (sd_for PassesOwn.never rfl (id_seq (pd_v 4 (pv 4))) (gd_name (i := 13) sc__law_lot.nd rfl (Or.inl rfl)) (sd_one (sd_app 12 (List.Mem.tail _ (List.Mem.tail _ (List.Mem.tail _ (List.Mem.tail _ (List.Mem.tail _ (List.Mem.tail _ (List.Mem.tail _ (List.Mem.tail _ (List.Mem.tail _ (List.Mem.tail _ (List.Mem.head _))))))))))) (pv 12) (pd_tup (pda_cons (qd_op oo_sub (pd_v 13 (pv 13)) (pd_new (pn_call (ok__law_of T) (bodyD_len _ _ _) (hr.mono (by decide)) gd (by rfl) T.m__law_of T.h__law_of.kp (kb__law_of T) (pda_cons (pd_v 0 (pv 0)) (pda_cons (pd_lst (pda_cons pd_int (pda_cons pd_int (pda_cons pd_int (pda_cons (pd_v 3 (pv 3)) pda_nil))))) pda_nil))))) (pda_cons (qd_op oo_add (pd_v 13 (pv 13)) (pd_new (pn_call (ok__law_of T) (bodyD_len _ _ _) (hr.mono (by decide)) gd (by rfl) T.m__law_of T.h__law_of.kp (kb__law_of T) (pda_cons (pd_v 0 (pv 0)) (pda_cons (pd_lst (pda_cons pd_int (pda_cons pd_int (pda_cons pd_int (pda_cons (pd_v 3 (pv 3)) pda_nil))))) pda_nil))))) pda_nil))))) (by decide))
      (sd_one (sd_ret (pd_tup (pda_cons (pd_tup (pda_cons (qd_callTy cc_tuple PyProof.Rows.boot_tuple (by rfl) T.n_tuple (pda_cons (pd_v 12 (pv 12)) pda_nil)) (pda_cons (qd_callTy cc_tuple PyProof.Rows.boot_tuple (by rfl) T.n_tuple (pda_cons (pd_new (qn_callB cc_sortT PyProof.Rows.boot_sorted (by rfl) T.n_sorted (pda_cons (pd_v 6 (pv 6)) pda_nil))) pda_nil)) pda_nil))) (pda_cons (qd_callTy cc_tuple PyProof.Rows.boot_tuple (by rfl) T.n_tuple (pda_cons (pd_v 4 (pv 4)) pda_nil)) pda_nil)))))))))))
theorem sc__law_room : FnScope N__law_room ["lot", "row", "v"] (defScope s__law_room) := ⟨rfl, rfl, rfl, by decide +kernel, rfl, by decide +kernel, by decide +kernel⟩
theorem kb__law_room (T : Tx K mg Ar) : KB K Ar.d__law_room ["lot", "row", "v"] 3 [] (List.range 3) := kb_of T.h__law_room fun _ _ _ _ _ _ us ws h1 h2 => match us, ws, h1, h2 with
  | [_, _, _], [], _, _ => rfl
set_option maxHeartbeats 4000000 in
theorem ok__law_room (T : Tx K mg Ar) : FnG P w K mg base CX0 1 Ar.a__law_room Ar.d__law_room ["lot", "row", "v"] (spD (K := K) F__law_room) :=
  fnD (n := 3) (N := N__law_room) (own := [3, 4, 5, 6, 7, 8]) (g := g__law_room) T.h__law_room sc__law_room rfl (by decide) (by decide) fun cdv A outer s H E hr gd G H0 xq =>
    (sd_cons (sd_asg (qd_ix (qd_ix (pd_v 0 (pv 0)) pd_int (fun _ _ => rfl)) (pd_v 2 (pv 2)) (fun _ _ => rfl)) (gd_tup rfl (gds_cons (gd_name (i := 3) sc__law_room.nd rfl (Or.inl rfl)) (gds_cons (gd_name (i := 4) sc__law_room.nd rfl (Or.inl rfl)) gds_nil))))
      (sd_cons (sd_for PassesOwn.never rfl (id_seq (qd_ix (pd_v 0 (pv 0)) pd_int (fun _ _ => rfl))) (gd_tup rfl (gds_cons (gd_name (i := 5) sc__law_room.nd rfl (Or.inl rfl)) (gds_cons (gd_name (i := 6) sc__law_room.nd rfl (Or.inl rfl)) (gds_cons (gd_name (i := 7) sc__law_room.nd rfl (Or.inl rfl)) (gds_cons (gd_name (i := 8) sc__law_room.nd rfl (Or.inl rfl)) gds_nil))))) (sd_cons (sd_if (qt_c (oo_eq hr) (pd_v 6 (pv 6)) (pd_v 2 (pv 2)) (nomark _)) (sd_one (sd_par (i := 3) (j := 4) rfl sc__law_room.nd rfl rfl (by decide) rfl rfl (pn_imm (qd_callB (cc_max2 rfl) PyProof.Rows.boot_max (by rfl) T.n_max (pda_cons (pd_v 3 (pv 3)) (pda_cons (qd_op oo_add (qd_ix (pd_v 1 (pv 1)) (pd_v 5 (pv 5)) (fun _ _ => rfl)) (pd_v 7 (pv 7))) pda_nil)))) (pn_imm (qd_callB (cc_min2 rfl) PyProof.Rows.boot_min (by rfl) T.n_min (pda_cons (pd_v 4 (pv 4)) (pda_cons (qd_op oo_add (qd_ix (pd_v 1 (pv 1)) (pd_v 5 (pv 5)) (fun _ _ => rfl)) (pd_v 8 (pv 8))) pda_nil)))) rfl)) sd_nil)
      (sd_one (sd_if (qt_c (oo_eq hr) (pd_v 5 (pv 5)) (pd_v 2 (pv 2)) (nomark _)) (sd_one (sd_par (i := 3) (j := 4) rfl sc__law_room.nd rfl rfl (by decide) rfl rfl (pn_imm (qd_callB (cc_max2 rfl) PyProof.Rows.boot_max (by rfl) T.n_max (pda_cons (pd_v 3 (pv 3)) (pda_cons (qd_op oo_sub (qd_ix (pd_v 1 (pv 1)) (pd_v 6 (pv 6)) (fun _ _ => rfl)) (pd_v 8 (pv 8))) pda_nil)))) (pn_imm (qd_callB (cc_min2 rfl) PyProof.Rows.boot_min (by rfl) T.n_min (pda_cons (pd_v 4 (pv 4)) (pda_cons (qd_op oo_sub (qd_ix (pd_v 1 (pv 1)) (pd_v 6 (pv 6)) (fun _ _ => rfl)) (pd_v 7 (pv 7))) pda_nil)))) rfl)) sd_nil))) (by decide))
      (sd_one (sd_ret (pd_tup (pda_cons (pd_v 3 (pv 3)) (pda_cons (pd_v 4 (pv 4)) pda_nil)))))))
theorem sc__law_moved : FnScope N__law_moved ["m", "lot", "row"] (defScope s__law_moved) := ⟨rfl, rfl, rfl, by decide +kernel, rfl, by decide +kernel, by decide +kernel⟩
theorem kb__law_moved (T : Tx K mg Ar) : KB K Ar.d__law_moved ["m", "lot", "row"] 3 [] (List.range 3) := kb_of T.h__law_moved fun _ _ _ _ _ _ us ws h1 h2 => match us, ws, h1, h2 with
  | [_, _, _], [], _, _ => rfl
set_option maxHeartbeats 4000000 in
theorem ok__law_moved (T : Tx K mg Ar) : FnG P w K mg base CX0 3 Ar.a__law_moved Ar.d__law_moved ["m", "lot", "row"] (spD (K := K) F__law_moved) :=
  fnD (n := 3) (N := N__law_moved) (own := [3, 4, 5, 6, 7]) (g := g__law_moved) T.h__law_moved sc__law_moved rfl (by decide) (by decide) fun cdv A outer s H E hr gd G H0 xq =>
    (sd_cons (sd_setN (i := 3) sc__law_moved.nd rfl (Or.inl rfl) (qn_callTy cc_list PyProof.Rows.boot_list (by rfl) T.n_list (pda_cons (pd_v 2 (pv 2)) pda_nil)))
      (sd_cons (sd_for PassesOwn.never rfl (id_rng1 (by rfl) T.n_range (pda_cons (pd_new (pn_call (ok__law_next T) (ln__law_next) (hr.mono (by decide)) gd (by rfl) T.m__law_next T.h__law_next.kp (kb__law_next T) (pda_cons (pd_v 0 (pv 0)) (pda_cons pd_int pda_nil)))) pda_nil)) (gd_name (i := 4) sc__law_moved.nd rfl (Or.inl rfl)) (sd_one (sd_for PassesOwn.never rfl (id_seq (pd_new (pn_call (ok__law_shuffled T) (bodyD_len _ _ _) (hr.mono (by decide)) gd (by rfl) T.m__law_shuffled T.h__law_shuffled.kp (kb__law_shuffled T) (pda_cons (pd_v 0 (pv 0)) (pda_cons (pd_new (pn_listRng rfl (by rfl) T.n_list (by rfl) T.n_range (qd_callB cc_len PySem.boot_len (by rfl) T.n_len (pda_cons (pd_v 2 (pv 2)) pda_nil)))) pda_nil))))) (gd_name (i := 5) sc__law_moved.nd rfl (Or.inl rfl)) (sd_cons (sd_asg (pd_new (pn_call (ok__law_room T) (bodyD_len _ _ _) (hr.mono (by decide)) gd (by rfl) T.m__law_room T.h__law_room.kp (kb__law_room T) (pda_cons (pd_v 1 (pv 1)) (pda_cons (pd_v 3 (pv 3)) (pda_cons (pd_v 5 (pv 5)) pda_nil))))) (gd_tup rfl (gds_cons (gd_name (i := 6) sc__law_moved.nd rfl (Or.inl rfl)) (gds_cons (gd_name (i := 7) sc__law_moved.nd rfl (Or.inl rfl)) gds_nil))))
      (sd_one (sd_put 3 (List.Mem.head _) (pv 3) (pd_v 5 (pv 5)) (pd_new (pn_call (ok__law_of T) (bodyD_len _ _ _) (hr.mono (by decide)) gd (by rfl) T.m__law_of T.h__law_of.kp (kb__law_of T) (pda_cons (pd_v 0 (pv 0)) (pda_cons (pd_lst (pda_cons (pd_v 6 (pv 6)) (pda_cons (pd_v 7 (pv 7)) (pda_cons (qd_ix (pd_v 3 (pv 3)) (pd_v 5 (pv 5)) (fun _ _ => rfl)) (pda_cons (qd_op oo_add (pd_v 6 (pv 6)) (pd_new (pn_call (ok__law_next T) (ln__law_next) (hr.mono (by decide)) gd (by rfl) T.m__law_next T.h__law_next.kp (kb__law_next T) (pda_cons (pd_v 0 (pv 0)) (pda_cons (qd_op oo_add (qd_op oo_sub (pd_v 7 (pv 7)) (pd_v 6 (pv 6))) pd_int) pda_nil))))) pda_nil))))) pda_nil))))))) (by decide))) (by decide))
      (sd_one (sd_ret (qd_callTy cc_tuple PyProof.Rows.boot_tuple (by rfl) T.n_tuple (pda_cons (pd_v 3 (pv 3)) pda_nil))))))
theorem sc_is_allowed : FnScope N_is_allowed ["yard", "places"] (defScope s_is_allowed) := ⟨rfl, rfl, rfl, by decide +kernel, rfl, by decide +kernel, by decide +kernel⟩
theorem kb_is_allowed (T : Tx K mg Ar) : KB K Ar.d_is_allowed ["yard", "places"] 2 [] (List.range 2) := kb_of T.h_is_allowed fun _ _ _ _ _ _ us ws h1 h2 => match us, ws, h1, h2 with
  | [_, _], [], _, _ => rfl
set_option maxHeartbeats 4000000 in
theorem ok_is_allowed (T : Tx K mg Ar) : FnG P w K mg base CX0 3 Ar.a_is_allowed Ar.d_is_allowed ["yard", "places"] (spD (K := K) F_is_allowed) :=
  fnD (n := 2) (N := N_is_allowed) (own := []) (g := g_is_allowed) T.h_is_allowed sc_is_allowed rfl (by decide) (by decide) fun cdv A outer s H E hr gd G H0 xq =>
    (sd_one (sd_ret (qd_cmp oo_is (pd_new (pn_call (ok_arrangement_problem T) (bodyD_len _ _ _) (hr.mono (by decide)) gd (by rfl) T.m_arrangement_problem T.h_arrangement_problem.kp (kb_arrangement_problem T) (pda_cons (pd_v 0 (pv 0)) (pda_cons (pd_v 1 (pv 1)) pda_nil)))) pd_non (nomark _))))
theorem sc_is_arrangement : FnScope N_is_arrangement ["yard", "value"] (defScope s_is_arrangement) := ⟨rfl, rfl, rfl, by decide +kernel, rfl, by decide +kernel, by decide +kernel⟩
theorem kb_is_arrangement (T : Tx K mg Ar) : KB K Ar.d_is_arrangement ["yard", "value"] 2 [] (List.range 2) := kb_of T.h_is_arrangement fun _ _ _ _ _ _ us ws h1 h2 => match us, ws, h1, h2 with
  | [_, _], [], _, _ => rfl
set_option maxHeartbeats 4000000 in
theorem ok_is_arrangement (T : Tx K mg Ar) : FnG P w K mg base CX0 6 Ar.a_is_arrangement Ar.d_is_arrangement ["yard", "value"] (spD (K := K) F_is_arrangement) :=
  fnD (n := 2) (N := N_is_arrangement) (own := []) (g := g_is_arrangement) T.h_is_arrangement sc_is_arrangement rfl (by decide) (by decide) fun cdv A outer s H E hr gd G H0 xq =>
    (sd_cons (sd_expr (pd_new (pn_call (ok_validate_yard T) (bodyD_len _ _ _) (hr.mono (by decide)) gd (by rfl) T.m_validate_yard T.h_validate_yard.kp (kb_validate_yard T) (pda_cons (pd_v 0 (pv 0)) pda_nil))))
      (sd_one (sd_retN (pn_call (ok_is_allowed T) (bodyD_len _ _ _) (hr.mono (by decide)) gd (by rfl) T.m_is_allowed T.h_is_allowed.kp (kb_is_allowed T) (pda_cons (pd_v 0 (pv 0)) (pda_cons (pd_v 1 (pv 1)) pda_nil))))))
theorem sc_minimum : FnScope N_minimum ["yard", "arrangements"] (defScope s_minimum) := ⟨rfl, rfl, rfl, by decide +kernel, rfl, by decide +kernel, by decide +kernel⟩
theorem sb_minimum (T : Tx K mg Ar) : SB Ar.d_minimum ["yard"] "arrangements" := sb_of T.h_minimum (fun _ _ _ _ _ _ _ => rfl) (fun _ _ _ _ _ _ _ _ _ => rfl)
set_option maxHeartbeats 4000000 in
theorem ok_minimum (T : Tx K mg Ar) : FnGS P w K mg base CX0 7 Ar.a_minimum (spD (K := K) F_minimum) :=
  fnDS (n := 1) (N := N_minimum) (own := [2, 3]) (g := g_minimum) T.h_minimum sc_minimum (sb_minimum T) rfl (by decide) (by decide) fun cdv A outer s H E hr gd G H0 xq =>
    (sd_cons (sd_expr (pd_new (pn_call (ok_need_all T) (bodyD_len _ _ _) (hr.mono (by decide)) gd (by rfl) T.m_need_all T.h_need_all.kp (kb_need_all T) (pda_cons (pd_v 0 (pv 0)) (pda_cons (pd_v 1 (pv 1)) pda_nil)))))
      (sd_one (sd_ret (qd_callTy cc_tuple PyProof.Rows.boot_tuple (by rfl) T.n_tuple (pda_cons (pd_new (pn_lc (own := [("wagon", 2)]) rfl sc_minimum.nd (id_rng1 (by rfl) T.n_range (pda_cons (qd_callB cc_len PySem.boot_len (by rfl) T.n_len (pda_cons (qd_ix (pd_v 0 (pv 0)) pd_int (fun _ _ => rfl)) pda_nil)) pda_nil)) (blkOk_by (N := N_minimum) (sc := defScope s_minimum) (by decide +kernel)) (fun _ _ _ _ _ => (gd_name (i := 2) sc_minimum.nd rfl (Or.inr rfl))) (fun _ _ _ _ _ => pts0) (fun _ _ _ _ _ => (qd_callB (cc_minL rfl) PyProof.Rows.boot_min (by rfl) T.n_min (pda_cons (pd_new (pn_lc (own := [("places", 3)]) rfl sc_minimum.nd (id_seq (pd_v 1 (pv 1))) (blkOk_in (blkOk_by (N := N_minimum) (by decide +kernel))) (fun _ _ _ _ _ => (gd_name (i := 3) sc_minimum.nd rfl (Or.inl rfl))) (fun _ _ _ _ _ => pts0) (fun _ _ _ _ _ => (qd_ix (pd_v 3 (pv 3)) (pd_v 2 (pv 2)) (fun _ _ => rfl))) (by decide))) pda_nil))) (by decide))) pda_nil)))))
theorem sc_maximum : FnScope N_maximum ["yard", "arrangements"] (defScope s_maximum) := ⟨rfl, rfl, rfl, by decide +kernel, rfl, by decide +kernel, by decide +kernel⟩
theorem sb_maximum (T : Tx K mg Ar) : SB Ar.d_maximum ["yard"] "arrangements" := sb_of T.h_maximum (fun _ _ _ _ _ _ _ => rfl) (fun _ _ _ _ _ _ _ _ _ => rfl)
set_option maxHeartbeats 4000000 in
theorem ok_maximum (T : Tx K mg Ar) : FnGS P w K mg base CX0 7 Ar.a_maximum (spD (K := K) F_maximum) :=
  fnDS (n := 1) (N := N_maximum) (own := [2, 3]) (g := g_maximum) T.h_maximum sc_maximum (sb_maximum T) rfl (by decide) (by decide) fun cdv A outer s H E hr gd G H0 xq =>
    (sd_cons (sd_expr (pd_new (pn_call (ok_need_all T) (bodyD_len _ _ _) (hr.mono (by decide)) gd (by rfl) T.m_need_all T.h_need_all.kp (kb_need_all T) (pda_cons (pd_v 0 (pv 0)) (pda_cons (pd_v 1 (pv 1)) pda_nil)))))
      (sd_one (sd_ret (qd_callTy cc_tuple PyProof.Rows.boot_tuple (by rfl) T.n_tuple (pda_cons (pd_new (pn_lc (own := [("wagon", 2)]) rfl sc_maximum.nd (id_rng1 (by rfl) T.n_range (pda_cons (qd_callB cc_len PySem.boot_len (by rfl) T.n_len (pda_cons (qd_ix (pd_v 0 (pv 0)) pd_int (fun _ _ => rfl)) pda_nil)) pda_nil)) (blkOk_by (N := N_maximum) (sc := defScope s_maximum) (by decide +kernel)) (fun _ _ _ _ _ => (gd_name (i := 2) sc_maximum.nd rfl (Or.inr rfl))) (fun _ _ _ _ _ => pts0) (fun _ _ _ _ _ => (qd_callB (cc_maxL rfl) PyProof.Rows.boot_max (by rfl) T.n_max (pda_cons (pd_new (pn_lc (own := [("places", 3)]) rfl sc_maximum.nd (id_seq (pd_v 1 (pv 1))) (blkOk_in (blkOk_by (N := N_maximum) (by decide +kernel))) (fun _ _ _ _ _ => (gd_name (i := 3) sc_maximum.nd rfl (Or.inl rfl))) (fun _ _ _ _ _ => pts0) (fun _ _ _ _ _ => (qd_ix (pd_v 3 (pv 3)) (pd_v 2 (pv 2)) (fun _ _ => rfl))) (by decide))) pda_nil))) (by decide))) pda_nil)))))
theorem sc__law_bounds_right : FnScope N__law_bounds_right ["lot", "rows"] (defScope s__law_bounds_right) := ⟨rfl, rfl, rfl, by decide +kernel, rfl, by decide +kernel, by decide +kernel⟩
theorem kb__law_bounds_right (T : Tx K mg Ar) : KB K Ar.d__law_bounds_right ["lot", "rows"] 2 [] (List.range 2) := kb_of T.h__law_bounds_right fun _ _ _ _ _ _ us ws h1 h2 => match us, ws, h1, h2 with
  | [_, _], [], _, _ => rfl
set_option maxHeartbeats 4000000 in
theorem ok__law_bounds_right (T : Tx K mg Ar) : FnG P w K mg base CX0 8 Ar.a__law_bounds_right Ar.d__law_bounds_right ["lot", "rows"] (spD (K := K) F__law_bounds_right) :=
  fnD (n := 2) (N := N__law_bounds_right) (own := [2, 3, 4, 5, 6, 7, 8, 9, 10]) (g := g__law_bounds_right) T.h__law_bounds_right sc__law_bounds_right rfl (by decide) (by decide) fun cdv A outer s H E hr gd G H0 xq =>
    (sd_cons (sd_asg (pd_v 1 (pv 1)) (gd_lst rfl (gds_cons (gd_name (i := 2) sc__law_bounds_right.nd rfl (Or.inl rfl)) (gds_cons (gd_name (i := 3) sc__law_bounds_right.nd rfl (Or.inl rfl)) (gds_cons (gd_name (i := 4) sc__law_bounds_right.nd rfl (Or.inl rfl)) (gds_cons (gd_name (i := 5) sc__law_bounds_right.nd rfl (Or.inl rfl)) gds_nil))))))
      (sd_cons (sd_par (i := 6) (j := 7) rfl sc__law_bounds_right.nd rfl rfl (by decide) rfl rfl (pn_imm (qd_callTy cc_tuple PyProof.Rows.boot_tuple (by rfl) T.n_tuple (pda_cons (pd_new (pn_lc (own := [("spots", 9)]) rfl sc__law_bounds_right.nd (id_zip4 (by rfl) T.n_zip (pda_cons (pd_v 2 (pv 2)) (pda_cons (pd_v 3 (pv 3)) (pda_cons (pd_v 4 (pv 4)) (pda_cons (pd_v 5 (pv 5)) pda_nil))))) (blkOk_by (N := N__law_bounds_right) (sc := defScope s__law_bounds_right) (by decide +kernel)) (fun _ _ _ _ _ => (gd_name (i := 9) sc__law_bounds_right.nd rfl (Or.inl rfl))) (fun _ _ _ _ _ => pts0) (fun _ _ _ _ _ => (qd_callB (cc_minT rfl hr) PyProof.Rows.boot_min (by rfl) T.n_min (pda_cons (pd_v 9 (pv 9)) pda_nil))) (by decide))) pda_nil))) (pn_imm (qd_callTy cc_tuple PyProof.Rows.boot_tuple (by rfl) T.n_tuple (pda_cons (pd_new (pn_lc (own := [("spots", 9)]) rfl sc__law_bounds_right.nd (id_zip4 (by rfl) T.n_zip (pda_cons (pd_v 2 (pv 2)) (pda_cons (pd_v 3 (pv 3)) (pda_cons (pd_v 4 (pv 4)) (pda_cons (pd_v 5 (pv 5)) pda_nil))))) (blkOk_by (N := N__law_bounds_right) (sc := defScope s__law_bounds_right) (by decide +kernel)) (fun _ _ _ _ _ => (gd_name (i := 9) sc__law_bounds_right.nd rfl (Or.inl rfl))) (fun _ _ _ _ _ => pts0) (fun _ _ _ _ _ => (qd_callB (cc_maxT rfl hr) PyProof.Rows.boot_max (by rfl) T.n_max (pda_cons (pd_v 9 (pv 9)) pda_nil))) (by decide))) pda_nil))) rfl)
      (sd_cons (sd_setN (i := 8) sc__law_bounds_right.nd rfl (Or.inl rfl) (pn_lst (pda_cons (pd_new (pn_callS (ok_minimum T) (hr.mono (by decide)) gd (by rfl) T.m_minimum T.h_minimum.kp (pda_cons (pd_v 0 (pv 0)) (pda_cons (pd_v 2 (pv 2)) (pda_cons (pd_v 3 (pv 3)) (pda_cons (pd_v 4 (pv 4)) (pda_cons (pd_v 5 (pv 5)) pda_nil))))))) (pda_cons (pd_new (pn_callS (ok_minimum T) (hr.mono (by decide)) gd (by rfl) T.m_minimum T.h_minimum.kp (pda_cons (pd_v 0 (pv 0)) (pda_cons (pd_v 5 (pv 5)) (pda_cons (pd_v 3 (pv 3)) (pda_cons (pd_v 3 (pv 3)) (pda_cons (pd_v 4 (pv 4)) (pda_cons (pd_v 2 (pv 2)) pda_nil)))))))) pda_nil))))
      (sd_cons (sd_setN (i := 8) sc__law_bounds_right.nd rfl (Or.inl rfl) (pn_cat (pd_v 8 (pv 8)) (pd_lst (pda_cons (pd_new (pn_callS (ok_maximum T) (hr.mono (by decide)) gd (by rfl) T.m_maximum T.h_maximum.kp (pda_cons (pd_v 0 (pv 0)) (pda_cons (pd_v 2 (pv 2)) (pda_cons (pd_v 3 (pv 3)) (pda_cons (pd_v 4 (pv 4)) (pda_cons (pd_v 5 (pv 5)) pda_nil))))))) (pda_cons (pd_new (pn_callS (ok_maximum T) (hr.mono (by decide)) gd (by rfl) T.m_maximum T.h_maximum.kp (pda_cons (pd_v 0 (pv 0)) (pda_cons (pd_v 4 (pv 4)) (pda_cons (pd_v 5 (pv 5)) (pda_cons (pd_v 2 (pv 2)) (pda_cons (pd_v 2 (pv 2)) (pda_cons (pd_v 3 (pv 3)) pda_nil)))))))) pda_nil)))))
      (sd_cons (sd_if (qt_c (oo_ne hr) (qd_callB (cc_repr gd hr) PyProof.Rows.boot_repr (by rfl) T.n_repr (pda_cons (pd_v 8 (pv 8)) pda_nil)) (qd_callB (cc_repr gd hr) PyProof.Rows.boot_repr (by rfl) T.n_repr (pda_cons (pd_lst (pda_cons (pd_v 6 (pv 6)) (pda_cons (pd_v 6 (pv 6)) (pda_cons (pd_v 7 (pv 7)) (pda_cons (pd_v 7 (pv 7)) pda_nil))))) pda_nil)) (nomark _)) (sd_one (sd_ret pd_bl)) sd_nil)
      (sd_cons (sd_par (i := 6) (j := 7) rfl sc__law_bounds_right.nd rfl rfl (by decide) rfl rfl (pn_imm (qd_callTy cc_tuple PyProof.Rows.boot_tuple (by rfl) T.n_tuple (pda_cons (pd_new (pn_lc (own := [("spots", 9)]) rfl sc__law_bounds_right.nd (id_zip2 (by rfl) T.n_zip (pda_cons (pd_v 2 (pv 2)) (pda_cons (pd_v 3 (pv 3)) pda_nil))) (blkOk_by (N := N__law_bounds_right) (sc := defScope s__law_bounds_right) (by decide +kernel)) (fun _ _ _ _ _ => (gd_name (i := 9) sc__law_bounds_right.nd rfl (Or.inl rfl))) (fun _ _ _ _ _ => pts0) (fun _ _ _ _ _ => (qd_callB (cc_minT rfl hr) PyProof.Rows.boot_min (by rfl) T.n_min (pda_cons (pd_v 9 (pv 9)) pda_nil))) (by decide))) pda_nil))) (pn_imm (qd_callTy cc_tuple PyProof.Rows.boot_tuple (by rfl) T.n_tuple (pda_cons (pd_new (pn_lc (own := [("spots", 9)]) rfl sc__law_bounds_right.nd (id_zip2 (by rfl) T.n_zip (pda_cons (pd_v 2 (pv 2)) (pda_cons (pd_v 3 (pv 3)) pda_nil))) (blkOk_by (N := N__law_bounds_right) (sc := defScope s__law_bounds_right) (by decide +kernel)) (fun _ _ _ _ _ => (gd_name (i := 9) sc__law_bounds_right.nd rfl (Or.inl rfl))) (fun _ _ _ _ _ => pts0) (fun _ _ _ _ _ => (qd_callB (cc_maxT rfl hr) PyProof.Rows.boot_max (by rfl) T.n_max (pda_cons (pd_v 9 (pv 9)) pda_nil))) (by decide))) pda_nil))) rfl)
      (sd_cons (sd_if (qt_c (oo_ne hr) (qd_callB (cc_repr gd hr) PyProof.Rows.boot_repr (by rfl) T.n_repr (pda_cons (pd_lst (pda_cons (pd_new (pn_callS (ok_minimum T) (hr.mono (by decide)) gd (by rfl) T.m_minimum T.h_minimum.kp (pda_cons (pd_v 0 (pv 0)) (pda_cons (pd_v 2 (pv 2)) (pda_cons (pd_v 3 (pv 3)) pda_nil))))) (pda_cons (pd_new (pn_callS (ok_maximum T) (hr.mono (by decide)) gd (by rfl) T.m_maximum T.h_maximum.kp (pda_cons (pd_v 0 (pv 0)) (pda_cons (pd_v 3 (pv 3)) (pda_cons (pd_v 2 (pv 2)) pda_nil))))) pda_nil))) pda_nil)) (qd_callB (cc_repr gd hr) PyProof.Rows.boot_repr (by rfl) T.n_repr (pda_cons (pd_lst (pda_cons (pd_v 6 (pv 6)) (pda_cons (pd_v 7 (pv 7)) pda_nil))) pda_nil)) (nomark _)) (sd_one (sd_ret pd_bl)) sd_nil)
      (sd_cons (sd_if (qt_c (oo_ne hr) (qd_callB (cc_repr gd hr) PyProof.Rows.boot_repr (by rfl) T.n_repr (pda_cons (pd_lst (pda_cons (pd_new (pn_callS (ok_minimum T) (hr.mono (by decide)) gd (by rfl) T.m_minimum T.h_minimum.kp (pda_cons (pd_v 0 (pv 0)) (pda_cons (pd_v 4 (pv 4)) pda_nil)))) (pda_cons (pd_new (pn_callS (ok_maximum T) (hr.mono (by decide)) gd (by rfl) T.m_maximum T.h_maximum.kp (pda_cons (pd_v 0 (pv 0)) (pda_cons (pd_v 4 (pv 4)) pda_nil)))) pda_nil))) pda_nil)) (qd_callB (cc_repr gd hr) PyProof.Rows.boot_repr (by rfl) T.n_repr (pda_cons (pd_lst (pda_cons (pd_v 4 (pv 4)) (pda_cons (pd_v 4 (pv 4)) pda_nil))) pda_nil)) (nomark _)) (sd_one (sd_ret pd_bl)) sd_nil)
      (sd_one (sd_ret (qd_cmp (oo_eq hr) (pd_new (pn_lc (own := [("one", 10)]) rfl sc__law_bounds_right.nd (id_seq (pd_new (pn_cat (pd_v 8 (pv 8)) (pd_lst (pda_cons (pd_v 6 (pv 6)) (pda_cons (pd_v 7 (pv 7)) pda_nil)))))) (blkOk_by (N := N__law_bounds_right) (sc := defScope s__law_bounds_right) (by decide +kernel)) (fun _ _ _ _ _ => (gd_name (i := 10) sc__law_bounds_right.nd rfl (Or.inl rfl))) (fun _ _ _ _ _ => (pts_one (pt_n (pt_v (pd_new (pn_call (ok_is_arrangement T) (bodyD_len _ _ _) (hr.mono (by decide)) gd (by rfl) T.m_is_arrangement T.h_is_arrangement.kp (kb_is_arrangement T) (pda_cons (pd_v 0 (pv 0)) (pda_cons (pd_v 10 (pv 10)) pda_nil)))))))) (fun _ _ _ _ _ => (pd_v 10 (pv 10))) (by decide))) (pd_lst pda_nil) (nomark _))))))))))))
theorem sc__law_far_right : FnScope N__law_far_right ["lot", "one", "other"] (defScope s__law_far_right) := ⟨rfl, rfl, rfl, by decide +kernel, rfl, by decide +kernel, by decide +kernel⟩
theorem kb__law_far_right (T : Tx K mg Ar) : KB K Ar.d__law_far_right ["lot", "one", "other"] 3 [] (List.range 3) := kb_of T.h__law_far_right fun _ _ _ _ _ _ us ws h1 h2 => match us, ws, h1, h2 with
  | [_, _, _], [], _, _ => rfl
set_option maxHeartbeats 4000000 in
theorem ok__law_far_right (T : Tx K mg Ar) : FnG P w K mg base CX0 8 Ar.a__law_far_right Ar.d__law_far_right ["lot", "one", "other"] (spD (K := K) F__law_far_right) :=
  fnD (n := 3) (N := N__law_far_right) (own := [3, 4, 5, 6, 7, 8]) (g := g__law_far_right) T.h__law_far_right sc__law_far_right rfl (by decide) (by decide) fun cdv A outer s H E hr gd G H0 xq =>
    (sd_cons (sd_setLc (i := 3) (own := [("near", 7), ("far", 8)]) rfl sc__law_far_right.nd rfl rfl (sw_true rfl rfl rfl (by decide +kernel)) (id_zip (by rfl) T.n_zip (pda_cons (pd_v 1 (pv 1)) (pda_cons (pd_v 2 (pv 2)) pda_nil))) (blkOk_by (N := N__law_far_right) (sc := defScope s__law_far_right) (by decide +kernel)) (fun _ _ _ _ _ => (gd_tup rfl (gds_cons (gd_name (i := 7) sc__law_far_right.nd rfl (Or.inl rfl)) (gds_cons (gd_name (i := 8) sc__law_far_right.nd rfl (Or.inl rfl)) gds_nil)))) (fun _ _ _ _ _ => pts0) (fun _ _ _ _ _ => (qd_callB cc_abs PyProof.Rows.boot_abs (by rfl) T.n_abs (pda_cons (qd_op oo_sub (pd_v 7 (pv 7)) (pd_v 8 (pv 8))) pda_nil))) (by decide))
      (sd_cons (sd_setN (i := 4) sc__law_far_right.nd rfl (Or.inl rfl) (pn_lst (pda_cons (pd_new (pn_call (ok_distance T) (bodyD_len _ _ _) (hr.mono (by decide)) gd (by rfl) T.m_distance T.h_distance.kp (kb_distance T) (pda_cons (pd_v 0 (pv 0)) (pda_cons (pd_v 1 (pv 1)) (pda_cons (pd_v 2 (pv 2)) pda_nil))))) (pda_cons (pd_new (pn_callK0 (ok_distance T) (hr.mono (by decide)) gd (by rfl) T.m_distance T.h_distance.kp (kb_distance_0_goal_start_yard T) (pdk_cons (pd_v 1 (pv 1)) (pdk_cons (pd_v 2 (pv 2)) (pdk_cons (pd_v 0 (pv 0)) pdk_nil))))) pda_nil))))
      (sd_cons (sd_setN (i := 4) sc__law_far_right.nd rfl (Or.inl rfl) (pn_cat (pd_v 4 (pv 4)) (pd_lst (pda_cons (pd_new (pn_call (ok_stretch T) (bodyD_len _ _ _) (hr.mono (by decide)) gd (by rfl) T.m_stretch T.h_stretch.kp (kb_stretch T) (pda_cons (pd_v 0 (pv 0)) (pda_cons (pd_v 1 (pv 1)) (pda_cons (pd_v 2 (pv 2)) pda_nil))))) (pda_cons (pd_new (pn_callK0 (ok_stretch T) (hr.mono (by decide)) gd (by rfl) T.m_stretch T.h_stretch.kp (kb_stretch_0_goal_start_yard T) (pdk_cons (pd_v 1 (pv 1)) (pdk_cons (pd_v 2 (pv 2)) (pdk_cons (pd_v 0 (pv 0)) pdk_nil))))) pda_nil)))))
      (sd_cons (sd_if (qt_c (oo_ne hr) (qd_callB (cc_repr gd hr) PyProof.Rows.boot_repr (by rfl) T.n_repr (pda_cons (pd_v 4 (pv 4)) pda_nil)) (qd_callB (cc_repr gd hr) PyProof.Rows.boot_repr (by rfl) T.n_repr (pda_cons (pd_new (pn_cat (qd_op oo_mul (pd_lst (pda_cons (qd_callB (cc_sum rfl) PyProof.Rows.boot_sum (by rfl) T.n_sum (pda_cons (pd_v 3 (pv 3)) pda_nil)) pda_nil)) pd_int) (qd_op oo_mul (pd_lst (pda_cons (qd_callB (cc_maxL rfl) PyProof.Rows.boot_max (by rfl) T.n_max (pda_cons (pd_v 3 (pv 3)) pda_nil)) pda_nil)) pd_int))) pda_nil)) (nomark _)) (sd_one (sd_ret pd_bl)) sd_nil)
      (sd_cons (sd_par (i := 5) (j := 6) rfl sc__law_far_right.nd rfl rfl (by decide) rfl rfl (pn_callS (ok_minimum T) (hr.mono (by decide)) gd (by rfl) T.m_minimum T.h_minimum.kp (pda_cons (pd_v 0 (pv 0)) (pda_cons (pd_v 1 (pv 1)) (pda_cons (pd_v 2 (pv 2)) pda_nil)))) (pn_callS (ok_maximum T) (hr.mono (by decide)) gd (by rfl) T.m_maximum T.h_maximum.kp (pda_cons (pd_v 0 (pv 0)) (pda_cons (pd_v 1 (pv 1)) (pda_cons (pd_v 2 (pv 2)) pda_nil)))) rfl)
      (sd_cons (sd_if (qt_c (oo_ne hr) (qd_op oo_add (pd_new (pn_call (ok_distance T) (bodyD_len _ _ _) (hr.mono (by decide)) gd (by rfl) T.m_distance T.h_distance.kp (kb_distance T) (pda_cons (pd_v 0 (pv 0)) (pda_cons (pd_v 1 (pv 1)) (pda_cons (pd_v 5 (pv 5)) pda_nil))))) (pd_new (pn_call (ok_distance T) (bodyD_len _ _ _) (hr.mono (by decide)) gd (by rfl) T.m_distance T.h_distance.kp (kb_distance T) (pda_cons (pd_v 0 (pv 0)) (pda_cons (pd_v 5 (pv 5)) (pda_cons (pd_v 2 (pv 2)) pda_nil)))))) (qd_callB (cc_sum rfl) PyProof.Rows.boot_sum (by rfl) T.n_sum (pda_cons (pd_v 3 (pv 3)) pda_nil)) (nomark _)) (sd_one (sd_ret pd_bl)) sd_nil)
      (sd_one (sd_ret (qd_chain (oo_eq hr) (oo_eq hr) (qd_op oo_add (pd_new (pn_call (ok_distance T) (bodyD_len _ _ _) (hr.mono (by decide)) gd (by rfl) T.m_distance T.h_distance.kp (kb_distance T) (pda_cons (pd_v 0 (pv 0)) (pda_cons (pd_v 1 (pv 1)) (pda_cons (pd_v 6 (pv 6)) pda_nil))))) (pd_new (pn_call (ok_distance T) (bodyD_len _ _ _) (hr.mono (by decide)) gd (by rfl) T.m_distance T.h_distance.kp (kb_distance T) (pda_cons (pd_v 0 (pv 0)) (pda_cons (pd_v 6 (pv 6)) (pda_cons (pd_v 2 (pv 2)) pda_nil)))))) (qd_callB (cc_sum rfl) PyProof.Rows.boot_sum (by rfl) T.n_sum (pda_cons (pd_v 3 (pv 3)) pda_nil)) (pd_new (pn_call (ok_distance T) (bodyD_len _ _ _) (hr.mono (by decide)) gd (by rfl) T.m_distance T.h_distance.kp (kb_distance T) (pda_cons (pd_v 0 (pv 0)) (pda_cons (pd_v 5 (pv 5)) (pda_cons (pd_v 6 (pv 6)) pda_nil))))))))))))))
theorem sc_law : FnScope N_law ["script"] (defScope s_law) := ⟨rfl, rfl, rfl, by decide +kernel, rfl, by decide +kernel, by decide +kernel⟩
set_option maxHeartbeats 4000000 in
theorem ok_law (T : Tx K mg Ar) : FnG P w K mg base CX0 9 Ar.a_law Ar.d_law ["script"] (spLaw K) :=
  lawD (N := N_law) (own := [2, 3, 4, 5, 6, 7]) (g := g_lawR) T.h_law sc_law (by decide) (by decide) law_math fun cdv A outer s H E hr gd =>
    pss_cons (ps_set (i := 1) sc_law.nd rfl (Or.inr rfl) (pe_g (E := L2.E0) (ok__law_begun T) (hr.mono (by decide)) gd (by rfl) T.m__law_begun T.h__law_begun.kp (kb__law_begun T) L2.pass0 (pa_cons (pv 0) pa_nil))) (pss_ex2 fun G H0 xq => (sd_cons (sd_for PassesOwn.never rfl (id_rng1 (by rfl) T.n_range (pda_cons (qd_op oo_add pd_int (qd_callB (cc_min2 rfl) PyProof.Rows.boot_min (by rfl) T.n_min (pda_cons pd_int (pda_cons (qd_callB cc_len PySem.boot_len (by rfl) T.n_len (pda_cons (pd_v 0 (pv 0)) pda_nil)) pda_nil)))) pda_nil)) (gd_name (i := 2) sc_law.nd rfl (Or.inl rfl)) (sd_cons (sd_asg (pd_new (pn_call (ok__law_lot T) (bodyD_len _ _ _) (hr.mono (by decide)) gd (by rfl) T.m__law_lot T.h__law_lot.kp (kb__law_lot T) (pda_cons (pd_v 1 (pv 1)) (pda_cons (qd_ix (pd_lst (pda_cons pd_int (pda_cons pd_int (pda_cons pd_int pda_nil)))) (qd_op oo_mod (pd_v 2 (pv 2)) pd_int) (fun _ _ => rfl)) pda_nil)))) (gd_tup rfl (gds_cons (gd_name (i := 3) sc_law.nd rfl (Or.inr rfl)) (gds_cons (gd_name (i := 4) sc_law.nd rfl (Or.inr rfl)) gds_nil))))
      (sd_cons (sd_setN (i := 5) sc_law.nd rfl (Or.inl rfl) (pn_cat (pd_lst (pda_cons (pd_v 4 (pv 4)) pda_nil)) (pd_new (pn_lc (own := [("k", 7)]) rfl sc_law.nd (id_rng1 (by rfl) T.n_range (pda_cons pd_int pda_nil)) (blkOk_by (N := N_law) (sc := defScope s_law) (by decide +kernel)) (fun _ _ _ _ _ => (gd_name (i := 7) sc_law.nd rfl (Or.inl rfl))) (fun _ _ _ _ _ => pts0) (fun _ _ _ _ _ => (pd_new (pn_call (ok__law_moved T) (bodyD_len _ _ _) (hr.mono (by decide)) gd (by rfl) T.m__law_moved T.h__law_moved.kp (kb__law_moved T) (pda_cons (pd_v 1 (pv 1)) (pda_cons (pd_v 3 (pv 3)) (pda_cons (pd_v 4 (pv 4)) pda_nil)))))) (by decide)))))
      (sd_cons (sd_set (i := 6) sc_law.nd rfl (Or.inl rfl) (qd_callB (cc_repr gd hr) PyProof.Rows.boot_repr (by rfl) T.n_repr (pda_cons (pd_lst (pda_cons (pd_v 3 (pv 3)) (pda_cons (pd_v 5 (pv 5)) pda_nil))) pda_nil)))
      (sd_cons (sd_if ((pw_o (pt_n (pt_v (pd_new (pn_call (ok__law_bounds_right T) (bodyD_len _ _ _) (hr.mono (by decide)) gd (by rfl) T.m__law_bounds_right T.h__law_bounds_right.kp (kb__law_bounds_right T) (pda_cons (pd_v 3 (pv 3)) (pda_cons (pd_v 5 (pv 5)) pda_nil)))))) (pw_o1 (pt_n (pt_v (pd_new (pn_call (ok__law_far_right T) (bodyD_len _ _ _) (hr.mono (by decide)) gd (by rfl) T.m__law_far_right T.h__law_far_right.kp (kb__law_far_right T) (pda_cons (pd_v 3 (pv 3)) (pda_cons (qd_ix (pd_v 5 (pv 5)) pd_int (fun _ _ => rfl)) (pda_cons (qd_ix (pd_v 5 (pv 5)) pd_int (fun _ _ => rfl)) pda_nil)))))))))).pt (sd_one (sd_ret pd_bl)) sd_nil)
      (sd_cons (sd_if ((pw_o (pt_n (pt_v (pd_new (pn_call (ok__law_far_right T) (bodyD_len _ _ _) (hr.mono (by decide)) gd (by rfl) T.m__law_far_right T.h__law_far_right.kp (kb__law_far_right T) (pda_cons (pd_v 3 (pv 3)) (pda_cons (qd_ix (pd_v 5 (pv 5)) pd_int (fun _ _ => rfl)) (pda_cons (qd_ix (pd_v 5 (pv 5)) pd_int (fun _ _ => rfl)) pda_nil))))))) (pw_o1 (pt_n (pt_v (pd_new (pn_call (ok__law_far_right T) (bodyD_len _ _ _) (hr.mono (by decide)) gd (by rfl) T.m__law_far_right T.h__law_far_right.kp (kb__law_far_right T) (pda_cons (pd_v 3 (pv 3)) (pda_cons (pd_v 4 (pv 4)) (pda_cons (pd_v 4 (pv 4)) pda_nil)))))))))).pt (sd_one (sd_ret pd_bl)) sd_nil)
      (sd_cons (sd_if (qt_c oo_gt (pd_new (pn_call (ok_distance T) (bodyD_len _ _ _) (hr.mono (by decide)) gd (by rfl) T.m_distance T.h_distance.kp (kb_distance T) (pda_cons (pd_v 3 (pv 3)) (pda_cons (qd_ix (pd_v 5 (pv 5)) pd_int (fun _ _ => rfl)) (pda_cons (qd_ix (pd_v 5 (pv 5)) pd_int (fun _ _ => rfl)) pda_nil))))) (qd_op oo_add (pd_new (pn_call (ok_distance T) (bodyD_len _ _ _) (hr.mono (by decide)) gd (by rfl) T.m_distance T.h_distance.kp (kb_distance T) (pda_cons (pd_v 3 (pv 3)) (pda_cons (qd_ix (pd_v 5 (pv 5)) pd_int (fun _ _ => rfl)) (pda_cons (qd_ix (pd_v 5 (pv 5)) pd_int (fun _ _ => rfl)) pda_nil))))) (pd_new (pn_call (ok_distance T) (bodyD_len _ _ _) (hr.mono (by decide)) gd (by rfl) T.m_distance T.h_distance.kp (kb_distance T) (pda_cons (pd_v 3 (pv 3)) (pda_cons (qd_ix (pd_v 5 (pv 5)) pd_int (fun _ _ => rfl)) (pda_cons (qd_ix (pd_v 5 (pv 5)) pd_int (fun _ _ => rfl)) pda_nil)))))) (nomark _)) (sd_one (sd_ret pd_bl)) sd_nil)
      (sd_one (sd_if (qt_c (oo_ne hr) (qd_callB (cc_repr gd hr) PyProof.Rows.boot_repr (by rfl) T.n_repr (pda_cons (pd_lst (pda_cons (pd_v 3 (pv 3)) (pda_cons (pd_v 5 (pv 5)) pda_nil))) pda_nil)) (pd_v 6 (pv 6)) (nomark _)) (sd_one (sd_ret pd_bl)) sd_nil)))))))) (by decide))
      (sd_cons (sd_set (i := 3) sc_law.nd rfl (Or.inr rfl) (pd_tup (pda_cons (qd_op oo_mul (pd_tup (pda_cons (pd_tup (pda_cons pd_int (pda_cons pd_int pda_nil))) pda_nil)) pd_int) (pda_cons (pd_tup (pda_cons (pd_tup (pda_cons pd_int (pda_cons pd_int (pda_cons pd_int (pda_cons pd_int pda_nil))))) (pda_cons (pd_tup (pda_cons pd_int (pda_cons pd_int (pda_cons pd_int (pda_cons pd_int pda_nil))))) pda_nil))) pda_nil))))
      (sd_one (sd_ret (qd_cmp (oo_eq hr) (pd_lst (pda_cons (pd_new (pn_call (ok_distance T) (bodyD_len _ _ _) (hr.mono (by decide)) gd (by rfl) T.m_distance T.h_distance.kp (kb_distance T) (pda_cons (pd_v 3 (pv 3)) (pda_cons (pd_tup (pda_cons pd_int (pda_cons pd_int (pda_cons pd_int pda_nil)))) (pda_cons (pd_tup (pda_cons pd_int (pda_cons pd_int (pda_cons pd_int pda_nil)))) pda_nil))))) (pda_cons (pd_new (pn_call (ok_stretch T) (bodyD_len _ _ _) (hr.mono (by decide)) gd (by rfl) T.m_stretch T.h_stretch.kp (kb_stretch T) (pda_cons (pd_v 3 (pv 3)) (pda_cons (pd_tup (pda_cons pd_int (pda_cons pd_int (pda_cons pd_int pda_nil)))) (pda_cons (pd_tup (pda_cons pd_int (pda_cons pd_int (pda_cons pd_int pda_nil)))) pda_nil))))) pda_nil))) (pd_lst (pda_cons pd_int (pda_cons pd_int pda_nil))) (nomark _)))))))
end
/-! ### what the top has written -/
theorem all_mk {l : PySem.W.OpenLaw} {w : World} {K : PySem.W.Frag} {h : Heap} {mg : Str → Option Value} {fa : Addr} (X : K.In h) (G : h.Ns mainGlobals mg) (hfa : mg "law" = some (.ref fa))
    {f0 : Addr} {od0 an0 : Option Addr} {sl0 : Array (Option Value)} {oc0 kV0 dc0 pm0 cd0 ct0 : Value}
    {f1 : Addr} {od1 an1 : Option Addr} {sl1 : Array (Option Value)} {oc1 kV1 dc1 pm1 cd1 ct1 : Value}
    {f2 : Addr} {od2 an2 : Option Addr} {sl2 : Array (Option Value)} {oc2 kV2 dc2 pm2 cd2 ct2 : Value}
    {f3 : Addr} {od3 an3 : Option Addr} {sl3 : Array (Option Value)} {oc3 kV3 dc3 pm3 cd3 ct3 : Value}
    {f4 : Addr} {od4 an4 : Option Addr} {sl4 : Array (Option Value)} {oc4 kV4 dc4 pm4 cd4 ct4 : Value}
    {f5 : Addr} {od5 an5 : Option Addr} {sl5 : Array (Option Value)} {oc5 kV5 dc5 pm5 cd5 ct5 : Value}
    {f6 : Addr} {od6 an6 : Option Addr} {sl6 : Array (Option Value)} {oc6 kV6 dc6 pm6 cd6 ct6 : Value}
    {f7 : Addr} {od7 an7 : Option Addr} {sl7 : Array (Option Value)} {oc7 kV7 dc7 pm7 cd7 ct7 : Value}
    {f8 : Addr} {od8 an8 : Option Addr} {sl8 : Array (Option Value)} {oc8 kV8 dc8 pm8 cd8 ct8 : Value}
    {f9 : Addr} {od9 an9 : Option Addr} {sl9 : Array (Option Value)} {oc9 kV9 dc9 pm9 cd9 ct9 : Value}
    {f10 : Addr} {od10 an10 : Option Addr} {sl10 : Array (Option Value)} {oc10 kV10 dc10 pm10 cd10 ct10 : Value}
    {f11 : Addr} {od11 an11 : Option Addr} {sl11 : Array (Option Value)} {oc11 kV11 dc11 pm11 cd11 ct11 : Value}
    {f12 : Addr} {od12 an12 : Option Addr} {sl12 : Array (Option Value)} {oc12 kV12 dc12 pm12 cd12 ct12 : Value}
    {f13 : Addr} {od13 an13 : Option Addr} {sl13 : Array (Option Value)} {oc13 kV13 dc13 pm13 cd13 ct13 : Value}
    {f14 : Addr} {od14 an14 : Option Addr} {sl14 : Array (Option Value)} {oc14 kV14 dc14 pm14 cd14 ct14 : Value}
    {f15 : Addr} {od15 an15 : Option Addr} {sl15 : Array (Option Value)} {oc15 kV15 dc15 pm15 cd15 ct15 : Value}
    {f16 : Addr} {od16 an16 : Option Addr} {sl16 : Array (Option Value)} {oc16 kV16 dc16 pm16 cd16 ct16 : Value}
    {f17 : Addr} {od17 an17 : Option Addr} {sl17 : Array (Option Value)} {oc17 kV17 dc17 pm17 cd17 ct17 : Value}
    {f18 : Addr} {od18 an18 : Option Addr} {sl18 : Array (Option Value)} {oc18 kV18 dc18 pm18 cd18 ct18 : Value}
    {f19 : Addr} {od19 an19 : Option Addr} {sl19 : Array (Option Value)} {oc19 kV19 dc19 pm19 cd19 ct19 : Value}
    {f20 : Addr} {od20 an20 : Option Addr} {sl20 : Array (Option Value)} {oc20 kV20 dc20 pm20 cd20 ct20 : Value}
    {f21 : Addr} {od21 an21 : Option Addr} {sl21 : Array (Option Value)} {oc21 kV21 dc21 pm21 cd21 ct21 : Value}
    {f22 : Addr} {od22 an22 : Option Addr} {sl22 : Array (Option Value)} {oc22 kV22 dc22 pm22 cd22 ct22 : Value}
    {f23 : Addr} {od23 an23 : Option Addr} {sl23 : Array (Option Value)} {oc23 kV23 dc23 pm23 cd23 ct23 : Value}
    {f24 : Addr} {od24 an24 : Option Addr} {sl24 : Array (Option Value)} {oc24 kV24 dc24 pm24 cd24 ct24 : Value}
    {f25 : Addr} {od25 an25 : Option Addr} {sl25 : Array (Option Value)} {oc25 kV25 dc25 pm25 cd25 ct25 : Value}
    {t_MOST_DIFFERENCE : Tok}
    {t_MOST_PLACE : Tok}
    {t_MOST_WAGONS : Tok}
    (a0 : PySem.W.nsIn K mainGlobals "is_between" = some (some (.ref f0))) (l0 : K.lookup f0 = some ⟨oc0, od0, .func (PySem.W.fnOf "is_between" "is_between" (defArgs s_is_between) (defBody s_is_between) (defScope s_is_between) .none kV0 dc0 pm0 an0 cd0 ct0), sl0⟩) (c0 : PySem.W.codeIn K cd0 "is_between" = true) (k0 : PySem.W.keepIn K (.ref f0) = true)
    (a1 : PySem.W.nsIn K mainGlobals "is_walls" = some (some (.ref f1))) (l1 : K.lookup f1 = some ⟨oc1, od1, .func (PySem.W.fnOf "is_walls" "is_walls" (defArgs s_is_walls) (defBody s_is_walls) (defScope s_is_walls) .none kV1 dc1 pm1 an1 cd1 ct1), sl1⟩) (c1 : PySem.W.codeIn K cd1 "is_walls" = true) (k1 : PySem.W.keepIn K (.ref f1) = true)
    (a2 : PySem.W.nsIn K mainGlobals "is_coupling" = some (some (.ref f2))) (l2 : K.lookup f2 = some ⟨oc2, od2, .func (PySem.W.fnOf "is_coupling" "is_coupling" (defArgs s_is_coupling) (defBody s_is_coupling) (defScope s_is_coupling) .none kV2 dc2 pm2 an2 cd2 ct2), sl2⟩) (c2 : PySem.W.codeIn K cd2 "is_coupling" = true) (k2 : PySem.W.keepIn K (.ref f2) = true)
    (a3 : PySem.W.nsIn K mainGlobals "couplings_problem" = some (some (.ref f3))) (l3 : K.lookup f3 = some ⟨oc3, od3, .func (PySem.W.fnOf "couplings_problem" "couplings_problem" (defArgs s_couplings_problem) (defBody s_couplings_problem) (defScope s_couplings_problem) .none kV3 dc3 pm3 an3 cd3 ct3), sl3⟩) (c3 : PySem.W.codeIn K cd3 "couplings_problem" = true) (k3 : PySem.W.keepIn K (.ref f3) = true)
    (a4 : PySem.W.nsIn K mainGlobals "yard_problem" = some (some (.ref f4))) (l4 : K.lookup f4 = some ⟨oc4, od4, .func (PySem.W.fnOf "yard_problem" "yard_problem" (defArgs s_yard_problem) (defBody s_yard_problem) (defScope s_yard_problem) .none kV4 dc4 pm4 an4 cd4 ct4), sl4⟩) (c4 : PySem.W.codeIn K cd4 "yard_problem" = true) (k4 : PySem.W.keepIn K (.ref f4) = true)
    (a5 : PySem.W.nsIn K mainGlobals "validate_yard" = some (some (.ref f5))) (l5 : K.lookup f5 = some ⟨oc5, od5, .func (PySem.W.fnOf "validate_yard" "validate_yard" (defArgs s_validate_yard) (defBody s_validate_yard) (defScope s_validate_yard) .none kV5 dc5 pm5 an5 cd5 ct5), sl5⟩) (c5 : PySem.W.codeIn K cd5 "validate_yard" = true) (k5 : PySem.W.keepIn K (.ref f5) = true)
    (a6 : PySem.W.nsIn K mainGlobals "arrangement_problem" = some (some (.ref f6))) (l6 : K.lookup f6 = some ⟨oc6, od6, .func (PySem.W.fnOf "arrangement_problem" "arrangement_problem" (defArgs s_arrangement_problem) (defBody s_arrangement_problem) (defScope s_arrangement_problem) .none kV6 dc6 pm6 an6 cd6 ct6), sl6⟩) (c6 : PySem.W.codeIn K cd6 "arrangement_problem" = true) (k6 : PySem.W.keepIn K (.ref f6) = true)
    (a7 : PySem.W.nsIn K mainGlobals "need_arrangement" = some (some (.ref f7))) (l7 : K.lookup f7 = some ⟨oc7, od7, .func (PySem.W.fnOf "need_arrangement" "need_arrangement" (defArgs s_need_arrangement) (defBody s_need_arrangement) (defScope s_need_arrangement) .none kV7 dc7 pm7 an7 cd7 ct7), sl7⟩) (c7 : PySem.W.codeIn K cd7 "need_arrangement" = true) (k7 : PySem.W.keepIn K (.ref f7) = true)
    (a8 : PySem.W.nsIn K mainGlobals "need_all" = some (some (.ref f8))) (l8 : K.lookup f8 = some ⟨oc8, od8, .func (PySem.W.fnOf "need_all" "need_all" (defArgs s_need_all) (defBody s_need_all) (defScope s_need_all) .none kV8 dc8 pm8 an8 cd8 ct8), sl8⟩) (c8 : PySem.W.codeIn K cd8 "need_all" = true) (k8 : PySem.W.keepIn K (.ref f8) = true)
    (a9 : PySem.W.nsIn K mainGlobals "own_distances" = some (some (.ref f9))) (l9 : K.lookup f9 = some ⟨oc9, od9, .func (PySem.W.fnOf "own_distances" "own_distances" (defArgs s_own_distances) (defBody s_own_distances) (defScope s_own_distances) .none kV9 dc9 pm9 an9 cd9 ct9), sl9⟩) (c9 : PySem.W.codeIn K cd9 "own_distances" = true) (k9 : PySem.W.keepIn K (.ref f9) = true)
    (a10 : PySem.W.nsIn K mainGlobals "distance" = some (some (.ref f10))) (l10 : K.lookup f10 = some ⟨oc10, od10, .func (PySem.W.fnOf "distance" "distance" (defArgs s_distance) (defBody s_distance) (defScope s_distance) .none kV10 dc10 pm10 an10 cd10 ct10), sl10⟩) (c10 : PySem.W.codeIn K cd10 "distance" = true) (k10 : PySem.W.keepIn K (.ref f10) = true)
    (a11 : PySem.W.nsIn K mainGlobals "stretch" = some (some (.ref f11))) (l11 : K.lookup f11 = some ⟨oc11, od11, .func (PySem.W.fnOf "stretch" "stretch" (defArgs s_stretch) (defBody s_stretch) (defScope s_stretch) .none kV11 dc11 pm11 an11 cd11 ct11), sl11⟩) (c11 : PySem.W.codeIn K cd11 "stretch" = true) (k11 : PySem.W.keepIn K (.ref f11) = true)
    (a12 : PySem.W.nsIn K mainGlobals "_law_begun" = some (some (.ref f12))) (l12 : K.lookup f12 = some ⟨oc12, od12, .func (PySem.W.fnOf "_law_begun" "_law_begun" (defArgs s__law_begun) (defBody s__law_begun) (defScope s__law_begun) .none kV12 dc12 pm12 an12 cd12 ct12), sl12⟩) (c12 : PySem.W.codeIn K cd12 "_law_begun" = true) (k12 : PySem.W.keepIn K (.ref f12) = true)
    (a13 : PySem.W.nsIn K mainGlobals "_law_next" = some (some (.ref f13))) (l13 : K.lookup f13 = some ⟨oc13, od13, .func (PySem.W.fnOf "_law_next" "_law_next" (defArgs s__law_next) (defBody s__law_next) (defScope s__law_next) .none kV13 dc13 pm13 an13 cd13 ct13), sl13⟩) (c13 : PySem.W.codeIn K cd13 "_law_next" = true) (k13 : PySem.W.keepIn K (.ref f13) = true)
    (a14 : PySem.W.nsIn K mainGlobals "_law_of" = some (some (.ref f14))) (l14 : K.lookup f14 = some ⟨oc14, od14, .func (PySem.W.fnOf "_law_of" "_law_of" (defArgs s__law_of) (defBody s__law_of) (defScope s__law_of) .none kV14 dc14 pm14 an14 cd14 ct14), sl14⟩) (c14 : PySem.W.codeIn K cd14 "_law_of" = true) (k14 : PySem.W.keepIn K (.ref f14) = true)
    (a15 : PySem.W.nsIn K mainGlobals "_law_shuffled" = some (some (.ref f15))) (l15 : K.lookup f15 = some ⟨oc15, od15, .func (PySem.W.fnOf "_law_shuffled" "_law_shuffled" (defArgs s__law_shuffled) (defBody s__law_shuffled) (defScope s__law_shuffled) .none kV15 dc15 pm15 an15 cd15 ct15), sl15⟩) (c15 : PySem.W.codeIn K cd15 "_law_shuffled" = true) (k15 : PySem.W.keepIn K (.ref f15) = true)
    (a16 : PySem.W.nsIn K mainGlobals "_law_lot" = some (some (.ref f16))) (l16 : K.lookup f16 = some ⟨oc16, od16, .func (PySem.W.fnOf "_law_lot" "_law_lot" (defArgs s__law_lot) (defBody s__law_lot) (defScope s__law_lot) .none kV16 dc16 pm16 an16 cd16 ct16), sl16⟩) (c16 : PySem.W.codeIn K cd16 "_law_lot" = true) (k16 : PySem.W.keepIn K (.ref f16) = true)
    (a17 : PySem.W.nsIn K mainGlobals "_law_room" = some (some (.ref f17))) (l17 : K.lookup f17 = some ⟨oc17, od17, .func (PySem.W.fnOf "_law_room" "_law_room" (defArgs s__law_room) (defBody s__law_room) (defScope s__law_room) .none kV17 dc17 pm17 an17 cd17 ct17), sl17⟩) (c17 : PySem.W.codeIn K cd17 "_law_room" = true) (k17 : PySem.W.keepIn K (.ref f17) = true)
    (a18 : PySem.W.nsIn K mainGlobals "_law_moved" = some (some (.ref f18))) (l18 : K.lookup f18 = some ⟨oc18, od18, .func (PySem.W.fnOf "_law_moved" "_law_moved" (defArgs s__law_moved) (defBody s__law_moved) (defScope s__law_moved) .none kV18 dc18 pm18 an18 cd18 ct18), sl18⟩) (c18 : PySem.W.codeIn K cd18 "_law_moved" = true) (k18 : PySem.W.keepIn K (.ref f18) = true)
    (a19 : PySem.W.nsIn K mainGlobals "is_allowed" = some (some (.ref f19))) (l19 : K.lookup f19 = some ⟨oc19, od19, .func (PySem.W.fnOf "is_allowed" "is_allowed" (defArgs s_is_allowed) (defBody s_is_allowed) (defScope s_is_allowed) .none kV19 dc19 pm19 an19 cd19 ct19), sl19⟩) (c19 : PySem.W.codeIn K cd19 "is_allowed" = true) (k19 : PySem.W.keepIn K (.ref f19) = true)
    (a20 : PySem.W.nsIn K mainGlobals "is_arrangement" = some (some (.ref f20))) (l20 : K.lookup f20 = some ⟨oc20, od20, .func (PySem.W.fnOf "is_arrangement" "is_arrangement" (defArgs s_is_arrangement) (defBody s_is_arrangement) (defScope s_is_arrangement) .none kV20 dc20 pm20 an20 cd20 ct20), sl20⟩) (c20 : PySem.W.codeIn K cd20 "is_arrangement" = true) (k20 : PySem.W.keepIn K (.ref f20) = true)
    (a21 : PySem.W.nsIn K mainGlobals "minimum" = some (some (.ref f21))) (l21 : K.lookup f21 = some ⟨oc21, od21, .func (PySem.W.fnOf "minimum" "minimum" (defArgs s_minimum) (defBody s_minimum) (defScope s_minimum) .none kV21 dc21 pm21 an21 cd21 ct21), sl21⟩) (c21 : PySem.W.codeIn K cd21 "minimum" = true) (k21 : PySem.W.keepIn K (.ref f21) = true)
    (a22 : PySem.W.nsIn K mainGlobals "maximum" = some (some (.ref f22))) (l22 : K.lookup f22 = some ⟨oc22, od22, .func (PySem.W.fnOf "maximum" "maximum" (defArgs s_maximum) (defBody s_maximum) (defScope s_maximum) .none kV22 dc22 pm22 an22 cd22 ct22), sl22⟩) (c22 : PySem.W.codeIn K cd22 "maximum" = true) (k22 : PySem.W.keepIn K (.ref f22) = true)
    (a23 : PySem.W.nsIn K mainGlobals "_law_bounds_right" = some (some (.ref f23))) (l23 : K.lookup f23 = some ⟨oc23, od23, .func (PySem.W.fnOf "_law_bounds_right" "_law_bounds_right" (defArgs s__law_bounds_right) (defBody s__law_bounds_right) (defScope s__law_bounds_right) .none kV23 dc23 pm23 an23 cd23 ct23), sl23⟩) (c23 : PySem.W.codeIn K cd23 "_law_bounds_right" = true) (k23 : PySem.W.keepIn K (.ref f23) = true)
    (a24 : PySem.W.nsIn K mainGlobals "_law_far_right" = some (some (.ref f24))) (l24 : K.lookup f24 = some ⟨oc24, od24, .func (PySem.W.fnOf "_law_far_right" "_law_far_right" (defArgs s__law_far_right) (defBody s__law_far_right) (defScope s__law_far_right) .none kV24 dc24 pm24 an24 cd24 ct24), sl24⟩) (c24 : PySem.W.codeIn K cd24 "_law_far_right" = true) (k24 : PySem.W.keepIn K (.ref f24) = true)
    (a25 : PySem.W.nsIn K mainGlobals "law" = some (some (.ref f25))) (l25 : K.lookup f25 = some ⟨oc25, od25, .func (PySem.W.fnOf "law" "law" (defArgs s_law) (defBody s_law) (defScope s_law) .none kV25 dc25 pm25 an25 cd25 ct25), sl25⟩) (c25 : PySem.W.codeIn K cd25 "law" = true) (k25 : PySem.W.keepIn K (.ref f25) = true)
    (z_abs : PySem.W.nsIn K mainGlobals "abs" = some none)
    (z_all : PySem.W.nsIn K mainGlobals "all" = some none)
    (z_bool : PySem.W.nsIn K mainGlobals "bool" = some none)
    (z_enumerate : PySem.W.nsIn K mainGlobals "enumerate" = some none)
    (z_int : PySem.W.nsIn K mainGlobals "int" = some none)
    (z_isinstance : PySem.W.nsIn K mainGlobals "isinstance" = some none)
    (z_len : PySem.W.nsIn K mainGlobals "len" = some none)
    (z_list : PySem.W.nsIn K mainGlobals "list" = some none)
    (z_max : PySem.W.nsIn K mainGlobals "max" = some none)
    (z_min : PySem.W.nsIn K mainGlobals "min" = some none)
    (z_range : PySem.W.nsIn K mainGlobals "range" = some none)
    (z_repr : PySem.W.nsIn K mainGlobals "repr" = some none)
    (z_sorted : PySem.W.nsIn K mainGlobals "sorted" = some none)
    (z_sum : PySem.W.nsIn K mainGlobals "sum" = some none)
    (z_tuple : PySem.W.nsIn K mainGlobals "tuple" = some none)
    (z_zip : PySem.W.nsIn K mainGlobals "zip" = some none)
    (v_MOST_DIFFERENCE : PySem.W.nsIn K mainGlobals "MOST_DIFFERENCE" = some (some (.int 10000000000 t_MOST_DIFFERENCE)))
    (v_MOST_PLACE : PySem.W.nsIn K mainGlobals "MOST_PLACE" = some (some (.int 1000000000 t_MOST_PLACE)))
    (v_MOST_WAGONS : PySem.W.nsIn K mainGlobals "MOST_WAGONS" = some (some (.int 40 t_MOST_WAGONS))) :
    ∃ fd : FuncData, (∀ (s : Shared) (v : Value), BindsTo s fd ⟨[v], []⟩ [("script", v)]) ∧ ∀ base : Heap, K.In base → base.Ns mainGlobals mg → FnG l.prog w K mg base CX0 9 fa fd ["script"] (DL.spLaw K) := by
  have e := hfa.symm.trans (PySem.W.mg_of X G a25)
  cases e
  have T : Tx K mg { a_is_between := f0, d_is_between := PySem.W.fnOf "is_between" "is_between" (defArgs s_is_between) (defBody s_is_between) (defScope s_is_between) .none kV0 dc0 pm0 an0 cd0 ct0, a_is_walls := f1, d_is_walls := PySem.W.fnOf "is_walls" "is_walls" (defArgs s_is_walls) (defBody s_is_walls) (defScope s_is_walls) .none kV1 dc1 pm1 an1 cd1 ct1, a_is_coupling := f2, d_is_coupling := PySem.W.fnOf "is_coupling" "is_coupling" (defArgs s_is_coupling) (defBody s_is_coupling) (defScope s_is_coupling) .none kV2 dc2 pm2 an2 cd2 ct2, a_couplings_problem := f3, d_couplings_problem := PySem.W.fnOf "couplings_problem" "couplings_problem" (defArgs s_couplings_problem) (defBody s_couplings_problem) (defScope s_couplings_problem) .none kV3 dc3 pm3 an3 cd3 ct3, a_yard_problem := f4, d_yard_problem := PySem.W.fnOf "yard_problem" "yard_problem" (defArgs s_yard_problem) (defBody s_yard_problem) (defScope s_yard_problem) .none kV4 dc4 pm4 an4 cd4 ct4, a_validate_yard := f5, d_validate_yard := PySem.W.fnOf "validate_yard" "validate_yard" (defArgs s_validate_yard) (defBody s_validate_yard) (defScope s_validate_yard) .none kV5 dc5 pm5 an5 cd5 ct5, a_arrangement_problem := f6, d_arrangement_problem := PySem.W.fnOf "arrangement_problem" "arrangement_problem" (defArgs s_arrangement_problem) (defBody s_arrangement_problem) (defScope s_arrangement_problem) .none kV6 dc6 pm6 an6 cd6 ct6, a_need_arrangement := f7, d_need_arrangement := PySem.W.fnOf "need_arrangement" "need_arrangement" (defArgs s_need_arrangement) (defBody s_need_arrangement) (defScope s_need_arrangement) .none kV7 dc7 pm7 an7 cd7 ct7, a_need_all := f8, d_need_all := PySem.W.fnOf "need_all" "need_all" (defArgs s_need_all) (defBody s_need_all) (defScope s_need_all) .none kV8 dc8 pm8 an8 cd8 ct8, a_own_distances := f9, d_own_distances := PySem.W.fnOf "own_distances" "own_distances" (defArgs s_own_distances) (defBody s_own_distances) (defScope s_own_distances) .none kV9 dc9 pm9 an9 cd9 ct9, a_distance := f10, d_distance := PySem.W.fnOf "distance" "distance" (defArgs s_distance) (defBody s_distance) (defScope s_distance) .none kV10 dc10 pm10 an10 cd10 ct10, a_stretch := f11, d_stretch := PySem.W.fnOf "stretch" "stretch" (defArgs s_stretch) (defBody s_stretch) (defScope s_stretch) .none kV11 dc11 pm11 an11 cd11 ct11, a__law_begun := f12, d__law_begun := PySem.W.fnOf "_law_begun" "_law_begun" (defArgs s__law_begun) (defBody s__law_begun) (defScope s__law_begun) .none kV12 dc12 pm12 an12 cd12 ct12, a__law_next := f13, d__law_next := PySem.W.fnOf "_law_next" "_law_next" (defArgs s__law_next) (defBody s__law_next) (defScope s__law_next) .none kV13 dc13 pm13 an13 cd13 ct13, a__law_of := f14, d__law_of := PySem.W.fnOf "_law_of" "_law_of" (defArgs s__law_of) (defBody s__law_of) (defScope s__law_of) .none kV14 dc14 pm14 an14 cd14 ct14, a__law_shuffled := f15, d__law_shuffled := PySem.W.fnOf "_law_shuffled" "_law_shuffled" (defArgs s__law_shuffled) (defBody s__law_shuffled) (defScope s__law_shuffled) .none kV15 dc15 pm15 an15 cd15 ct15, a__law_lot := f16, d__law_lot := PySem.W.fnOf "_law_lot" "_law_lot" (defArgs s__law_lot) (defBody s__law_lot) (defScope s__law_lot) .none kV16 dc16 pm16 an16 cd16 ct16, a__law_room := f17, d__law_room := PySem.W.fnOf "_law_room" "_law_room" (defArgs s__law_room) (defBody s__law_room) (defScope s__law_room) .none kV17 dc17 pm17 an17 cd17 ct17, a__law_moved := f18, d__law_moved := PySem.W.fnOf "_law_moved" "_law_moved" (defArgs s__law_moved) (defBody s__law_moved) (defScope s__law_moved) .none kV18 dc18 pm18 an18 cd18 ct18, a_is_allowed := f19, d_is_allowed := PySem.W.fnOf "is_allowed" "is_allowed" (defArgs s_is_allowed) (defBody s_is_allowed) (defScope s_is_allowed) .none kV19 dc19 pm19 an19 cd19 ct19, a_is_arrangement := f20, d_is_arrangement := PySem.W.fnOf "is_arrangement" "is_arrangement" (defArgs s_is_arrangement) (defBody s_is_arrangement) (defScope s_is_arrangement) .none kV20 dc20 pm20 an20 cd20 ct20, a_minimum := f21, d_minimum := PySem.W.fnOf "minimum" "minimum" (defArgs s_minimum) (defBody s_minimum) (defScope s_minimum) .none kV21 dc21 pm21 an21 cd21 ct21, a_maximum := f22, d_maximum := PySem.W.fnOf "maximum" "maximum" (defArgs s_maximum) (defBody s_maximum) (defScope s_maximum) .none kV22 dc22 pm22 an22 cd22 ct22, a__law_bounds_right := f23, d__law_bounds_right := PySem.W.fnOf "_law_bounds_right" "_law_bounds_right" (defArgs s__law_bounds_right) (defBody s__law_bounds_right) (defScope s__law_bounds_right) .none kV23 dc23 pm23 an23 cd23 ct23, a__law_far_right := f24, d__law_far_right := PySem.W.fnOf "_law_far_right" "_law_far_right" (defArgs s__law_far_right) (defBody s__law_far_right) (defScope s__law_far_right) .none kV24 dc24 pm24 an24 cd24 ct24, a_law := fa, d_law := PySem.W.fnOf "law" "law" (defArgs s_law) (defBody s_law) (defScope s_law) .none kV25 dc25 pm25 an25 cd25 ct25 } := { h_is_between := fun_mk (st := s_is_between) l0 c0 k0, m_is_between := PySem.W.mg_of X G a0, h_is_walls := fun_mk (st := s_is_walls) l1 c1 k1, m_is_walls := PySem.W.mg_of X G a1, h_is_coupling := fun_mk (st := s_is_coupling) l2 c2 k2, m_is_coupling := PySem.W.mg_of X G a2, h_couplings_problem := fun_mk (st := s_couplings_problem) l3 c3 k3, m_couplings_problem := PySem.W.mg_of X G a3, h_yard_problem := fun_mk (st := s_yard_problem) l4 c4 k4, m_yard_problem := PySem.W.mg_of X G a4, h_validate_yard := fun_mk (st := s_validate_yard) l5 c5 k5, m_validate_yard := PySem.W.mg_of X G a5, h_arrangement_problem := fun_mk (st := s_arrangement_problem) l6 c6 k6, m_arrangement_problem := PySem.W.mg_of X G a6, h_need_arrangement := fun_mk (st := s_need_arrangement) l7 c7 k7, m_need_arrangement := PySem.W.mg_of X G a7, h_need_all := fun_mk (st := s_need_all) l8 c8 k8, m_need_all := PySem.W.mg_of X G a8, h_own_distances := fun_mk (st := s_own_distances) l9 c9 k9, m_own_distances := PySem.W.mg_of X G a9, h_distance := fun_mk (st := s_distance) l10 c10 k10, m_distance := PySem.W.mg_of X G a10, h_stretch := fun_mk (st := s_stretch) l11 c11 k11, m_stretch := PySem.W.mg_of X G a11, h__law_begun := fun_mk (st := s__law_begun) l12 c12 k12, m__law_begun := PySem.W.mg_of X G a12, h__law_next := fun_mk (st := s__law_next) l13 c13 k13, m__law_next := PySem.W.mg_of X G a13, h__law_of := fun_mk (st := s__law_of) l14 c14 k14, m__law_of := PySem.W.mg_of X G a14, h__law_shuffled := fun_mk (st := s__law_shuffled) l15 c15 k15, m__law_shuffled := PySem.W.mg_of X G a15, h__law_lot := fun_mk (st := s__law_lot) l16 c16 k16, m__law_lot := PySem.W.mg_of X G a16, h__law_room := fun_mk (st := s__law_room) l17 c17 k17, m__law_room := PySem.W.mg_of X G a17, h__law_moved := fun_mk (st := s__law_moved) l18 c18 k18, m__law_moved := PySem.W.mg_of X G a18, h_is_allowed := fun_mk (st := s_is_allowed) l19 c19 k19, m_is_allowed := PySem.W.mg_of X G a19, h_is_arrangement := fun_mk (st := s_is_arrangement) l20 c20 k20, m_is_arrangement := PySem.W.mg_of X G a20, h_minimum := fun_mk (st := s_minimum) l21 c21 k21, m_minimum := PySem.W.mg_of X G a21, h_maximum := fun_mk (st := s_maximum) l22 c22 k22, m_maximum := PySem.W.mg_of X G a22, h__law_bounds_right := fun_mk (st := s__law_bounds_right) l23 c23 k23, m__law_bounds_right := PySem.W.mg_of X G a23, h__law_far_right := fun_mk (st := s__law_far_right) l24 c24 k24, m__law_far_right := PySem.W.mg_of X G a24, h_law := fun_mk (st := s_law) l25 c25 k25, m_law := PySem.W.mg_of X G a25, n_abs := PySem.W.mg_none_of X G z_abs, n_all := PySem.W.mg_none_of X G z_all, n_bool := PySem.W.mg_none_of X G z_bool, n_enumerate := PySem.W.mg_none_of X G z_enumerate, n_int := PySem.W.mg_none_of X G z_int, n_isinstance := PySem.W.mg_none_of X G z_isinstance, n_len := PySem.W.mg_none_of X G z_len, n_list := PySem.W.mg_none_of X G z_list, n_max := PySem.W.mg_none_of X G z_max, n_min := PySem.W.mg_none_of X G z_min, n_range := PySem.W.mg_none_of X G z_range, n_repr := PySem.W.mg_none_of X G z_repr, n_sorted := PySem.W.mg_none_of X G z_sorted, n_sum := PySem.W.mg_none_of X G z_sum, n_tuple := PySem.W.mg_none_of X G z_tuple, n_zip := PySem.W.mg_none_of X G z_zip, c_MOST_DIFFERENCE := ⟨_, PySem.W.mg_of X G v_MOST_DIFFERENCE⟩, c_MOST_PLACE := ⟨_, PySem.W.mg_of X G v_MOST_PLACE⟩, c_MOST_WAGONS := ⟨_, PySem.W.mg_of X G v_MOST_WAGONS⟩ }
  exact ⟨PySem.W.fnOf "law" "law" (defArgs s_law) (defBody s_law) (defScope s_law) .none kV25 dc25 pm25 an25 cd25 ct25, fun s v => .of_eq rfl, fun base _ _ => ok_law T⟩
end K08

open PySem PySem.W PyProof.Rows in
set_option maxRecDepth 100000 in
set_option maxHeartbeats 0 in
theorem PySem.Challenge.cw_coupledyard_k08_minima_distances_stretch_holds : PySem.Challenge.rw_coupledyard_k08_minima_distances_stretch.Holds := by
  w_on; o_law; k_head; (case hw => w_witness2)
  k_fill
  refine DL.walkG (l := PySem.Challenge.rw_coupledyard_k08_minima_distances_stretch) (k := 9) (x := "script") rfl rfl ⟨rfl, by decide, by decide⟩ (fun w h Y => PySem.W.kIn_of Y) ?F
  case F =>
    intro w mg fa h KX G hmg
    refine' K08.all_mk KX G hmg ?a0 ?l0 ?c0 ?k0 ?a1 ?l1 ?c1 ?k1 ?a2 ?l2 ?c2 ?k2 ?a3 ?l3 ?c3 ?k3 ?a4 ?l4 ?c4 ?k4 ?a5 ?l5 ?c5 ?k5 ?a6 ?l6 ?c6 ?k6 ?a7 ?l7 ?c7 ?k7 ?a8 ?l8 ?c8 ?k8 ?a9 ?l9 ?c9 ?k9 ?a10 ?l10 ?c10 ?k10 ?a11 ?l11 ?c11 ?k11 ?a12 ?l12 ?c12 ?k12 ?a13 ?l13 ?c13 ?k13 ?a14 ?l14 ?c14 ?k14 ?a15 ?l15 ?c15 ?k15 ?a16 ?l16 ?c16 ?k16 ?a17 ?l17 ?c17 ?k17 ?a18 ?l18 ?c18 ?k18 ?a19 ?l19 ?c19 ?k19 ?a20 ?l20 ?c20 ?k20 ?a21 ?l21 ?c21 ?k21 ?a22 ?l22 ?c22 ?k22 ?a23 ?l23 ?c23 ?k23 ?a24 ?l24 ?c24 ?k24 ?a25 ?l25 ?c25 ?k25 ?z_abs ?z_all ?z_bool ?z_enumerate ?z_int ?z_isinstance ?z_len ?z_list ?z_max ?z_min ?z_range ?z_repr ?z_sorted ?z_sum ?z_tuple ?z_zip ?v_MOST_DIFFERENCE ?v_MOST_PLACE ?v_MOST_WAGONS
    (case a0 => k_is)
    (case l0 => k_is)
    (case c0 => k_is)
    (case k0 => k_is)
    (case a1 => k_is)
    (case l1 => k_is)
    (case c1 => k_is)
    (case k1 => k_is)
    (case a2 => k_is)
    (case l2 => k_is)
    (case c2 => k_is)
    (case k2 => k_is)
    (case a3 => k_is)
    (case l3 => k_is)
    (case c3 => k_is)
    (case k3 => k_is)
    (case a4 => k_is)
    (case l4 => k_is)
    (case c4 => k_is)
    (case k4 => k_is)
    (case a5 => k_is)
    (case l5 => k_is)
    (case c5 => k_is)
    (case k5 => k_is)
    (case a6 => k_is)
    (case l6 => k_is)
    (case c6 => k_is)
    (case k6 => k_is)
    (case a7 => k_is)
    (case l7 => k_is)
    (case c7 => k_is)
    (case k7 => k_is)
    (case a8 => k_is)
    (case l8 => k_is)
    (case c8 => k_is)
    (case k8 => k_is)
    (case a9 => k_is)
    (case l9 => k_is)
    (case c9 => k_is)
    (case k9 => k_is)
    (case a10 => k_is)
    (case l10 => k_is)
    (case c10 => k_is)
    (case k10 => k_is)
    (case a11 => k_is)
    (case l11 => k_is)
    (case c11 => k_is)
    (case k11 => k_is)
    (case a12 => k_is)
    (case l12 => k_is)
    (case c12 => k_is)
    (case k12 => k_is)
    (case a13 => k_is)
    (case l13 => k_is)
    (case c13 => k_is)
    (case k13 => k_is)
    (case a14 => k_is)
    (case l14 => k_is)
    (case c14 => k_is)
    (case k14 => k_is)
    (case a15 => k_is)
    (case l15 => k_is)
    (case c15 => k_is)
    (case k15 => k_is)
    (case a16 => k_is)
    (case l16 => k_is)
    (case c16 => k_is)
    (case k16 => k_is)
    (case a17 => k_is)
    (case l17 => k_is)
    (case c17 => k_is)
    (case k17 => k_is)
    (case a18 => k_is)
    (case l18 => k_is)
    (case c18 => k_is)
    (case k18 => k_is)
    (case a19 => k_is)
    (case l19 => k_is)
    (case c19 => k_is)
    (case k19 => k_is)
    (case a20 => k_is)
    (case l20 => k_is)
    (case c20 => k_is)
    (case k20 => k_is)
    (case a21 => k_is)
    (case l21 => k_is)
    (case c21 => k_is)
    (case k21 => k_is)
    (case a22 => k_is)
    (case l22 => k_is)
    (case c22 => k_is)
    (case k22 => k_is)
    (case a23 => k_is)
    (case l23 => k_is)
    (case c23 => k_is)
    (case k23 => k_is)
    (case a24 => k_is)
    (case l24 => k_is)
    (case c24 => k_is)
    (case k24 => k_is)
    (case a25 => k_is)
    (case l25 => k_is)
    (case c25 => k_is)
    (case k25 => k_is)
    (case z_abs => k_is)
    (case z_all => k_is)
    (case z_bool => k_is)
    (case z_enumerate => k_is)
    (case z_int => k_is)
    (case z_isinstance => k_is)
    (case z_len => k_is)
    (case z_list => k_is)
    (case z_max => k_is)
    (case z_min => k_is)
    (case z_range => k_is)
    (case z_repr => k_is)
    (case z_sorted => k_is)
    (case z_sum => k_is)
    (case z_tuple => k_is)
    (case z_zip => k_is)
    (case v_MOST_DIFFERENCE => k_is)
    (case v_MOST_PLACE => k_is)
    (case v_MOST_WAGONS => k_is)
#print axioms PySem.Challenge.cw_coupledyard_k08_minima_distances_stretch_holds
