import PyProof.Rows.All
import Wide.All
import OpenK.AllK
import Wide.FinOn
import HandS.ForMost
import HandS.ForExc
import HandS.TryMany
import HandS.ExcInit
import HandS.ExcField
import HandS.IsInst
import HandS.Flow
import HandS.Wide
import HandS.Zip
import HandS.DictTup
import HandS.MakeKw
import HandS.TupAny
import HandS.TupMul
import HandS.Conv
import HandS.TupLe
import HandS.Property
import HandS.ClsMeth
import HandS.Gcd
import HandS.Deep
import HandS.SetFor
import HandS.SortRule
import HandS.StrMore
import HandS.CallLocal
import HandS.Rev
import HandS.RaiseMore
import KE.SortData
import HandS.Lambda
import HandS.EndTab
import HandS.HotCalls
import HandS.Style
import HandS.OwnEq
import HandS.SlotsOwn
import PyProof.InstEq
import KE.DatumOrd
import KE.KNestM
import PySem.Challenge.RW_calmwebs_k57_arrows_and_rounds
set_option Elab.async false
set_option linter.all false
set_option maxRecDepth 100000
/-! Layer V, core: data D, persistent part P of the heap, owned slots, denotations. -/
namespace VL
open PySem PySem.Spec PyProof.Rows L2

/-- data, by value -/
inductive D where
  | non | bl (b : Bool) | int (i : Int) | str (x : Str)
  | tup (l : List D) | lst (l : List D)
  | dct (l : List (Key × D))
  | ins (c : Str) (fs : List (Str × D))
  | glb (x : Str)
  | frz (l : List D)
  | gh (c : Str) (gs : List (Str × D))

abbrev Env := List (Option D)
inductive Res (α : Type) where
  | ok (a : α) (δ : Env)
  | exn (e : D) (δ : Env)
  | no
def Res.bind {α β : Type} (r : Res α) (f : α → Env → Res β) : Res β := match r with
  | .ok a δ => f a δ
  | .exn e δ => .exn e δ
  | .no => .no
inductive SRes where
  | next (δ : Env) | ret (d : D) (δ : Env) | brk (δ : Env) | cont (δ : Env) | exn (e : D) (δ : Env) | no
abbrev DE := Env → Res D
abbrev DA := Env → Res (List D)
abbrev DT := Env → Res Bool
abbrev DS := Env → SRes

/-- kinds of slots: shared; an owned list of items of a kind; an owned dict of shared values; an owned instance of shared fields -/
inductive Kd where
  | sh | li (k : Kd) | dc | ob | pin (a : Addr) (k : Kd)
abbrev Kds := List Kd
def Kds.at (kd : Kds) (i : Nat) : Kd := kd.getD i .sh

theorem allNil {kd : Kds} : ∀ i ∈ ([] : List Nat), kd.at i = .sh := fun _ h => by cases h
theorem allCons {kd : Kds} {j : Nat} {l : List Nat} (h : kd.at j = .sh) (r : ∀ i ∈ l, kd.at i = .sh) : ∀ i ∈ j :: l, kd.at i = .sh := fun i m => by
  cases m with
  | head => exact h
  | tail _ m => exact r i m

abbrev AS := Addr → Prop

/-- a mark: in what is shared it stands for a table of code objects, all of one name, that may grow -/
def TbK (q : Str) : HO := .frz { cls := .none, data := .freed } (.xd [(q, .non)])
variable (K : PySem.W.Frag) (mg : Str → Option Value)

mutual
inductive Rep (P : Hp) : V → D → Prop
  | non : Rep P .non .non
  | bl (b : Bool) : Rep P (.bl b) (.bl b)
  | int (i : Int) : Rep P (.int i) (.int i)
  | str (x : Str) : Rep P (.str x) (.str x)
  | tup {a : Addr} {vs : List V} {ds : List D} : SqT K P a vs → RepL P vs ds → Rep P (.ref a) (.tup ds)
  | lst {a : Addr} {vs : List V} {ds : List D} : P a = some (.lst vs) → RepL P vs ds → Rep P (.ref a) (.lst ds)
  | frz {a : Addr} {vs : List V} {ds : List D} : SqL K P a vs → RepL P vs ds → Rep P (.ref a) (.frz ds)
  | dct {a : Addr} {kvs : List (Key × V)} {es : List (Key × D)} : P a = some (.dK kvs) → kvs.map (·.1) = es.map (·.1) → RepL P (kvs.map (·.2)) (es.map (·.2)) → Rep P (.ref a) (.dct es)
  | ins {a C dx : Addr} {c : Str} {fs : List (Str × V)} {gs : List (Str × D)} : P a = some (.ins C dx fs) → mg c = some (.ref C) → fs.map (·.1) = gs.map (·.1) → RepL P (fs.map (·.2)) (gs.map (·.2)) → Rep P (.ref a) (.ins c gs)
  | glb {x : Str} {v : V} {u : Value} : mg x = some u → RelV v u → Rep P v (.glb x)
  | gh0 (v : V) : Rep P v (.gh "any" [])
  | ghx {a : Addr} {fs : List (Str × V)} {gs : List (Str × D)} : P a = some (.xd fs) → fs.map (·.1) = gs.map (·.1) → RepL P (fs.map (·.2)) (gs.map (·.2)) → Rep P (.ref a) (.gh "xd" gs)
  | ght {a : Addr} {q : Str} : P a = some (TbK q) → Rep P (.ref a) (.gh "tab" [(q, .non)])
inductive RepL (P : Hp) : List V → List D → Prop
  | nil : RepL P [] []
  | cons {v : V} {d : D} {vs : List V} {ds : List D} : Rep P v d → RepL P vs ds → RepL P (v :: vs) (d :: ds)
end

def NoTb (o : HO) : Prop := ∀ ps, o ≠ .tbl ps
def Sub (P P' : Hp) : Prop := ∀ a o, P a = some o → P' a = some o
theorem Sub.refl (P : Hp) : Sub P P := fun _ _ h => h
theorem Sub.trans {P Q R : Hp} (a : Sub P Q) (b : Sub Q R) : Sub P R := fun x o h => b x o (a x o h)
theorem Sub.rd {P P' : Hp} (s : Sub P P') {a : Addr} {u : HO} (h : Rd P a u) : Rd P' a u := by
  rcases h with h | ⟨o, h⟩
  · exact .inl (s _ _ h)
  · exact .inr ⟨o, s _ _ h⟩
variable {K mg}
theorem Sub.sql {P P' : Hp} (s : Sub P P') {a : Addr} {xs : List V} (h : SqL K P a xs) : SqL K P' a xs := by
  rcases h with h | h
  · exact .inl (s.rd h)
  · exact .inr h
theorem Sub.sqt {P P' : Hp} (s : Sub P P') {a : Addr} {xs : List V} (h : SqT K P a xs) : SqT K P' a xs := by
  rcases h with h | h
  · exact .inl (s.rd h)
  · exact .inr h
theorem TbK.inj {q r : Str} (h : TbK q = TbK r) : q = r := by
  unfold TbK at h
  injection h with _ h
  injection h with h
  injection h with h _
  injection h
/-- what is shared lies in the heap; a mark stands for its table -/
def Lie (P H : Hp) : Prop := ∀ a o, P a = some o → (H a = some o ∧ NoTb o) ∨ ∃ q, o = TbK q ∧ LamX.TabS H a q
theorem Lie.at {P H : Hp} (s : Lie P H) {a : Addr} {o : HO} (h : P a = some o) (n : ∀ q, o ≠ TbK q := by intro q z; cases z) : H a = some o := by
  rcases s a o h with ⟨e, _⟩ | ⟨q, e, _⟩
  · exact e
  · exact (n q e).elim
theorem Lie.there {P H : Hp} (s : Lie P H) {a : Addr} {o : HO} (h : P a = some o) : ∃ u, H a = some u := by
  rcases s a o h with ⟨e, _⟩ | ⟨q, _, ps, e, _⟩
  · exact ⟨_, e⟩
  · exact ⟨_, e⟩
theorem Lie.free {P H : Hp} (s : Lie P H) {a : Addr} (h : H a = none) : P a = none := by
  cases e : P a with
  | none => rfl
  | some o => obtain ⟨u, q⟩ := s.there e; rw [h] at q; cases q
theorem Sub.lie {P P' H : Hp} (a : Sub P P') (b : Lie P' H) : Lie P H := fun x o h => b x o (a x o h)
theorem CodeO_tbl {c : Addr} {q : Str} (ps : Array Value) : LamX.CodeO c q ≠ .tbl ps := LamX.codeO_ne ps
theorem TabS.keep {H H' : Hp} {a : Addr} {q : Str} (t : LamX.TabS H a q) (e : ∀ b o, H b = some o → (∀ xs, o ≠ .lst xs) → (∀ kv, o ≠ .dK kv) → (∀ C dx fs, o ≠ .ins C dx fs) → H' b = some o) : LamX.TabS H' a q := by
  obtain ⟨ps, h1, h2, h3⟩ := t
  refine ⟨ps, e _ _ h1 (by intro _ z; cases z) (by intro _ z; cases z) (by intro _ _ _ z; cases z), h2, fun pos cv hc => ?_⟩
  obtain ⟨c, e1, e2⟩ := h3 pos cv hc
  exact ⟨c, e1, e _ _ e2 (by intro _ z; unfold LamX.CodeO at z; cases z) (by intro _ z; unfold LamX.CodeO at z; cases z) (by intro _ _ _ z; unfold LamX.CodeO at z; cases z)⟩
/-- it lies in a heap where lists, dicts, instances alone may be others -/
theorem Lie.keep {P H H' : Hp} (s : Lie P H) (e : ∀ b o, H b = some o → (∀ xs, o ≠ .lst xs) → (∀ kv, o ≠ .dK kv) → (∀ C dx fs, o ≠ .ins C dx fs) → H' b = some o) (f : ∀ b o, P b = some o → H b = some o → H' b = some o) : Lie P H' := fun a o h => by
  rcases s a o h with ⟨z, nt⟩ | ⟨q, z, t⟩
  · exact .inl ⟨f _ _ h z, nt⟩
  · exact .inr ⟨q, z, TabS.keep t e⟩
theorem Lie.ext {P H H' : Hp} (s : Lie P H) (e : ∀ b o, H b = some o → H' b = some o) : Lie P H' := s.keep (fun b o h _ _ _ => e b o h) fun b o _ h => e b o h
section
variable {K : PySem.W.Frag}
theorem Lie.sql {P H : Hp} (s : Lie P H) {a : Addr} {xs : List V} (h : SqL K P a xs) : SqL K H a xs := by
  rcases h with (h | ⟨o, h⟩) | h
  · exact .inl (.inl (s.at h))
  · exact .inl (.inr ⟨o, s.at h (by intro q z; unfold TbK at z; injection z with _ z; cases z)⟩)
  · exact .inr h
theorem Lie.sqt {P H : Hp} (s : Lie P H) {a : Addr} {xs : List V} (h : SqT K P a xs) : SqT K H a xs := by
  rcases h with (h | ⟨o, h⟩) | h
  · exact .inl (.inl (s.at h))
  · exact .inl (.inr ⟨o, s.at h (by intro q z; unfold TbK at z; injection z with _ z; cases z)⟩)
  · exact .inr h
end
mutual
theorem Rep.mono {P P' : Hp} (s : Sub P P') : ∀ {v : V} {d : D}, Rep K mg P v d → Rep K mg P' v d
  | _, _, .non => .non
  | _, _, .bl b => .bl b
  | _, _, .int i => .int i
  | _, _, .str x => .str x
  | _, _, .tup h l => .tup (s.sqt h) (RepL.mono s l)
  | _, _, .lst h l => .lst (s _ _ h) (RepL.mono s l)
  | _, _, .frz h l => .frz (s.sql h) (RepL.mono s l)
  | _, _, .dct h e l => .dct (s _ _ h) e (RepL.mono s l)
  | _, _, .ins h c e l => .ins (s _ _ h) c e (RepL.mono s l)
  | _, _, .glb h r => .glb h r
  | _, _, .gh0 v => .gh0 v
  | _, _, .ghx h e l => .ghx (s _ _ h) e (RepL.mono s l)
  | _, _, .ght h => .ght (s _ _ h)
theorem RepL.mono {P P' : Hp} (s : Sub P P') : ∀ {vs : List V} {ds : List D}, RepL K mg P vs ds → RepL K mg P' vs ds
  | _, _, .nil => .nil
  | _, _, .cons a b => .cons (Rep.mono s a) (RepL.mono s b)
end
theorem RepL.length {P : Hp} : ∀ {vs : List V} {ds : List D}, RepL K mg P vs ds → vs.length = ds.length
  | _, _, .nil => rfl
  | _, _, .cons _ b => by simp [RepL.length b]
theorem RepL.get {P : Hp} : ∀ {vs : List V} {ds : List D} {i : Nat} {d : D}, RepL K mg P vs ds → ds[i]? = some d → ∃ v, vs[i]? = some v ∧ Rep K mg P v d
  | _, _, 0, _, .cons a _, e => by simp at e; subst e; exact ⟨_, rfl, a⟩
  | _, _, i + 1, d, .cons _ b, e => by
    obtain ⟨v, h, r⟩ := RepL.get (i := i) (d := d) b (by simpa using e)
    exact ⟨v, by simpa using h, r⟩
theorem RepL.getV {P : Hp} : ∀ {vs : List V} {ds : List D} {i : Nat} {v : V}, RepL K mg P vs ds → vs[i]? = some v → ∃ d, ds[i]? = some d ∧ Rep K mg P v d
  | _, _, 0, _, .cons a _, e => by simp at e; subst e; exact ⟨_, rfl, a⟩
  | _, _, i + 1, d, .cons _ b, e => by
    obtain ⟨v, h, r⟩ := RepL.getV (i := i) (v := d) b (by simpa using e)
    exact ⟨v, by simpa using h, r⟩
theorem RepL.append {P : Hp} : ∀ {vs : List V} {ds : List D} {ws : List V} {es : List D}, RepL K mg P vs ds → RepL K mg P ws es → RepL K mg P (vs ++ ws) (ds ++ es)
  | _, _, _, _, .nil, r => r
  | _, _, _, _, .cons a b, r => .cons a (RepL.append b r)
theorem RepL.of {P : Hp} : ∀ {vs : List V} {ds : List D}, vs.length = ds.length → (∀ (j : Nat) (v : V) (d : D), vs[j]? = some v → ds[j]? = some d → Rep K mg P v d) → RepL K mg P vs ds
  | [], [], _, _ => .nil
  | [], _ :: _, h, _ => by simp at h
  | _ :: _, [], h, _ => by simp at h
  | v :: vs, d :: ds, h, f => .cons (f 0 v d rfl rfl) (RepL.of (by simpa using h) fun j v' d' a b => f (j + 1) v' d' (by simpa using a) (by simpa using b))

variable (K mg)
/-- an owned value: F its cells -/
def Own : Kd → AS → Hp → Hp → V → D → Prop
  | .sh, F, P, _, v, d => (∀ a, ¬ F a) ∧ Rep K mg P v d
  | .li k, F, P, H, v, d => ∃ (a : Addr) (vs : List V) (ds : List D) (Fs : Nat → AS), v = .ref a ∧ d = .lst ds ∧ H a = some (.lst vs) ∧ vs.length = ds.length ∧
      (∀ (j : Nat) (v : V) (d : D), vs[j]? = some v → ds[j]? = some d → Own k (Fs j) P H v d) ∧ (∀ i j b, Fs i b → Fs j b → i = j) ∧ (∀ j b, Fs j b → b ≠ a ∧ j < ds.length) ∧ (∀ b, F b ↔ b = a ∨ ∃ j, Fs j b)
  | .dc, F, P, H, v, d => ∃ (a : Addr) (kvs : List (Key × V)) (es : List (Key × D)), v = .ref a ∧ d = .dct es ∧ H a = some (.dK kvs) ∧ kvs.map (·.1) = es.map (·.1) ∧ RepL K mg P (kvs.map (·.2)) (es.map (·.2)) ∧ ∀ b, F b ↔ b = a
  | .ob, F, P, H, v, d => ∃ (a C dx : Addr) (c : Str) (fs : List (Str × V)) (gs : List (Str × D)), v = .ref a ∧ d = .ins c gs ∧ H a = some (.ins C dx fs) ∧ mg c = some (.ref C) ∧ fs.map (·.1) = gs.map (·.1) ∧ RepL K mg P (fs.map (·.2)) (gs.map (·.2)) ∧ ∀ b, F b ↔ b = a
  | .pin a k, F, P, H, v, d => v = .ref a ∧ Own k F P H v d
variable {K mg}
theorem Own.stay {P P' H H' : Hp} (s : Sub P P') : ∀ {k : Kd} {F : AS} {v : V} {d : D}, (∀ a o, F a → H a = some o → NoTb o → H' a = some o) → Own K mg k F P H v d → Own K mg k F P' H' v d
  | .sh, _, _, _, _, ⟨n, r⟩ => ⟨n, r.mono s⟩
  | .li k, F, _, _, h, ⟨a, vs, ds, Fs, e1, e2, e3, e4, e5, e6, e7, e8⟩ =>
    ⟨a, vs, ds, Fs, e1, e2, h a _ ((e8 a).mpr (.inl rfl)) e3 (by intro _ z; cases z), e4, fun j v d x y => Own.stay s (fun b o fb => h b o ((e8 b).mpr (.inr ⟨j, fb⟩))) (e5 j v d x y), e6, e7, e8⟩
  | .dc, F, _, _, h, ⟨a, kvs, es, e1, e2, e3, e4, e5, e6⟩ => ⟨a, kvs, es, e1, e2, h a _ ((e6 a).mpr rfl) e3 (by intro _ z; cases z), e4, e5.mono s, e6⟩
  | .ob, F, _, _, h, ⟨a, C, dx, c, fs, gs, e1, e2, e3, e4, e5, e6, e7⟩ => ⟨a, C, dx, c, fs, gs, e1, e2, h a _ ((e7 a).mpr rfl) e3 (by intro _ z; cases z), e4, e5, e6.mono s, e7⟩
  | .pin a k, F, _, _, h, ⟨e1, o⟩ => ⟨e1, Own.stay s h o⟩

/-- what may be changed: lists, dicts, instances -/
def Mu (o : HO) : Prop := (∃ xs, o = .lst xs) ∨ (∃ kv, o = .dK kv) ∨ ∃ C dx fs, o = .ins C dx fs
theorem Own.mu {P H : Hp} : ∀ {k : Kd} {F : AS} {v : V} {d : D}, Own K mg k F P H v d → ∀ a, F a → ∃ u, H a = some u ∧ Mu u
  | .sh, _, _, _, ⟨n, _⟩, a, h => (n a h).elim
  | .li k, F, _, _, ⟨p, vs, ds, Fs, e1, e2, e3, e4, e5, e6, e7, e8⟩, a, h => by
    rcases (e8 a).mp h with rfl | ⟨j, hj⟩
    · exact ⟨_, e3, .inl ⟨_, rfl⟩⟩
    · have hl := (e7 j a hj).2
      have hv : j < vs.length := by omega
      exact Own.mu (e5 j vs[j] ds[j] (List.getElem?_eq_getElem hv) (List.getElem?_eq_getElem hl)) a hj
  | .dc, F, _, _, ⟨p, kvs, es, e1, e2, e3, e4, e5, e6⟩, a, h => ⟨_, (e6 a).mp h ▸ e3, .inr (.inl ⟨_, rfl⟩)⟩
  | .ob, F, _, _, ⟨p, C, dx, c, fs, gs, e1, e2, e3, e4, e5, e6, e7⟩, a, h => ⟨_, (e7 a).mp h ▸ e3, .inr (.inr ⟨_, _, _, rfl⟩)⟩
  | .pin b k, F, _, _, ⟨e1, o⟩, a, h => Own.mu o a h
/-- a list, a dict, an instance is changed: tables stay -/
theorem Lie.chg {P H : Hp} {p : Addr} {o u : HO} (s : Lie P H) (h : H p = some u) (m : Mu u) (hp : P p = none) : Lie P (L2.upd H p o) := s.keep (fun b x e n1 n2 n3 => by
  rw [upd_ne (fun z => by
    subst z
    rw [h] at e
    cases e
    rcases m with ⟨_, rfl⟩ | ⟨_, rfl⟩ | ⟨_, _, _, rfl⟩
    · exact n1 _ rfl
    · exact n2 _ rfl
    · exact n3 _ _ _ rfl)]
  exact e) fun b x e e2 => by rw [upd_ne (fun z => by subst z; rw [hp] at e; cases e)]; exact e2
open Classical in
/-- P with H's cells in F -/
noncomputable def add (P H : Hp) (F : AS) : Hp := fun a => if F a then H a else P a
theorem add_in {P H : Hp} {F : AS} {a : Addr} (h : F a) : add P H F a = H a := by unfold add; rw [if_pos h]
theorem add_out {P H : Hp} {F : AS} {a : Addr} (h : ¬ F a) : add P H F a = P a := by unfold add; rw [if_neg h]
theorem add_sub {P H : Hp} {F : AS} (h : ∀ a, F a → P a = none) : Sub P (add P H F) := fun a o e => by
  by_cases f : F a
  · rw [h a f] at e; cases e
  · rw [add_out f]; exact e
theorem add_le {P H : Hp} {F : AS} (s : Lie P H) (hF : ∀ a o, F a → H a = some o → NoTb o) : Lie (add P H F) H := fun a o e => by
  by_cases f : F a
  · rw [add_in f] at e; exact .inl ⟨e, hF a o f e⟩
  · rw [add_out f] at e; exact s _ _ e
theorem add_mono {P H : Hp} {F G : AS} (h : ∀ a, F a → G a) (hg : ∀ a, G a → P a = none) : Sub (add P H F) (add P H G) := fun a o e => by
  by_cases f : F a
  · rw [add_in f] at e; rw [add_in (h a f)]; exact e
  · rw [add_out f] at e
    by_cases g : G a
    · rw [hg a g] at e; cases e
    · rw [add_out g]; exact e
/-- an owned value is made shared -/
theorem Own.rel {P H : Hp} : ∀ {k : Kd} {F : AS} {v : V} {d : D}, (∀ a, F a → P a = none) → Own K mg k F P H v d → Rep K mg (add P H F) v d
  | .sh, F, _, _, h, ⟨n, r⟩ => r.mono (add_sub h)
  | .li k, F, _, _, h, ⟨a, vs, ds, Fs, e1, e2, e3, e4, e5, e6, e7, e8⟩ => by
    subst e1; subst e2
    refine .lst (by rw [add_in ((e8 a).mpr (.inl rfl))]; exact e3) (RepL.of e4 fun j v d x y => ?_)
    have hj : ∀ b, Fs j b → F b := fun b q => (e8 b).mpr (.inr ⟨j, q⟩)
    exact (Own.rel (fun b q => h b (hj b q)) (e5 j v d x y)).mono (add_mono hj h)
  | .dc, F, _, _, h, ⟨a, kvs, es, e1, e2, e3, e4, e5, e6⟩ => by
    subst e1; subst e2
    exact .dct (by rw [add_in ((e6 a).mpr rfl)]; exact e3) e4 (e5.mono (add_sub h))
  | .ob, F, _, _, h, ⟨a, C, dx, c, fs, gs, e1, e2, e3, e4, e5, e6, e7⟩ => by
    subst e1; subst e2
    exact .ins (by rw [add_in ((e7 a).mpr rfl)]; exact e3) e4 e5 (e6.mono (add_sub h))
  | .pin a k, F, _, _, h, ⟨e1, o⟩ => Own.rel h o

/-- the cells of all slots -/
def All (Fs : Nat → AS) : AS := fun a => ∃ i, Fs i a
variable (K mg)
/-- the state: P lies in H; each slot that has a value holds it; what is owned is apart -/
structure EnvR (kd : Kds) (Fs : Nat → AS) (P H : Hp) (σ : L2.St) (δ : Env) : Prop where
  sub : Lie P H
  slot : ∀ i d, δ[i]? = some (some d) → ∃ v, σ[i]? = some (some v) ∧ Own K mg (kd.at i) (Fs i) P H v d
  only : ∀ i a, Fs i a → ∃ d, δ[i]? = some (some d)
  sep : ∀ i j a, Fs i a → Fs j a → i = j
  out : ∀ i a, Fs i a → P a = none ∧ ∃ o, H a = some o
  len : δ.length = σ.length
  lenK : kd.length = σ.length
variable {K mg}
/-- what a piece of code does: M the cells that it may change, P what is shared -/
structure Stp (M : AS) (P H : Hp) (M' : AS) (P' H' : Hp) : Prop where
  keep : ∀ a o, H a = some o → ¬ M a → NoTb o → H' a = some o
  grow : Sub P P'
  newP : ∀ a o, P' a = some o → P a = some o ∨ H a = none ∨ M a
  newM : ∀ a, M' a → M a ∨ H a = none
  dom : ∀ a o, H a = some o → ∃ o', H' a = some o'
/-- new cells of a value under way -/
structure Fr (G : AS) (H : Hp) (M' : AS) (P' H' : Hp) : Prop where
  new : ∀ a, G a → H a = none
  notM : ∀ a, G a → ¬ M' a
  notP : ∀ a, G a → P' a = none
  there : ∀ a, G a → ∃ o, H' a = some o
def Non : AS := fun _ => False
theorem Fr.non {H : Hp} {M' : AS} {P' H' : Hp} : Fr Non H M' P' H' := ⟨fun _ z => z.elim, fun _ z => z.elim, fun _ z => z.elim, fun _ z => z.elim⟩
theorem Stp.refl {M : AS} {P H : Hp} : Stp M P H M P H := ⟨fun _ _ h _ _ => h, Sub.refl _, fun _ _ h => .inl h, fun _ h => .inl h, fun _ o h => ⟨o, h⟩⟩
theorem Stp.trans {M M1 M2 : AS} {P P1 P2 H H1 H2 : Hp} (a : Stp M P H M1 P1 H1) (b : Stp M1 P1 H1 M2 P2 H2) : Stp M P H M2 P2 H2 where
  keep x o h n t := b.keep x o (a.keep x o h n t) (fun m => (a.newM x m).elim n fun e => by rw [e] at h; cases h) t
  grow := a.grow.trans b.grow
  newP x o h := by
    rcases b.newP x o h with q | q | q
    · exact a.newP x o q
    · right; left
      cases e : H x with
      | none => rfl
      | some u => obtain ⟨o', e'⟩ := a.dom x u e; rw [q] at e'; cases e'
    · exact (a.newM x q).elim (fun m => .inr (.inr m)) fun n => .inr (.inl n)
  newM x m := by
    rcases b.newM x m with q | q
    · exact a.newM x q
    · right
      cases e : H x with
      | none => rfl
      | some u => obtain ⟨o', e'⟩ := a.dom x u e; rw [q] at e'; cases e'
  dom x o h := let ⟨o1, h1⟩ := a.dom x o h; b.dom x o1 h1
/-- a value under way stays over the next piece -/
theorem Fr.stay {G : AS} {H H1 H2 P1 P2 : Hp} {M1 M2 : AS} (f : Fr G H M1 P1 H1) (b : Stp M1 P1 H1 M2 P2 H2) : Fr G H M2 P2 H2 where
  new := f.new
  notM a g m := (b.newM a m).elim (f.notM a g) fun e => by obtain ⟨o, q⟩ := f.there a g; rw [e] at q; cases q
  notP a g := by
    cases e : P2 a with
    | none => rfl
    | some o =>
      rcases b.newP a o e with q | q | q
      · rw [f.notP a g] at q; cases q
      · obtain ⟨o, z⟩ := f.there a g; rw [q] at z; cases z
      · exact (f.notM a g q).elim
  there a g := let ⟨o, h⟩ := f.there a g; b.dom a o h
theorem Own.over {k : Kd} {G : AS} {H H1 H2 P1 P2 : Hp} {M1 M2 : AS} {v : V} {d : D} (f : Fr G H M1 P1 H1) (b : Stp M1 P1 H1 M2 P2 H2) (o : Own K mg k G P1 H1 v d) : Own K mg k G P2 H2 v d :=
  o.stay b.grow fun a o g h t => b.keep a o h (f.notM a g) t
/-- where it began earlier -/
theorem Fr.back {G : AS} {H H1 H2 P2 : Hp} {M2 : AS} (f : Fr G H1 M2 P2 H2) (h : ∀ a o, H a = some o → ∃ o', H1 a = some o') : Fr G H M2 P2 H2 :=
  ⟨fun a g => (by
    cases e : H a with
    | none => rfl
    | some o => obtain ⟨o', q⟩ := h a o e; rw [f.new a g] at q; cases q), f.notM, f.notP, f.there⟩

section
variable {kd : Kds} {Fs : Nat → AS} {P H : Hp} {σ : L2.St} {δ : Env}
theorem EnvR.all_out (E : EnvR K mg kd Fs P H σ δ) : ∀ a, All Fs a → P a = none := fun a ⟨i, h⟩ => (E.out i a h).1
theorem Mu.noTb {u : HO} (m : Mu u) : NoTb u := by
  rcases m with ⟨_, rfl⟩ | ⟨_, rfl⟩ | ⟨_, _, _, rfl⟩ <;> (intro _ z; cases z)
theorem mu_ntb {G : AS} {H : Hp} (hG : ∀ a, G a → ∃ u, H a = some u ∧ Mu u) : ∀ a o, G a → H a = some o → NoTb o := fun a o g e => by
  obtain ⟨u, h, m⟩ := hG a g
  rw [h] at e
  cases e
  exact m.noTb
theorem EnvR.mu (E : EnvR K mg kd Fs P H σ δ) : ∀ a, All Fs a → ∃ u, H a = some u ∧ Mu u := fun a ⟨i, h⟩ => by
  obtain ⟨d, e⟩ := E.only i a h
  obtain ⟨v, _, o⟩ := E.slot i d e
  exact o.mu a h
theorem EnvR.all_in (E : EnvR K mg kd Fs P H σ δ) : ∀ a, All Fs a → ∃ o, H a = some o := fun a ⟨i, h⟩ => (E.out i a h).2
/-- a new object is laid (tracked, not yet shared nor owned) or shared -/
theorem EnvR.grow {P' H' : Hp} (E : EnvR K mg kd Fs P H σ δ) (s : Stp Non P H Non P' H') (hs : Lie P' H') : EnvR K mg kd Fs P' H' σ δ where
  sub := hs
  slot i d e := let ⟨v, h, o⟩ := E.slot i d e; ⟨v, h, o.stay s.grow fun a u _ q t => s.keep a u q (fun z => z) t⟩
  only := E.only
  sep := E.sep
  out i a f := by
    obtain ⟨hp, o, ho⟩ := E.out i a f
    refine ⟨?_, s.dom a o ho⟩
    cases e : P' a with
    | none => rfl
    | some u =>
      rcases s.newP a u e with q | q | q
      · rw [hp] at q; cases q
      · rw [ho] at q; cases q
      · exact q.elim
  len := E.len
  lenK := E.lenK
theorem Stp.wid {M : AS} {P' H' : Hp} (s : Stp Non P H Non P' H') : Stp M P H M P' H' := ⟨fun a o h _ t => s.keep a o h (fun z => z) t, s.grow, fun a o h => (s.newP a o h).imp id fun q => q.elim .inl fun z => z.elim, fun _ m => .inl m, s.dom⟩
/-- a value under way is made shared -/
theorem rel_stp {G : AS} {H0 : Hp} {M : AS} (f : Fr G H0 M P H) (hs : Lie P H) (hG : ∀ a, G a → ∃ u, H a = some u ∧ Mu u) : Sub P (add P H G) ∧ Lie (add P H G) H ∧ (∀ a o, add P H G a = some o → P a = some o ∨ H0 a = none) := by
  refine ⟨add_sub f.notP, add_le hs (mu_ntb hG), fun a o e => ?_⟩
  by_cases g : G a
  · exact .inr (f.new a g)
  · rw [add_out g] at e; exact .inl e
theorem EnvR.rel {G : AS} {H0 : Hp} (E : EnvR K mg kd Fs P H σ δ) (f : Fr G H0 (All Fs) P H) (hG : ∀ a, G a → ∃ u, H a = some u ∧ Mu u) : EnvR K mg kd Fs (add P H G) H σ δ where
  sub := add_le E.sub (mu_ntb hG)
  slot i d e := let ⟨v, h, o⟩ := E.slot i d e; ⟨v, h, o.stay (add_sub f.notP) fun _ _ _ q _ => q⟩
  only := E.only
  sep := E.sep
  out i a h := by
    obtain ⟨hp, o, ho⟩ := E.out i a h
    refine ⟨?_, o, ho⟩
    rw [add_out fun g => f.notM a g ⟨i, h⟩]
    exact hp
  len := E.len
  lenK := E.lenK
theorem Stp.rel {G : AS} {M M' : AS} {P0 H0 : Hp} (s : Stp M P0 H0 M' P H) (f : Fr G H0 M' P H) : Stp M P0 H0 M' (add P H G) H :=
  ⟨s.keep, s.grow.trans (add_sub f.notP), fun a o e => (by
    by_cases g : G a
    · exact .inr (.inl (f.new a g))
    · rw [add_out g] at e; exact s.newP a o e), s.newM, s.dom⟩
end
end VL

set_option Elab.async false
set_option linter.all false
set_option maxRecDepth 100000
/-! Layer V: judgements of expressions, tests, arguments; operators. -/
namespace VL
open PySem PySem.Spec PyProof.Rows L2

/-- how an exception lies: its class, its own dict, as data -/
def ExR (K : PySem.W.Frag) (mg : Str → Option Value) (P : Hp) (cls : Value) (d : Option Addr) (e : D) : Prop :=
  ∃ (c : Str) (gs : List (Str × D)) (C : Addr), e = .ins c gs ∧ mg c = some (.ref C) ∧ cls = .ref C ∧
    ((gs = [] ∧ d = none) ∨ ∃ (dx : Addr) (fs : List (Str × V)), d = some dx ∧ P dx = some (.xd fs) ∧ fs.map (·.1) = gs.map (·.1) ∧ RepL K mg P (fs.map (·.2)) (gs.map (·.2)))

section
variable (K : PySem.W.Frag) (mg : Str → Option Value) (kd : Kds) (W : L2.WX)
/-- what must follow an expression's end -/
def PostE (k : Kd) (σ : L2.St) (Fs : Nat → AS) (P H : Hp) (Q : VK) : Res D → Prop
  | .ok d δ' => ∀ (v : V) (Fs' : Nat → AS) (P' H' : Hp) (G : AS), EnvR K mg kd Fs' P' H' σ δ' → Stp (All Fs) P H (All Fs') P' H' → Fr G H (All Fs') P' H' → Own K mg k G P' H' v d → Q v H'
  | .exn e δ' => ∀ (cls : Value) (dx : Option Addr) (Fs' : Nat → AS) (P' H' : Hp), EnvR K mg kd Fs' P' H' σ δ' → Stp (All Fs) P H (All Fs') P' H' → ExR K mg P' cls dx e → W cls dx σ H'
  | .no => False
def PostA (σ : L2.St) (Fs : Nat → AS) (P H : Hp) (Q : List V → Hp → Prop) : Res (List D) → Prop
  | .ok ds δ' => ∀ (vs : List V) (Fs' : Nat → AS) (P' H' : Hp), EnvR K mg kd Fs' P' H' σ δ' → Stp (All Fs) P H (All Fs') P' H' → RepL K mg P' vs ds → Q vs H'
  | .exn e δ' => ∀ (cls : Value) (dx : Option Addr) (Fs' : Nat → AS) (P' H' : Hp), EnvR K mg kd Fs' P' H' σ δ' → Stp (All Fs) P H (All Fs') P' H' → ExR K mg P' cls dx e → W cls dx σ H'
  | .no => False
def PostT (σ : L2.St) (Fs : Nat → AS) (P H : Hp) (Q : Bool → Hp → Prop) : Res Bool → Prop
  | .ok b δ' => ∀ (Fs' : Nat → AS) (P' H' : Hp), EnvR K mg kd Fs' P' H' σ δ' → Stp (All Fs) P H (All Fs') P' H' → Q b H'
  | .exn e δ' => ∀ (cls : Value) (dx : Option Addr) (Fs' : Nat → AS) (P' H' : Hp), EnvR K mg kd Fs' P' H' σ δ' → Stp (All Fs) P H (All Fs') P' H' → ExR K mg P' cls dx e → W cls dx σ H'
  | .no => False
def rdE (k : Kd) (f : DE) : TE := fun σ H Q => ∃ (Fs : Nat → AS) (P : Hp) (δ : Env), EnvR K mg kd Fs P H σ δ ∧ PostE K mg kd W k σ Fs P H Q (f δ)
def rdA (f : DA) : TA := fun σ H Q => ∃ (Fs : Nat → AS) (P : Hp) (δ : Env), EnvR K mg kd Fs P H σ δ ∧ PostA K mg kd W σ Fs P H Q (f δ)
def rdT (f : DT) : TT := fun σ H Q => ∃ (Fs : Nat → AS) (P : Hp) (δ : Env), EnvR K mg kd Fs P H σ δ ∧ PostT K mg kd W σ Fs P H Q (f δ)
end

section
variable {K : PySem.W.Frag} {mg : Str → Option Value} {kd : Kds} {W : L2.WX} {σ : L2.St} {Fs Fs1 : Nat → AS} {P H P1 H1 : Hp}
/-- what is wanted from a later point on is wanted from here -/
theorem PostE.later {k : Kd} {Q : VK} {r : Res D} (s : Stp (All Fs) P H (All Fs1) P1 H1) (h : PostE K mg kd W k σ Fs P H Q r) : PostE K mg kd W k σ Fs1 P1 H1 Q r := by
  cases r with
  | ok d δ' => exact fun v Fs' P' H' G E s' f o => h v Fs' P' H' G E (s.trans s') (f.back s.dom) o
  | exn e δ' => exact fun cls dx Fs' P' H' E s' x => h cls dx Fs' P' H' E (s.trans s') x
  | no => exact h
theorem PostA.later {Q : List V → Hp → Prop} {r : Res (List D)} (s : Stp (All Fs) P H (All Fs1) P1 H1) (h : PostA K mg kd W σ Fs P H Q r) : PostA K mg kd W σ Fs1 P1 H1 Q r := by
  cases r with
  | ok d δ' => exact fun v Fs' P' H' E s' o => h v Fs' P' H' E (s.trans s') o
  | exn e δ' => exact fun cls dx Fs' P' H' E s' x => h cls dx Fs' P' H' E (s.trans s') x
  | no => exact h
theorem PostT.later {Q : Bool → Hp → Prop} {r : Res Bool} (s : Stp (All Fs) P H (All Fs1) P1 H1) (h : PostT K mg kd W σ Fs P H Q r) : PostT K mg kd W σ Fs1 P1 H1 Q r := by
  cases r with
  | ok d δ' => exact fun Fs' P' H' E s' => h Fs' P' H' E (s.trans s')
  | exn e δ' => exact fun cls dx Fs' P' H' E s' x => h cls dx Fs' P' H' E (s.trans s') x
  | no => exact h
end

/-- the judgements -/
abbrev VE (X : Cx) (kd : Kds) (W : L2.WX) (k : Kd) (e : Expr) (f : DE) : Prop := PE X e (rdE X.K X.mg kd W k f)
abbrev VA (X : Cx) (kd : Kds) (W : L2.WX) (es : List Expr) (f : DA) : Prop := PA X es (rdA X.K X.mg kd W f)
abbrev VT (X : Cx) (kd : Kds) (W : L2.WX) (e : Expr) (f : DT) : Prop := PT X e (rdT X.K X.mg kd W f)
abbrev VW (X : Cx) (kd : Kds) (W : L2.WX) (e : Expr) (f : DT) : Prop := PW X e (rdT X.K X.mg kd W f)

theorem PE.imp {X : Cx} {e : Expr} {t t' : TE} (h : PE X e t) (i : ∀ σ H Q, t' σ H Q → t σ H Q) : PE X e t' := ⟨fun pins s σ H Q I q => h.run pins s σ H Q I (i σ H Q q)⟩
theorem PT.imp {X : Cx} {e : Expr} {t t' : TT} (h : PT X e t) (i : ∀ σ H Q, t' σ H Q → t σ H Q) : PT X e t' := ⟨fun pins s σ H Q I q => h.run pins s σ H Q I (i σ H Q q)⟩
theorem PW.imp {X : Cx} {e : Expr} {t t' : TT} (h : PW X e t) (i : ∀ σ H Q, t' σ H Q → t σ H Q) : PW X e t' := ⟨fun wh pins s σ H Q I q => h.run wh pins s σ H Q I (i σ H Q q)⟩
theorem PA.imp {X : Cx} {e : List Expr} {t t' : TA} (h : PA X e t) (i : ∀ σ H Q, t' σ H Q → t σ H Q) : PA X e t' := ⟨fun pos pins s σ H Q I q => h.run pos pins s σ H Q I (i σ H Q q)⟩

section
variable {K : PySem.W.Frag} {mg : Str → Option Value} {kd : Kds} {W : L2.WX} {σ : L2.St} {Fs : Nat → AS} {P H : Hp} {δ : Env}
/-- from an evaluation on to what follows -/
theorem bindE {k k2 : Kd} {r : Res D} {g : D → Env → Res D} {Q : VK} (h : PostE K mg kd W k2 σ Fs P H Q (r.bind g)) :
    PostE K mg kd W k σ Fs P H (fun x H1 => ∃ (d : D) (δ1 : Env) (Fs1 : Nat → AS) (P1 : Hp) (G : AS), EnvR K mg kd Fs1 P1 H1 σ δ1 ∧ Stp (All Fs) P H (All Fs1) P1 H1 ∧ Fr G H (All Fs1) P1 H1 ∧ Own K mg k G P1 H1 x d ∧ PostE K mg kd W k2 σ Fs1 P1 H1 Q (g d δ1)) r := by
  cases r with
  | ok d δ1 => exact fun v Fs1 P1 H1 G E s f o => ⟨d, δ1, Fs1, P1, G, E, s, f, o, PostE.later s h⟩
  | exn e δ1 => exact h
  | no => exact h
theorem bindEA {k : Kd} {r : Res D} {g : D → Env → Res (List D)} {Q : List V → Hp → Prop} (h : PostA K mg kd W σ Fs P H Q (r.bind g)) :
    PostE K mg kd W k σ Fs P H (fun x H1 => ∃ (d : D) (δ1 : Env) (Fs1 : Nat → AS) (P1 : Hp) (G : AS), EnvR K mg kd Fs1 P1 H1 σ δ1 ∧ Stp (All Fs) P H (All Fs1) P1 H1 ∧ Fr G H (All Fs1) P1 H1 ∧ Own K mg k G P1 H1 x d ∧ PostA K mg kd W σ Fs1 P1 H1 Q (g d δ1)) r := by
  cases r with
  | ok d δ1 => exact fun v Fs1 P1 H1 G E s f o => ⟨d, δ1, Fs1, P1, G, E, s, f, o, PostA.later s h⟩
  | exn e δ1 => exact h
  | no => exact h
theorem bindET {k : Kd} {r : Res D} {g : D → Env → Res Bool} {Q : Bool → Hp → Prop} (h : PostT K mg kd W σ Fs P H Q (r.bind g)) :
    PostE K mg kd W k σ Fs P H (fun x H1 => ∃ (d : D) (δ1 : Env) (Fs1 : Nat → AS) (P1 : Hp) (G : AS), EnvR K mg kd Fs1 P1 H1 σ δ1 ∧ Stp (All Fs) P H (All Fs1) P1 H1 ∧ Fr G H (All Fs1) P1 H1 ∧ Own K mg k G P1 H1 x d ∧ PostT K mg kd W σ Fs1 P1 H1 Q (g d δ1)) r := by
  cases r with
  | ok d δ1 => exact fun v Fs1 P1 H1 G E s f o => ⟨d, δ1, Fs1, P1, G, E, s, f, o, PostT.later s h⟩
  | exn e δ1 => exact h
  | no => exact h
theorem bindA {k2 : Kd} {r : Res (List D)} {g : List D → Env → Res D} {Q : VK} (h : PostE K mg kd W k2 σ Fs P H Q (r.bind g)) :
    PostA K mg kd W σ Fs P H (fun vs H1 => ∃ (ds : List D) (δ1 : Env) (Fs1 : Nat → AS) (P1 : Hp), EnvR K mg kd Fs1 P1 H1 σ δ1 ∧ Stp (All Fs) P H (All Fs1) P1 H1 ∧ RepL K mg P1 vs ds ∧ PostE K mg kd W k2 σ Fs1 P1 H1 Q (g ds δ1)) r := by
  cases r with
  | ok d δ1 => exact fun v Fs1 P1 H1 E s o => ⟨d, δ1, Fs1, P1, E, s, o, PostE.later s h⟩
  | exn e δ1 => exact h
  | no => exact h
theorem bindAA {r : Res (List D)} {g : List D → Env → Res (List D)} {Q : List V → Hp → Prop} (h : PostA K mg kd W σ Fs P H Q (r.bind g)) :
    PostA K mg kd W σ Fs P H (fun vs H1 => ∃ (ds : List D) (δ1 : Env) (Fs1 : Nat → AS) (P1 : Hp), EnvR K mg kd Fs1 P1 H1 σ δ1 ∧ Stp (All Fs) P H (All Fs1) P1 H1 ∧ RepL K mg P1 vs ds ∧ PostA K mg kd W σ Fs1 P1 H1 Q (g ds δ1)) r := by
  cases r with
  | ok d δ1 => exact fun v Fs1 P1 H1 E s o => ⟨d, δ1, Fs1, P1, E, s, o, PostA.later s h⟩
  | exn e δ1 => exact h
  | no => exact h
theorem bindT {k2 : Kd} {r : Res Bool} {g : Bool → Env → Res D} {Q : VK} (h : PostE K mg kd W k2 σ Fs P H Q (r.bind g)) :
    PostT K mg kd W σ Fs P H (fun b H1 => ∃ (δ1 : Env) (Fs1 : Nat → AS) (P1 : Hp), EnvR K mg kd Fs1 P1 H1 σ δ1 ∧ Stp (All Fs) P H (All Fs1) P1 H1 ∧ PostE K mg kd W k2 σ Fs1 P1 H1 Q (g b δ1)) r := by
  cases r with
  | ok d δ1 => exact fun Fs1 P1 H1 E s => ⟨δ1, Fs1, P1, E, s, PostE.later s h⟩
  | exn e δ1 => exact h
  | no => exact h
theorem bindTT {r : Res Bool} {g : Bool → Env → Res Bool} {Q : Bool → Hp → Prop} (h : PostT K mg kd W σ Fs P H Q (r.bind g)) :
    PostT K mg kd W σ Fs P H (fun b H1 => ∃ (δ1 : Env) (Fs1 : Nat → AS) (P1 : Hp), EnvR K mg kd Fs1 P1 H1 σ δ1 ∧ Stp (All Fs) P H (All Fs1) P1 H1 ∧ PostT K mg kd W σ Fs1 P1 H1 Q (g b δ1)) r := by
  cases r with
  | ok d δ1 => exact fun Fs1 P1 H1 E s => ⟨δ1, Fs1, P1, E, s, PostT.later s h⟩
  | exn e δ1 => exact h
  | no => exact h
theorem Own.sh_rep {G : AS} {v : V} {d : D} (o : Own K mg .sh G P H v d) : Rep K mg P v d := o.2
theorem Own.sh_of {v : V} {d : D} (r : Rep K mg P v d) : Own K mg .sh Non P H v d := ⟨fun _ z => z, r⟩
/-- nothing has changed, a shared value comes -/
theorem PostE.pure {d : D} {v : V} {Q : VK} (E : EnvR K mg kd Fs P H σ δ) (r : Rep K mg P v d) (h : PostE K mg kd W .sh σ Fs P H Q (.ok d δ)) : Q v H :=
  h v Fs P H Non E Stp.refl Fr.non (Own.sh_of r)
/-- a step of the values' own: new objects, some of them shared -/
theorem PostE.step {k : Kd} {d : D} {v : V} {Q : VK} {P' H' : Hp} {G : AS} (E : EnvR K mg kd Fs P H σ δ) (s : Stp Non P H Non P' H') (hs : Lie P' H') (f : Fr G H Non P' H') (o : Own K mg k G P' H' v d)
    (h : PostE K mg kd W k σ Fs P H Q (.ok d δ)) : Q v H' :=
  h v Fs P' H' G (E.grow s hs) s.wid ⟨f.new, fun a g m => (by obtain ⟨u, e⟩ := E.all_in a m; rw [f.new a g] at e; cases e), f.notP, f.there⟩ o
end

/-! ### shared from owned -/
def dRel (f : DE) : DE := f
theorem ve_rel {X : Cx} {kd : Kds} {W : L2.WX} {k : Kd} {e : Expr} {f : DE} (h : VE X kd W k e f) : VE X kd W .sh e f := PE.imp h fun σ H Q ⟨Fs, P, δ, E, q⟩ => by
  refine ⟨Fs, P, δ, E, ?_⟩
  revert q
  cases f δ with
  | ok d δ1 => exact fun q v Fs1 P1 H1 G E1 s fr o => q v Fs1 (add P1 H1 G) H1 Non (E1.rel fr o.mu) (s.rel fr) Fr.non (Own.sh_of (o.rel fr.notP))
  | exn e δ1 => exact fun q => q
  | no => exact fun q => q

/-! ### names, constants -/
def dVar (i : Nat) : DE := fun δ => match δ[i]? with
  | some (some d) => .ok d δ
  | _ => .no
def dC (d : D) : DE := fun δ => .ok d δ
section
variable {X : Cx} {kd : Kds} {W : L2.WX} {pos : Pos}
theorem ve_var (i : Nat) {x : Str} (hk : kd.at i = .sh := by rfl) (hN : X.N[i]? = some x := by rfl) (hv : Vis X.env.scope x := by first | exact Or.inl rfl | exact Or.inr (Or.inl rfl) | exact Or.inr (Or.inr rfl))
    (hd : (x == ("__debug__" : Str)) = false := by decide) (hcd : (x == ("__classdict__" : Str)) = false := by decide) : VE X kd W .sh (.Name x pos) (dVar i) :=
  PE.imp (pe_var hN hv hd hcd) fun σ H Q ⟨Fs, P, δ, E, q⟩ => by
    unfold dVar at q
    cases e : δ[i]? with
    | none => rw [e] at q; exact q.elim
    | some o =>
      cases o with
      | none => rw [e] at q; exact q.elim
      | some d =>
        rw [e] at q
        obtain ⟨v, h1, h2⟩ := E.slot i d e
        rw [hk] at h2
        exact ⟨v, h1, PostE.pure E h2.sh_rep q⟩
theorem ve_int {i : Int} {j} : VE X kd W .sh (.Constant (.int i) j pos) (dC (.int i)) := PE.imp pe_int fun σ H Q ⟨Fs, P, δ, E, q⟩ => PostE.pure E (.int i) q
theorem ve_bl {b : Bool} {j} : VE X kd W .sh (.Constant (.bool b) j pos) (dC (.bl b)) := PE.imp pe_bl fun σ H Q ⟨Fs, P, δ, E, q⟩ => PostE.pure E (.bl b) q
theorem ve_non {j} : VE X kd W .sh (.Constant .none j pos) (dC .non) := PE.imp pe_non fun σ H Q ⟨Fs, P, δ, E, q⟩ => PostE.pure E .non q
theorem ve_str {x : Str} {j} : VE X kd W .sh (.Constant (.str x) j pos) (dC (.str x)) := PE.imp pe_str fun σ H Q ⟨Fs, P, δ, E, q⟩ => PostE.pure E (.str x) q
/-- a global name as a value -/
theorem ve_glb {x : Str} {u : Value} {v : V} (hm : X.mg x = some u) (r : RelV v u) (hg : Gl X x := by rfl) (hd : (x == ("__debug__" : Str)) = false := by decide) : VE X kd W .sh (.Name x pos) (dC (.glb x)) :=
  PE.imp (pe_glob hg hm r hd) fun σ H Q ⟨Fs, P, δ, E, q⟩ => PostE.pure E (.glb hm r) q

/-! ### operators by values -/
def OpD (K : PySem.W.Frag) (mg : Str → Option Value) (r : R2) (k : Kd) (op : D → D → Option D) : Prop :=
  ∀ (P H : Hp) (x y : V) (d e z : D) (Q : VK), Lie P H → Rep K mg P x d → Rep K mg P y e → op d e = some z →
    (∀ (v : V) (P' H' : Hp) (G : AS), Stp Non P H Non P' H' → Lie P' H' → Fr G H Non P' H' → Own K mg k G P' H' v z → Q v H') → r x y H Q
def UnD (K : PySem.W.Frag) (mg : Str → Option Value) (r : V → Hp → VK → Prop) (k : Kd) (op : D → Option D) : Prop :=
  ∀ (P H : Hp) (x : V) (d z : D) (Q : VK), Lie P H → Rep K mg P x d → op d = some z →
    (∀ (v : V) (P' H' : Hp) (G : AS), Stp Non P H Non P' H' → Lie P' H' → Fr G H Non P' H' → Own K mg k G P' H' v z → Q v H') → r x H Q
def ArD (K : PySem.W.Frag) (mg : Str → Option Value) (r : List V → Hp → VK → Prop) (k : Kd) (op : List D → Option D) : Prop :=
  ∀ (P H : Hp) (vs : List V) (ds : List D) (z : D) (Q : VK), Lie P H → RepL K mg P vs ds → op ds = some z →
    (∀ (v : V) (P' H' : Hp) (G : AS), Stp Non P H Non P' H' → Lie P' H' → Fr G H Non P' H' → Own K mg k G P' H' v z → Q v H') → r vs H Q
def lift (o : Option D) (δ : Env) : Res D := match o with
  | some z => .ok z δ
  | none => .no
def dBin (op : D → D → Option D) (f g : DE) : DE := fun δ => (f δ).bind fun d δ1 => (g δ1).bind fun e δ2 => lift (op d e) δ2
def dUn (op : D → Option D) (f : DE) : DE := fun δ => (f δ).bind fun d δ1 => lift (op d) δ1
def dAr (op : List D → Option D) (f : DA) : DE := fun δ => (f δ).bind fun ds δ1 => lift (op ds) δ1
theorem bin_rd {K : PySem.W.Frag} {mg : Str → Option Value} {r : R2} {k : Kd} {op : D → D → Option D} {f g : DE} (o : OpD K mg r k op) {σ : L2.St} {H : Hp} {Q : VK} (h : rdE K mg kd W k (dBin op f g) σ H Q) :
    tOp r (rdE K mg kd W .sh f) (rdE K mg kd W .sh g) σ H Q := by
  obtain ⟨Fs, P, δ, E, q⟩ := h
  refine ⟨Fs, P, δ, E, ?_⟩
  have q1 := bindE (k := .sh) q
  revert q1
  cases f δ with
  | no => exact fun q => q
  | exn e δ1 => exact fun q => q
  | ok d δ1 =>
    intro q1 v1 Fs1 P1 H1 G1 E1 s1 f1 o1
    obtain ⟨d', δ1', Fs1', P1', G', E1', s1', f1', o1', q2⟩ := q1 v1 Fs1 P1 H1 G1 E1 s1 f1 o1
    refine ⟨Fs1', P1', δ1', E1', ?_⟩
    have q3 := bindE (k := .sh) q2
    revert q3
    cases g δ1' with
    | no => exact fun q => q
    | exn e δ1 => exact fun q => q
    | ok e δ2 =>
      intro q3 v2 Fs2 P2 H2 G2 E2 s2 f2 o2
      obtain ⟨e', δ2', Fs2', P2', G2', E2', s2', f2', o2', q4⟩ := q3 v2 Fs2 P2 H2 G2 E2 s2 f2 o2
      unfold lift at q4
      cases ez : op d' e' with
      | none => rw [ez] at q4; exact q4.elim
      | some z =>
        rw [ez] at q4
        exact o P2' H2 v1 v2 d' e' z Q E2'.sub (o1'.sh_rep.mono s2'.grow) o2'.sh_rep ez fun v P' H' G s hs fr ow => PostE.step E2' s hs fr ow q4
theorem ve_op {a b : Expr} {f g : DE} {o : Operator} {r : R2} {k : Kd} {op : D → D → Option D} (ho : OpR X (binaryOp o) r) (hd : OpD X.K X.mg r k op) (ha : VE X kd W .sh a f) (hb : VE X kd W .sh b g) :
    VE X kd W k (.BinOp a o b pos) (dBin op f g) := PE.imp (pe_op ho ha hb) fun _ _ _ h => bin_rd hd h
theorem ve_cmp {a b : Expr} {f g : DE} {o : CmpOp} {r : R2} {op : D → D → Option D} (ho : OpR X (compareOp o) r) (hd : OpD X.K X.mg r .sh op) (ha : VE X kd W .sh a f) (hb : VE X kd W .sh b g) (hm : behindInMarks o b = false := by rfl) :
    VE X kd W .sh (.Compare a [o] [b] pos) (dBin op f g) := PE.imp (pe_cmpR ho ha hb hm) fun _ _ _ h => bin_rd hd h
theorem un_rd {K : PySem.W.Frag} {mg : Str → Option Value} {r : V → Hp → VK → Prop} {k : Kd} {op : D → Option D} {f : DE} (o : UnD K mg r k op) {σ : L2.St} {H : Hp} {Q : VK} (h : rdE K mg kd W k (dUn op f) σ H Q) :
    tUn r (rdE K mg kd W .sh f) σ H Q := by
  obtain ⟨Fs, P, δ, E, q⟩ := h
  refine ⟨Fs, P, δ, E, ?_⟩
  have q1 := bindE (k := .sh) q
  revert q1
  cases f δ with
  | no => exact fun q => q
  | exn e δ1 => exact fun q => q
  | ok d δ1 =>
    intro q1 v1 Fs1 P1 H1 G1 E1 s1 f1 o1
    obtain ⟨d', δ1', Fs1', P1', G', E1', s1', f1', o1', q2⟩ := q1 v1 Fs1 P1 H1 G1 E1 s1 f1 o1
    unfold lift at q2
    cases ez : op d' with
    | none => rw [ez] at q2; exact q2.elim
    | some z =>
      rw [ez] at q2
      exact o P1' H1 v1 d' z Q E1'.sub o1'.sh_rep ez fun v P' H' G s hs fr ow => PostE.step E1' s hs fr ow q2
theorem ve_un {a : Expr} {f : DE} {o : UnaryOp} {r : V → Hp → VK → Prop} {k : Kd} {op : D → Option D} (ho : UnR X (unaryOp o) r) (hd : UnD X.K X.mg r k op) (ha : VE X kd W .sh a f) :
    VE X kd W k (.UnaryOp o a pos) (dUn op f) := PE.imp (pe_un ho ha) fun _ _ _ h => un_rd hd h

/-! ### argument lists -/
def dNil : DA := fun δ => .ok [] δ
def dCons (f : DE) (g : DA) : DA := fun δ => (f δ).bind fun d δ1 => (g δ1).bind fun ds δ2 => .ok (d :: ds) δ2
theorem va_nil : VA X kd W [] dNil := PA.imp pa_nil fun σ H Q ⟨Fs, P, δ, E, q⟩ => q [] Fs P H E Stp.refl .nil
theorem va_cons {e : Expr} {es : List Expr} {f : DE} {g : DA} (ha : VE X kd W .sh e f) (hr : VA X kd W es g) (hs : starEach (e :: es) X.env = (false, eval e X.env) :: starEach es X.env := by rfl) : VA X kd W (e :: es) (dCons f g) :=
  PA.imp (pa_cons ha hr hs) fun σ H Q ⟨Fs, P, δ, E, q⟩ => by
    refine ⟨Fs, P, δ, E, ?_⟩
    have q1 := bindEA (k := .sh) q
    revert q1
    cases f δ with
    | no => exact fun q => q
    | exn e δ1 => exact fun q => q
    | ok d δ1 =>
      intro q1 v1 Fs1 P1 H1 G1 E1 s1 f1 o1
      obtain ⟨d', δ1', Fs1', P1', G', E1', s1', f1', o1', q2⟩ := q1 v1 Fs1 P1 H1 G1 E1 s1 f1 o1
      refine ⟨Fs1', P1', δ1', E1', ?_⟩
      have q3 := bindAA q2
      revert q3
      cases g δ1' with
      | no => exact fun q => q
      | exn e δ1 => exact fun q => q
      | ok ds δ2 =>
        intro q3 vs Fs2 P2 H2 E2 s2 r2
        obtain ⟨ds', δ2', Fs2', P2', E2', s2', r2', q4⟩ := q3 vs Fs2 P2 H2 E2 s2 r2
        exact q4 _ _ _ _ E2' Stp.refl (.cons (o1'.sh_rep.mono s2'.grow) r2')
theorem ar_rd {K : PySem.W.Frag} {mg : Str → Option Value} {r : List V → Hp → VK → Prop} {k : Kd} {op : List D → Option D} {f : DA} (o : ArD K mg r k op) {σ : L2.St} {H : Hp} {Q : VK} (h : rdE K mg kd W k (dAr op f) σ H Q) :
    tCB r (rdA K mg kd W f) σ H Q := by
  obtain ⟨Fs, P, δ, E, q⟩ := h
  refine ⟨Fs, P, δ, E, ?_⟩
  have q1 := bindA q
  revert q1
  cases f δ with
  | no => exact fun q => q
  | exn e δ1 => exact fun q => q
  | ok d δ1 =>
    intro q1 v1 Fs1 P1 H1 E1 s1 o1
    obtain ⟨d', δ1', Fs1', P1', E1', s1', o1', q2⟩ := q1 v1 Fs1 P1 H1 E1 s1 o1
    unfold lift at q2
    cases ez : op d' with
    | none => rw [ez] at q2; exact q2.elim
    | some z =>
      rw [ez] at q2
      exact o P1' H1 v1 d' z Q E1'.sub o1' ez fun v P' H' G s hs fr ow => PostE.step E1' s hs fr ow q2
/-- a built-in function, a built-in class, called -/
theorem ve_callB {x : Str} {id : String} {p : Pos} {e : Expr} {es : List Expr} {f : DA} {r : List V → Hp → VK → Prop} {k : Kd} {op : List D → Option D} (hc : CallR X (.builtin id) r) (hd : ArD X.K X.mg r k op) (hm : X.mg x = none) (hv : bootBuiltins x = some (.builtin id)) (ha : VA X kd W (e :: es) f)
    (hg : Gl X x := by rfl) (hn : x ≠ "__name__" := by decide) (hdb : (x == ("__debug__" : Str)) = false := by decide)
    (he : starEach (e :: es) X.env = (false, eval e X.env) :: starEach es X.env := by rfl) (hpl : (backTo pos (starEach es X.env)).any (·.1) = false := by rfl) : VE X kd W k (.Call (.Name x p) (e :: es) [] pos) (dAr op f) :=
  PE.imp (pe_callB hc hg hm hv ha hn hdb he hpl) fun _ _ _ h => ar_rd hd h
theorem ve_callTy {x : Str} {id : String} {p : Pos} {e : Expr} {es : List Expr} {f : DA} {r : List V → Hp → VK → Prop} {k : Kd} {op : List D → Option D} (hc : CallR X (.type id) r) (hd : ArD X.K X.mg r k op) (hm : X.mg x = none) (hv : bootBuiltins x = some (.type id)) (ha : VA X kd W (e :: es) f)
    (hg : Gl X x := by rfl) (hn : x ≠ "__name__" := by decide) (hdb : (x == ("__debug__" : Str)) = false := by decide)
    (he : starEach (e :: es) X.env = (false, eval e X.env) :: starEach es X.env := by rfl) (hpl : (backTo pos (starEach es X.env)).any (·.1) = false := by rfl) : VE X kd W k (.Call (.Name x p) (e :: es) [] pos) (dAr op f) :=
  PE.imp (pe_callTy hc hg hm hv ha hn hdb he hpl) fun _ _ _ h => ar_rd hd h
end
end VL

set_option Elab.async false
set_option linter.all false
set_option maxRecDepth 100000
/-! Layer V: statements. -/
namespace VL
open PySem PySem.Spec PyProof.Rows L2

/-- what a body's judgement carries: the wish of exceptions, the result's kind, the kinds allowed at a return, at an exception, the loop's kinds -/
structure Fx where
  W : L2.WX
  rk : Kd
  KR : Kds → Prop
  XR : Kds → Prop
  kl : Kds

/-- a result's cells: new ones, or ones that the slots held -/
structure FrM (G M : AS) (H : Hp) (M' : AS) (P' H' : Hp) : Prop where
  new : ∀ a, G a → M a ∨ H a = none
  notM : ∀ a, G a → ¬ M' a
  notP : ∀ a, G a → P' a = none
  there : ∀ a, G a → ∃ o, H' a = some o
theorem Fr.m {G M : AS} {H : Hp} {M' : AS} {P' H' : Hp} (f : Fr G H M' P' H') : FrM G M H M' P' H' := ⟨fun a g => .inr (f.new a g), f.notM, f.notP, f.there⟩
theorem FrM.later {G M M1 M' : AS} {P H P1 H1 P' H' : Hp} (f : FrM G M1 H1 M' P' H') (s : Stp M P H M1 P1 H1) : FrM G M H M' P' H' :=
  ⟨fun a g => (f.new a g).elim (s.newM a) fun e => .inr (by
    cases q : H a with
    | none => rfl
    | some o => obtain ⟨o', z⟩ := s.dom a o q; rw [e] at z; cases z), f.notM, f.notP, f.there⟩
section
variable (K : PySem.W.Frag) (mg : Str → Option Value) (fx : Fx) (kd' : Kds)
def PostS (Fs : Nat → AS) (P H : Hp) (D : L2.Ends) : SRes → Prop
  | .next δ' => ∀ (σ' : L2.St) (Fs' : Nat → AS) (P' H' : Hp), EnvR K mg kd' Fs' P' H' σ' δ' → Stp (All Fs) P H (All Fs') P' H' → D.nx σ' H'
  | .brk δ' => ∀ (σ' : L2.St) (Fs' : Nat → AS) (P' H' : Hp), EnvR K mg fx.kl Fs' P' H' σ' δ' → Stp (All Fs) P H (All Fs') P' H' → D.bk σ' H'
  | .cont δ' => ∀ (σ' : L2.St) (Fs' : Nat → AS) (P' H' : Hp), EnvR K mg fx.kl Fs' P' H' σ' δ' → Stp (All Fs) P H (All Fs') P' H' → D.ct σ' H'
  | .ret d δ' => ∀ (kdr : Kds), fx.KR kdr → ∀ (v : V) (σ' : L2.St) (Fs' : Nat → AS) (P' H' : Hp) (G : AS), EnvR K mg kdr Fs' P' H' σ' δ' → Stp (All Fs) P H (All Fs') P' H' → FrM G (All Fs) H (All Fs') P' H' → Own K mg fx.rk G P' H' v d → D.rt v H'
  | .exn e δ' => ∀ (kdr : Kds), fx.XR kdr → ∀ (cls : Value) (dx : Option Addr) (σ' : L2.St) (Fs' : Nat → AS) (P' H' : Hp), EnvR K mg kdr Fs' P' H' σ' δ' → Stp (All Fs) P H (All Fs') P' H' → ExR K mg P' cls dx e → fx.W cls dx σ' H'
  | .no => False
def rdS (kd : Kds) (g : DS) : TS := fun D σ H => ∃ (Fs : Nat → AS) (P : Hp) (δ : Env), EnvR K mg kd Fs P H σ δ ∧ PostS K mg fx kd' Fs P H D (g δ)
end
abbrev VS (X : Cx) (fx : Fx) (kd kd' : Kds) (st : Stmt) (g : DS) : Prop := PS X st (rdS X.K X.mg fx kd' kd g)
abbrev VSs (X : Cx) (fx : Fx) (kd kd' : Kds) (st : List Stmt) (g : DS) : Prop := PSs X st (rdS X.K X.mg fx kd' kd g)
theorem PS.imp {X : Cx} {e : Stmt} {t t' : TS} (h : PS X e t) (i : ∀ D σ H, t' D σ H → t D σ H) : PS X e t' := ⟨fun pins s σ H D I q => h.run pins s σ H D I (i D σ H q)⟩
theorem PSs.imp {X : Cx} {e : List Stmt} {t t' : TS} (h : PSs X e t) (i : ∀ D σ H, t' D σ H → t D σ H) : PSs X e t' := ⟨fun pins s σ H D I q => h.run pins s σ H D I (i D σ H q)⟩

section
variable {K : PySem.W.Frag} {mg : Str → Option Value} {fx : Fx} {kd kd1 kd' : Kds} {Fs Fs1 : Nat → AS} {P H P1 H1 : Hp} {σ : L2.St} {δ : Env} {D : L2.Ends}
theorem PostS.later {r : SRes} (s : Stp (All Fs) P H (All Fs1) P1 H1) (h : PostS K mg fx kd' Fs P H D r) : PostS K mg fx kd' Fs1 P1 H1 D r := by
  cases r with
  | next δ' => exact fun σ' Fs' P' H' E s' => h σ' Fs' P' H' E (s.trans s')
  | brk δ' => exact fun σ' Fs' P' H' E s' => h σ' Fs' P' H' E (s.trans s')
  | cont δ' => exact fun σ' Fs' P' H' E s' => h σ' Fs' P' H' E (s.trans s')
  | ret d δ' => exact fun kdr hk v σ' Fs' P' H' G E s' f o => h kdr hk v σ' Fs' P' H' G E (s.trans s') (f.later s) o
  | exn e δ' => exact fun kdr hk cls dx σ' Fs' P' H' E s' x => h kdr hk cls dx σ' Fs' P' H' E (s.trans s') x
  | no => exact h
def Res.stm {α : Type} (r : Res α) (f : α → Env → SRes) : SRes := match r with
  | .ok a δ => f a δ
  | .exn e δ => .exn e δ
  | .no => .no
theorem stmE {k : Kd} {r : Res VL.D} {g : VL.D → Env → SRes} (hx : fx.XR kd) (h : PostS K mg fx kd' Fs P H D (r.stm g)) :
    PostE K mg kd fx.W k σ Fs P H (fun x H1 => ∃ (d : VL.D) (δ1 : Env) (Fs1 : Nat → AS) (P1 : Hp) (G : AS), EnvR K mg kd Fs1 P1 H1 σ δ1 ∧ Stp (All Fs) P H (All Fs1) P1 H1 ∧ Fr G H (All Fs1) P1 H1 ∧ Own K mg k G P1 H1 x d ∧ PostS K mg fx kd' Fs1 P1 H1 D (g d δ1) ∧ PostS K mg fx kd' Fs P H D (g d δ1)) r := by
  cases r with
  | ok d δ1 => exact fun v Fs1 P1 H1 G E s f o => ⟨d, δ1, Fs1, P1, G, E, s, f, o, PostS.later s h, h⟩
  | exn e δ1 => exact fun cls dx Fs' P' H' E s x => h kd hx cls dx σ Fs' P' H' E s x
  | no => exact h
theorem stmT {r : Res Bool} {g : Bool → Env → SRes} (hx : fx.XR kd) (h : PostS K mg fx kd' Fs P H D (r.stm g)) :
    PostT K mg kd fx.W σ Fs P H (fun b H1 => ∃ (δ1 : Env) (Fs1 : Nat → AS) (P1 : Hp), EnvR K mg kd Fs1 P1 H1 σ δ1 ∧ Stp (All Fs) P H (All Fs1) P1 H1 ∧ PostS K mg fx kd' Fs1 P1 H1 D (g b δ1)) r := by
  cases r with
  | ok d δ1 => exact fun Fs1 P1 H1 E s => ⟨δ1, Fs1, P1, E, s, PostS.later s h⟩
  | exn e δ1 => exact fun cls dx Fs' P' H' E s x => h kd hx cls dx σ Fs' P' H' E s x
  | no => exact h

/-! ### slots stored -/
def upF (Fs : Nat → AS) (i : Nat) (G : AS) : Nat → AS := fun j => if j = i then G else Fs j
theorem upF_same {i : Nat} {G : AS} : upF Fs i G i = G := by unfold upF; rw [if_pos rfl]
theorem upF_ne {i j : Nat} {G : AS} (h : j ≠ i) : upF Fs i G j = Fs j := by unfold upF; rw [if_neg h]
theorem Kds.at_set {kd : Kds} {i : Nat} {k : Kd} (h : i < kd.length) : Kds.at (kd.set i k) i = k := by
  unfold Kds.at; rw [List.getD_eq_getElem?_getD, List.getElem?_set_self h]; rfl
theorem Kds.at_set_ne {kd : Kds} {i j : Nat} {k : Kd} (h : j ≠ i) : Kds.at (kd.set i k) j = kd.at j := by
  unfold Kds.at; rw [List.getD_eq_getElem?_getD, List.getElem?_set_ne (Ne.symm h), ← List.getD_eq_getElem?_getD]
theorem EnvR.set {i : Nat} {k : Kd} {G : AS} {H0 : Hp} {v : V} {d : VL.D} (E : EnvR K mg kd Fs P H σ δ) (hi : i < kd.length) (f : Fr G H0 (All Fs) P H) (o : Own K mg k G P H v d) :
    EnvR K mg (kd.set i k) (upF Fs i G) P H (σ.set i (some v)) (δ.set i (some d)) where
  sub := E.sub
  slot j e h := by
    by_cases q : j = i
    · subst q
      have hd : j < δ.length := by rw [E.len, ← E.lenK]; exact hi
      rw [List.getElem?_set_self hd] at h
      cases h
      refine ⟨v, List.getElem?_set_self (by rw [← E.lenK]; exact hi), ?_⟩
      rw [upF_same, Kds.at_set hi]
      exact o
    · rw [List.getElem?_set_ne (Ne.symm q)] at h
      obtain ⟨u, h1, h2⟩ := E.slot j e h
      refine ⟨u, by rw [List.getElem?_set_ne (Ne.symm q)]; exact h1, ?_⟩
      rw [upF_ne q, Kds.at_set_ne q]
      exact h2
  only j a h := by
    by_cases q : j = i
    · subst q
      exact ⟨d, List.getElem?_set_self (by rw [E.len, ← E.lenK]; exact hi)⟩
    · rw [upF_ne q] at h
      obtain ⟨e, h1⟩ := E.only j a h
      exact ⟨e, by rw [List.getElem?_set_ne (Ne.symm q)]; exact h1⟩
  sep j l a h1 h2 := by
    by_cases q : j = i
    · subst q
      by_cases q2 : l = j
      · exact q2.symm
      · rw [upF_same] at h1; rw [upF_ne q2] at h2
        exact (f.notM a h1 ⟨l, h2⟩).elim
    · rw [upF_ne q] at h1
      by_cases q2 : l = i
      · subst q2
        rw [upF_same] at h2
        exact (f.notM a h2 ⟨j, h1⟩).elim
      · rw [upF_ne q2] at h2
        exact E.sep j l a h1 h2
  out j a h := by
    by_cases q : j = i
    · subst q
      rw [upF_same] at h
      exact ⟨f.notP a h, f.there a h⟩
    · rw [upF_ne q] at h
      exact E.out j a h
  len := by rw [List.length_set, List.length_set]; exact E.len
  lenK := by rw [List.length_set, List.length_set]; exact E.lenK
theorem all_upF {i : Nat} {G : AS} {a : Addr} (h : All (upF Fs i G) a) : All Fs a ∨ G a := by
  obtain ⟨j, h⟩ := h
  by_cases q : j = i
  · subst q; rw [upF_same] at h; exact .inr h
  · rw [upF_ne q] at h; exact .inl ⟨j, h⟩
theorem Stp.set {M : AS} {P0 H0 : Hp} {i : Nat} {G : AS} (s : Stp M P0 H0 (All Fs) P H) (f : Fr G H0 (All Fs) P H) : Stp M P0 H0 (All (upF Fs i G)) P H :=
  ⟨s.keep, s.grow, s.newP, fun a h => (all_upF h).elim (s.newM a) fun g => .inr (f.new a g), s.dom⟩
end

/-! ### blocks -/
def dSkip : DS := fun δ => .next δ
def dSeq (g h : DS) : DS := fun δ => match g δ with
  | .next δ' => h δ'
  | r => r
section
variable {X : Cx} {fx : Fx} {kd kd1 kd' : Kds} {st : Stmt} {rest : List Stmt} {g h : DS} {pos : Pos}
theorem vss_nil : VSs X fx kd kd [] dSkip := PSs.imp pss_nil fun D σ H ⟨Fs, P, δ, E, q⟩ => q σ Fs P H E Stp.refl
theorem seq_rd {K : PySem.W.Frag} {mg : Str → Option Value} {D : L2.Ends} {σ : L2.St} {H : Hp} (q : rdS K mg fx kd' kd (dSeq g h) D σ H) : tSeq (rdS K mg fx kd1 kd g) (rdS K mg fx kd' kd1 h) D σ H := by
  obtain ⟨Fs, P, δ, E, q⟩ := q
  refine ⟨Fs, P, δ, E, ?_⟩
  unfold dSeq at q
  cases e : g δ with
  | next δ' =>
    rw [e] at q
    exact fun σ' Fs' P' H' E' s => ⟨Fs', P', δ', E', PostS.later s q⟩
  | ret d δ' => rw [e] at q; exact q
  | brk δ' => rw [e] at q; exact q
  | cont δ' => rw [e] at q; exact q
  | exn x δ' => rw [e] at q; exact q
  | no => rw [e] at q; exact q
theorem vss_cons (h1 : VS X fx kd kd1 st g) (h2 : VSs X fx kd1 kd' rest h) : VSs X fx kd kd' (st :: rest) (dSeq g h) := PSs.imp (pss_cons h1 h2) fun _ _ _ q => seq_rd q
theorem vss_one (h1 : VS X fx kd kd' st g) : VSs X fx kd kd' [st] g := pss_one h1
theorem vs_pass : VS X fx kd kd (.Pass pos) dSkip := PS.imp ps_pass fun D σ H ⟨Fs, P, δ, E, q⟩ => q σ Fs P H E Stp.refl
def dBrk : DS := fun δ => .brk δ
def dCont : DS := fun δ => .cont δ
theorem vs_break (hk : kd = fx.kl := by rfl) : VS X fx kd kd' (.Break pos) dBrk := PS.imp ps_break fun D σ H ⟨Fs, P, δ, E, q⟩ => q σ Fs P H (hk ▸ E) Stp.refl
theorem vs_continue (hk : kd = fx.kl := by rfl) : VS X fx kd kd' (.Continue pos) dCont := PS.imp ps_continue fun D σ H ⟨Fs, P, δ, E, q⟩ => q σ Fs P H (hk ▸ E) Stp.refl
def dNo : DS := fun _ => .no
theorem vs_never : VS X fx kd kd' st dNo := PS.imp ps_never fun D σ H ⟨Fs, P, δ, E, q⟩ => q.elim
theorem vss_never {sts : List Stmt} : VSs X fx kd kd' sts dNo := PSs.imp pss_never fun D σ H ⟨Fs, P, δ, E, q⟩ => q.elim
/-- an expression for its doings -/
def dExpr (f : DE) : DS := fun δ => (f δ).stm fun _ δ1 => .next δ1
theorem vs_expr {e : Expr} {f : DE} {k : Kd} (he : VE X kd fx.W k e f) (hx : fx.XR kd := by first | trivial | rfl) (hs : swapsWith e none pos.line X.env = pure false := by rfl) : VS X fx kd kd (.Expr e pos) (dExpr f) :=
  PS.imp (ps_expr he hs) fun D σ H ⟨Fs, P, δ, E, q⟩ => by
    refine ⟨Fs, P, δ, E, ?_⟩
    have q1 := stmE (σ := σ) (k := k) hx q
    revert q1
    cases f δ with
    | no => exact fun q => q
    | exn e δ1 => exact fun q => q
    | ok d δ1 =>
      intro q1 v1 Fs1 P1 H1 G1 E1 s1 f1 o1
      obtain ⟨d', δ1', Fs1', P1', G1', E1', s1', f1', o1', q2, _⟩ := q1 v1 Fs1 P1 H1 G1 E1 s1 f1 o1
      exact q2 σ _ _ _ E1' Stp.refl
def dRet (f : DE) : DS := fun δ => (f δ).stm fun d δ1 => .ret d δ1
theorem vs_ret {e : Expr} {f : DE} (he : VE X kd fx.W fx.rk e f) (hr : fx.KR kd := by first | trivial | rfl | (intro i hi; revert hi; decide)) (hx : fx.XR kd := by first | trivial | rfl) : VS X fx kd kd' (.Return (some e) pos) (dRet f) :=
  PS.imp (ps_ret he) fun D σ H ⟨Fs, P, δ, E, q⟩ => by
    refine ⟨Fs, P, δ, E, ?_⟩
    have q1 := stmE (σ := σ) (k := fx.rk) hx q
    revert q1
    cases f δ with
    | no => exact fun q => q
    | exn e δ1 => exact fun q => q
    | ok d δ1 =>
      intro q1 v1 Fs1 P1 H1 G1 E1 s1 f1 o1
      obtain ⟨d', δ1', Fs1', P1', G1', E1', s1', f1', o1', _, q2⟩ := q1 v1 Fs1 P1 H1 G1 E1 s1 f1 o1
      exact q2 kd hr _ σ _ _ _ _ E1' s1' f1'.m o1'
def dRetN : DS := fun δ => .ret .non δ
theorem vs_retN (hrk : fx.rk = .sh := by rfl) (hr : fx.KR kd := by first | trivial | rfl | (intro i hi; revert hi; decide)) : VS X fx kd kd' (.Return none pos) dRetN :=
  PS.imp ps_retN fun D σ H ⟨Fs, P, δ, E, q⟩ => q kd hr .non σ Fs P H Non E Stp.refl Fr.non.m (by rw [hrk]; exact Own.sh_of .non)
def dIf (c : DT) (g h : DS) : DS := fun δ => (c δ).stm fun b δ1 => if b = true then g δ1 else h δ1
theorem vs_if {c : Expr} {a b : List Stmt} {f : DT} (hc : VT X kd fx.W c f) (ha : VSs X fx kd kd' a g) (hb : VSs X fx kd kd' b h) (hx : fx.XR kd := by first | trivial | rfl) : VS X fx kd kd' (.If c a b pos) (dIf f g h) :=
  PS.imp (ps_if hc ha hb) fun D σ H ⟨Fs, P, δ, E, q⟩ => by
    refine ⟨Fs, P, δ, E, ?_⟩
    have q1 := stmT (σ := σ) hx q
    revert q1
    cases f δ with
    | no => exact fun q => q
    | exn e δ1 => exact fun q => q
    | ok b δ1 =>
      intro q1 Fs1 P1 H1 E1 s1
      obtain ⟨δ1', Fs1', P1', E1', s1', q2⟩ := q1 Fs1 P1 H1 E1 s1
      cases b with
      | true => exact ⟨Fs1', P1', δ1', E1', q2⟩
      | false => exact ⟨Fs1', P1', δ1', E1', q2⟩
/-- x = e, the slot's kind then that of the value -/
def dSet (i : Nat) (f : DE) : DS := fun δ => (f δ).stm fun d δ1 => .next (δ1.set i (some d))
theorem set_rd {i : Nat} {f : DE} {k : Kd} {K : PySem.W.Frag} {mg : Str → Option Value} (hi : i < kd.length) (hx : fx.XR kd) {D : L2.Ends} {σ : L2.St} {H : Hp} (q : rdS K mg fx (kd.set i k) kd (dSet i f) D σ H) :
    tAsg (rdE K mg kd fx.W k f) (gName i) D σ H := by
  obtain ⟨Fs, P, δ, E, q⟩ := q
  refine ⟨Fs, P, δ, E, ?_⟩
  have q1 := stmE (σ := σ) (k := k) hx q
  revert q1
  cases f δ with
  | no => exact fun q => q
  | exn e δ1 => exact fun q => q
  | ok d δ1 =>
    intro q1 v1 Fs1 P1 H1 G1 E1 s1 f1 o1
    obtain ⟨d', δ1', Fs1', P1', G1', E1', s1', f1', o1', _, q2⟩ := q1 v1 Fs1 P1 H1 G1 E1 s1 f1 o1
    exact q2 _ _ _ _ (E1'.set hi f1' o1') (s1'.set f1')
theorem vs_set (i : Nat) {x : Str} {e : Expr} {f : DE} {k : Kd} {p' : Pos} (hN : X.N.Nodup) (he : VE X kd fx.W k e f) (hi : X.N[i]? = some x := by rfl) (hx : Loc X.env.scope x := by first | exact Or.inl rfl | exact Or.inr rfl) (hl : i < kd.length := by exact Nat.le_of_ble_eq_true rfl)
    (hxr : fx.XR kd := by first | trivial | rfl) (hs : swapsWith e (some (.Name x p')) pos.line X.env = pure false := by rfl) (hf : X.fn x = true ∨ X.env.scope.names.lookup x = some .local := by first | exact .inl rfl | exact .inr rfl | assumption) :
    VS X fx kd (kd.set i k) (.Assign [.Name x p'] e pos) (dSet i f) := PS.imp (ps_set hN hi hx he hs hf) fun _ _ _ q => set_rd hl hxr q
/-- return x, x an owned slot: the slot gives its value away -/
def dRetO (i : Nat) : DS := fun δ => match δ[i]? with
  | some (some d) => .ret d (δ.set i none)
  | _ => .no
theorem EnvR.forget {K : PySem.W.Frag} {mg : Str → Option Value} {kd : Kds} {Fs : Nat → AS} {P H : Hp} {σ : L2.St} {δ : Env} (i : Nat) (E : EnvR K mg kd Fs P H σ δ) : EnvR K mg kd (upF Fs i Non) P H σ (δ.set i none) where
  sub := E.sub
  slot j d h := by
    by_cases q : j = i
    · subst q
      by_cases hl : j < δ.length
      · rw [List.getElem?_set_self hl] at h; cases h
      · rw [List.getElem?_eq_none (by rw [List.length_set]; omega)] at h; cases h
    · rw [List.getElem?_set_ne (Ne.symm q)] at h
      obtain ⟨v, h1, h2⟩ := E.slot j d h
      exact ⟨v, h1, by rw [upF_ne q]; exact h2⟩
  only j a h := by
    by_cases q : j = i
    · subst q; rw [upF_same] at h; exact h.elim
    · rw [upF_ne q] at h
      obtain ⟨d, e⟩ := E.only j a h
      exact ⟨d, by rw [List.getElem?_set_ne (Ne.symm q)]; exact e⟩
  sep j l a h1 h2 := by
    by_cases q : j = i
    · subst q; rw [upF_same] at h1; exact h1.elim
    · by_cases q2 : l = i
      · subst q2; rw [upF_same] at h2; exact h2.elim
      · rw [upF_ne q] at h1; rw [upF_ne q2] at h2; exact E.sep j l a h1 h2
  out j a h := by
    by_cases q : j = i
    · subst q; rw [upF_same] at h; exact h.elim
    · rw [upF_ne q] at h; exact E.out j a h
  len := by rw [List.length_set]; exact E.len
  lenK := E.lenK
theorem vs_retO (i : Nat) {x : Str} {p1 : Pos} (hk : kd.at i = fx.rk := by rfl) (hN : X.N[i]? = some x := by rfl) (hv : Vis X.env.scope x := by first | exact Or.inl rfl | exact Or.inr (Or.inl rfl) | exact Or.inr (Or.inr rfl))
    (hd : (x == ("__debug__" : Str)) = false := by decide) (hcd : (x == ("__classdict__" : Str)) = false := by decide) (hr : fx.KR kd := by first | trivial | rfl | (intro i hi; revert hi; decide)) : VS X fx kd kd' (.Return (some (.Name x p1)) pos) (dRetO i) :=
  PS.imp (ps_ret (pe_var hN hv hd hcd)) fun D σ H ⟨Fs, P, δ, E, q⟩ => by
    unfold dRetO at q
    cases e : δ[i]? with
    | none => rw [e] at q; exact q.elim
    | some o =>
      cases o with
      | none => rw [e] at q; exact q.elim
      | some d =>
        rw [e] at q
        obtain ⟨v, h1, h2⟩ := E.slot i d e
        refine ⟨v, h1, q kd hr v σ _ P H (Fs i) (E.forget i) ⟨fun _ _ h _ _ => h, Sub.refl _, fun a o h => .inl h, fun a h => .inl ((all_upF h).elim id fun z => z.elim), fun a o h => ⟨o, h⟩⟩ ⟨fun a g => .inl ⟨i, g⟩, fun a g m => ?_, fun a g => (E.out i a g).1, fun a g => (E.out i a g).2⟩ (hk ▸ h2)⟩
        obtain ⟨j, m⟩ := m
        by_cases q : j = i
        · subst q; rw [upF_same] at m; exact m
        · rw [upF_ne q] at m; exact q (E.sep j i a m g)
end
end VL

set_option Elab.async false
set_option linter.all false
set_option maxRecDepth 100000
/-! Layer V: release, defs, calls. -/
namespace VL
open PySem PySem.Spec PyProof.Rows L2

section
variable {K : PySem.W.Frag} {mg : Str → Option Value} {fx : Fx} {kd kd1 kd' : Kds} {Fs Fs1 : Nat → AS} {P H P1 H1 : Hp} {σ : L2.St} {δ : Env} {D : L2.Ends}
theorem EnvR.release {i : Nat} (E : EnvR K mg kd Fs P H σ δ) (hi : i < kd.length) : EnvR K mg (kd.set i .sh) (upF Fs i Non) (add P H (Fs i)) H σ δ where
  sub := add_le E.sub fun a o f => mu_ntb (fun a m => E.mu a m) a o ⟨i, f⟩
  slot j d h := by
    obtain ⟨v, h1, h2⟩ := E.slot j d h
    refine ⟨v, h1, ?_⟩
    by_cases q : j = i
    · subst q
      rw [upF_same, Kds.at_set hi]
      exact Own.sh_of (h2.rel fun a f => (E.out j a f).1)
    · rw [upF_ne q, Kds.at_set_ne q]
      exact h2.stay (add_sub fun a f => (E.out i a f).1) fun _ _ _ e _ => e
  only j a h := by
    by_cases q : j = i
    · subst q; rw [upF_same] at h; exact h.elim
    · rw [upF_ne q] at h; exact E.only j a h
  sep j l a h1 h2 := by
    by_cases q : j = i
    · subst q; rw [upF_same] at h1; exact h1.elim
    · by_cases q2 : l = i
      · subst q2; rw [upF_same] at h2; exact h2.elim
      · rw [upF_ne q] at h1; rw [upF_ne q2] at h2; exact E.sep j l a h1 h2
  out j a h := by
    by_cases q : j = i
    · subst q; rw [upF_same] at h; exact h.elim
    · rw [upF_ne q] at h
      obtain ⟨h1, h2⟩ := E.out j a h
      exact ⟨by rw [add_out fun f => q (E.sep j i a h f)]; exact h1, h2⟩
  len := E.len
  lenK := by rw [List.length_set]; exact E.lenK
theorem release_stp {i : Nat} (E : EnvR K mg kd Fs P H σ δ) : Stp (All Fs) P H (All (upF Fs i Non)) (add P H (Fs i)) H :=
  ⟨fun _ _ h _ _ => h, add_sub fun a f => (E.out i a f).1, fun a o h => by
    by_cases f : Fs i a
    · exact .inr (.inr ⟨i, f⟩)
    · rw [add_out f] at h; exact .inl h, fun a h => .inl ((all_upF h).elim id fun z => z.elim), fun _ o h => ⟨o, h⟩⟩
theorem vss_rel (i : Nat) {X : Cx} {st : List Stmt} {g : DS} (h : VSs X fx (kd.set i .sh) kd' st g) (hi : i < kd.length := by exact Nat.le_of_ble_eq_true rfl) : VSs X fx kd kd' st g :=
  PSs.imp h fun D σ H ⟨Fs, P, δ, E, q⟩ => ⟨_, _, δ, E.release hi, PostS.later (release_stp E) q⟩

/-! ### what a def is worth -/
inductive FRes where
  | ok (d : VL.D) (outs : Env) | exn (e : VL.D) | no
variable (K mg)
def spV (kp : Kds) (rk : Kd) (fn : List VL.D → FRes) : Sp := fun vs H Q E => ∃ (Fs : Nat → AS) (P : Hp) (ds : List VL.D), vs.length = kp.length ∧ EnvR K mg kp Fs P H (vs.map some) (ds.map some) ∧ match fn ds with
  | .ok d outs => ∀ (v : V) (Fs' : Nat → AS) (P' H' : Hp) (G : AS), EnvR K mg kp Fs' P' H' (vs.map some) outs → Stp (All Fs) P H (All Fs') P' H' → Fr G H (All Fs') P' H' → Own K mg rk G P' H' v d → Q v H'
  | .exn e => ∀ (cls : Value) (dx : Option Addr) (P' H' : Hp), Lie P' H' → Stp (All Fs) P H Non P' H' → ExR K mg P' cls dx e → E cls dx H'
  | .no => False
variable {K mg}
def outsOf : Kds → List VL.D → Env → Env
  | k :: kp, d :: ds, δ => (match k with | .sh => some d | _ => δ.headD none) :: outsOf kp ds δ.tail
  | _, _, _ => []
def Kd.isSh : Kd → Bool
  | .sh => true
  | _ => false
def dFn (kp : Kds) (rk : Kd) (n : Nat) (g : DS) : List VL.D → FRes := fun ds => match g (ds.map some ++ List.replicate (n - ds.length) none) with
  | .ret d δ => .ok d (outsOf kp ds δ)
  | .next δ => if rk.isSh then .ok .non (outsOf kp ds δ) else .no
  | .exn e _ => .exn e
  | _ => .no
/-- the same for a def that changes its first parameter -/
def dFnIO (kp : Kds) (rk : Kd) (n : Nat) (g : DS) : List VL.D → FRes := fun ds => match dFn kp rk n g ds with
  | .ok d (some p :: r) => .ok d (some p :: r)
  | .exn e => .exn e
  | _ => .no
/-- a def at an address -/
structure VFnA (P : Program) (w : World) (K : PySem.W.Frag) (mg : Str → Option Value) (base : Heap) (lvl : Nat) (f : Addr) (kp : Kds) (rk : Kd) (fn : List VL.D → FRes) : Prop where
  ex : ∃ (fd : FuncData) (ps : List Str), PySem.W.keepIn K (.ref f) = true ∧ Binds K fd ps [] ∧ FnOk P w K mg base (L2.CX P w) lvl f fd ps (spV K mg kp rk fn)
/-- a def of the text, by its name -/
structure VFn (P : Program) (w : World) (K : PySem.W.Frag) (mg : Str → Option Value) (base : Heap) (lvl : Nat) (x : Str) (kp : Kds) (rk : Kd) (fn : List VL.D → FRes) : Prop where
  ex : ∃ (f : Addr) (fd : FuncData) (ps : List Str), mg x = some (.ref f) ∧ PySem.W.keepIn K (.ref f) = true ∧ Binds K fd ps [] ∧ FnOk P w K mg base (L2.CX P w) lvl f fd ps (spV K mg kp rk fn)
end

theorem VFnA.named {P : Program} {w : World} {K : PySem.W.Frag} {mg : Str → Option Value} {base : Heap} {lvl : Nat} {f : Addr} {x : Str} {kp : Kds} {rk : Kd} {fn : List VL.D → FRes} (V : VFnA P w K mg base lvl f kp rk fn) (hm : mg x = some (.ref f)) : VFn P w K mg base lvl x kp rk fn :=
  let ⟨fd, ps, a, b, c⟩ := V.ex
  ⟨f, fd, ps, hm, a, b, c⟩

/-! ### calls -/
def dCall (n : Nat) (fn : List D → FRes) (g : DA) : DE := fun δ => (g δ).bind fun ds δ1 => if ds.length = n then (match fn ds with
  | .ok d _ => .ok d δ1
  | .exn e => .exn e δ1
  | .no => .no) else .no
def dCallIO (j : Nat) (n : Nat) (fn : List D → FRes) (g : DA) : DE := fun δ => match δ[j]? with
  | some (some _) => (g δ).bind fun ds δ1 => if ds.length = n then (match δ1[j]? with
    | some (some p) => (match fn (p :: ds) with
      | .ok d (some p' :: _) => .ok d (δ1.set j (some p'))
      | _ => .no)
    | _ => .no) else .no
  | _ => .no
section
variable {K : PySem.W.Frag} {mg : Str → Option Value} {kd : Kds} {W : L2.WX} {Fs : Nat → AS} {P H : Hp} {σ : L2.St} {δ : Env}
theorem Kds.at_rep {n i : Nat} : Kds.at (List.replicate n .sh) i = .sh := by
  unfold Kds.at
  rw [List.getD_eq_getElem?_getD, List.getElem?_replicate]
  split <;> rfl
theorem getMapSome {α : Type} {l : List α} {i : Nat} {x : α} (h : (l.map some)[i]? = some (some x)) : l[i]? = some x := by
  rw [List.getElem?_map] at h
  cases e : l[i]? with
  | none => rw [e] at h; cases h
  | some y => rw [e] at h; cases h; rfl
theorem mapSomeGet {α : Type} {l : List α} {i : Nat} {x : α} (h : l[i]? = some x) : (l.map some)[i]? = some (some x) := by rw [List.getElem?_map, h]; rfl
/-- the slots of a callee whose parameters are all shared -/
theorem envPure {vs : List V} {ds : List D} (s : Lie P H) (r : RepL K mg P vs ds) : EnvR K mg (List.replicate ds.length .sh) (fun _ => Non) P H (vs.map some) (ds.map some) where
  sub := s
  slot i d h := by
    obtain ⟨v, h1, h2⟩ := r.get (getMapSome h)
    exact ⟨v, mapSomeGet h1, by rw [Kds.at_rep]; exact Own.sh_of h2⟩
  only _ _ z := z.elim
  sep _ _ _ z := z.elim
  out _ _ z := z.elim
  len := by rw [List.length_map, List.length_map, r.length]
  lenK := by rw [List.length_replicate, List.length_map, r.length]
theorem all_non : All (fun _ => Non) = Non := by
  funext a; exact propext ⟨fun ⟨_, z⟩ => z, fun z => z.elim⟩
/-- where all parameters are shared nothing is owned -/
theorem EnvR.pure_non {n : Nat} {Fs' : Nat → AS} {τ : L2.St} {ε : Env} (E : EnvR K mg (List.replicate n .sh) Fs' P H τ ε) : All Fs' = Non := by
  funext a
  refine propext ⟨fun ⟨i, h⟩ => ?_, fun z => z.elim⟩
  obtain ⟨d, e⟩ := E.only i a h
  obtain ⟨v, _, o⟩ := E.slot i d e
  rw [Kds.at_rep] at o
  exact o.1 a h
theorem call_rd {n : Nat} {rk : Kd} {fn : List D → FRes} {g : DA} {σ : L2.St} {H : Hp} {Q : VK} (h : rdE K mg kd W rk (dCall n fn g) σ H Q) : tCallS (spV K mg (List.replicate n .sh) rk fn) (WE W) (rdA K mg kd W g) σ H Q := by
  obtain ⟨Fs, P, δ, E, q⟩ := h
  refine ⟨Fs, P, δ, E, ?_⟩
  have q1 := bindA q
  revert q1
  cases g δ with
  | no => exact fun q => q
  | exn e δ1 => exact fun q => q
  | ok d δ1 =>
    intro q1 v1 Fs1 P1 H1 E1 s1 o1
    obtain ⟨ds, δ1', Fs1', P1', E1', s1', r1', q2⟩ := q1 v1 Fs1 P1 H1 E1 s1 o1
    by_cases hn : ds.length = n
    · rw [if_pos hn] at q2
      subst hn
      have E2 : EnvR K mg (List.replicate ds.length .sh) (fun _ => Non) P1' H1 (v1.map some) (ds.map some) := envPure E1'.sub r1'
      refine ⟨fun _ => Non, P1', ds, by rw [List.length_replicate, r1'.length], E2, ?_⟩
      cases ef : fn ds with
      | no => rw [ef] at q2; exact q2
      | exn e =>
        rw [ef] at q2
        intro cls dx P' H' hs s x
        rw [all_non] at s
        exact q2 cls dx Fs1' P' H' (E1'.grow s hs) s.wid x
      | ok d outs =>
        rw [ef] at q2
        intro v Fs' P' H' G E' s f o
        rw [E'.pure_non, all_non] at s
        rw [E'.pure_non] at f
        exact PostE.step E1' s E'.sub f o q2
    · rw [if_neg hn] at q2; exact q2.elim
def Kd.strip : Kd → Kd
  | .pin _ k => k.strip
  | k => k
theorem Own.strip : ∀ {k : Kd} {F : AS} {v : V} {d : D}, Own K mg k F P H v d → Own K mg k.strip F P H v d
  | .pin a k, _, _, _, ⟨_, o⟩ => Own.strip (k := k) o
  | .sh, _, _, _, o => o
  | .li _, _, _, _, o => o
  | .dc, _, _, _, o => o
  | .ob, _, _, _, o => o
theorem Own.unstrip {P' H' : Hp} : ∀ {k : Kd} {F F' : AS} {v : V} {d d' : D}, Own K mg k F P H v d → Own K mg k.strip F' P' H' v d' → Own K mg k F' P' H' v d'
  | .pin a k, _, _, _, _, _, ⟨e, o⟩, n => ⟨e, Own.unstrip (k := k) o n⟩
  | .sh, _, _, _, _, _, _, n => n
  | .li _, _, _, _, _, _, _, n => n
  | .dc, _, _, _, _, _, _, n => n
  | .ob, _, _, _, _, _, _, n => n
/-- the callee's slots: the first one owned -/
theorem envIO {j : Nat} {v0 : V} {p : D} {vs : List V} {ds : List D} (E : EnvR K mg kd Fs P H σ δ) (hj : δ[j]? = some (some p)) (hv : σ[j]? = some (some v0)) (r : RepL K mg P vs ds) :
    EnvR K mg ((kd.at j).strip :: List.replicate ds.length .sh) (fun i => if i = 0 then Fs j else Non) P H ((v0 :: vs).map some) ((p :: ds).map some) where
  sub := E.sub
  slot i d h := by
    cases i with
    | zero =>
      simp only [List.map_cons, List.getElem?_cons_zero, Option.some.injEq] at h
      subst h
      obtain ⟨v, h1, h2⟩ := E.slot j p hj
      rw [hv] at h1
      cases h1
      exact ⟨v0, rfl, h2.strip⟩
    | succ i =>
      have h' : (ds.map some)[i]? = some (some d) := by simpa using h
      obtain ⟨v, h1, h2⟩ := r.get (getMapSome h')
      refine ⟨v, by simpa using mapSomeGet h1, ?_⟩
      have e : Kds.at ((kd.at j).strip :: List.replicate ds.length .sh) (i + 1) = .sh := (show Kds.at ((kd.at j).strip :: List.replicate ds.length .sh) (i + 1) = Kds.at (List.replicate ds.length .sh) i from rfl).trans Kds.at_rep
      rw [e, if_neg (Nat.succ_ne_zero i)]
      exact Own.sh_of h2
  only i a h := by
    cases i with
    | zero => exact ⟨p, rfl⟩
    | succ i => exact (by simpa using h : Non a).elim
  sep i l a h1 h2 := by
    cases i with
    | succ i => exact (by simpa using h1 : Non a).elim
    | zero =>
      cases l with
      | zero => rfl
      | succ l => exact (by simpa using h2 : Non a).elim
  out i a h := by
    cases i with
    | zero => exact E.out j a h
    | succ i => exact (by simpa using h : Non a).elim
  len := by simp [r.length]
  lenK := by simp [r.length]
theorem all_IO {F : AS} : All (fun i => if i = 0 then F else Non) = F := by
  funext a
  refine propext ⟨fun ⟨i, h⟩ => ?_, fun h => ⟨0, h⟩⟩
  cases i with
  | zero => exact h
  | succ i => exact (by simpa using h : Non a).elim
theorem EnvR.io_all {k0 : Kd} {n : Nat} {Fs' : Nat → AS} {τ : L2.St} {ε : Env} (E : EnvR K mg (k0 :: List.replicate n .sh) Fs' P H τ ε) : All Fs' = Fs' 0 := by
  funext a
  refine propext ⟨fun ⟨i, h⟩ => ?_, fun z => ⟨0, z⟩⟩
  cases i with
  | zero => exact h
  | succ i =>
    obtain ⟨d, e⟩ := E.only (i + 1) a h
    obtain ⟨v, _, o⟩ := E.slot (i + 1) d e
    rw [(show Kds.at (k0 :: List.replicate n .sh) (i + 1) = Kds.at (List.replicate n .sh) i from rfl), Kds.at_rep] at o
    exact (o.1 a h).elim
/-- behind the call: the slot j holds what the callee left -/
theorem EnvR.back {j : Nat} {v0 : V} {p p' : D} {F : AS} {P' H' : Hp} (E : EnvR K mg kd Fs P H σ δ) (hj : δ[j]? = some (some p)) (hv : σ[j]? = some (some v0)) (s : Stp (Fs j) P H F P' H') (hs : Lie P' H')
    (o : Own K mg (kd.at j) F P' H' v0 p') (hF : ∀ a, F a → P' a = none ∧ ∃ o, H' a = some o) : EnvR K mg kd (upF Fs j F) P' H' σ (δ.set j (some p')) where
  sub := hs
  slot i d h := by
    by_cases q : i = j
    · subst q
      have hl : i < δ.length := (List.getElem?_eq_some_iff.mp hj).1
      rw [List.getElem?_set_self hl] at h
      cases h
      exact ⟨v0, hv, by rw [upF_same]; exact o⟩
    · rw [List.getElem?_set_ne (Ne.symm q)] at h
      obtain ⟨v, h1, h2⟩ := E.slot i d h
      refine ⟨v, h1, ?_⟩
      rw [upF_ne q]
      exact h2.stay s.grow fun a u f e => s.keep a u e fun m => q (E.sep i j a f m)
  only i a h := by
    by_cases q : i = j
    · subst q
      have hl : i < δ.length := (List.getElem?_eq_some_iff.mp hj).1
      exact ⟨p', List.getElem?_set_self hl⟩
    · rw [upF_ne q] at h
      obtain ⟨d, e⟩ := E.only i a h
      exact ⟨d, by rw [List.getElem?_set_ne (Ne.symm q)]; exact e⟩
  sep i l a h1 h2 := by
    have no : ∀ m, m ≠ j → Fs m a → F a → False := fun m hm f g => by
      obtain ⟨_, u, hu⟩ := E.out m a f
      rcases s.newM a g with z | z
      · exact hm (E.sep m j a f z)
      · rw [hu] at z; cases z
    by_cases q : i = j
    · by_cases q2 : l = j
      · exact q.trans q2.symm
      · subst q; rw [upF_same] at h1; rw [upF_ne q2] at h2; exact (no l q2 h2 h1).elim
    · rw [upF_ne q] at h1
      by_cases q2 : l = j
      · subst q2; rw [upF_same] at h2; exact (no i q h1 h2).elim
      · rw [upF_ne q2] at h2; exact E.sep i l a h1 h2
  out i a h := by
    by_cases q : i = j
    · subst q; rw [upF_same] at h; exact hF a h
    · rw [upF_ne q] at h
      obtain ⟨h1, u, h2⟩ := E.out i a h
      have nm : ¬ Fs j a := fun m => q (E.sep i j a h m)
      refine ⟨?_, s.dom a u h2⟩
      cases e : P' a with
      | none => rfl
      | some z =>
        rcases s.newP a z e with y | y | y
        · rw [h1] at y; cases y
        · rw [h2] at y; cases y
        · exact (nm y).elim
  len := by rw [List.length_set]; exact E.len
  lenK := E.lenK
theorem Stp.back {j : Nat} {F : AS} {P' H' : Hp} (s : Stp (Fs j) P H F P' H') : Stp (All Fs) P H (All (upF Fs j F)) P' H' :=
  ⟨fun a o h n => s.keep a o h fun m => n ⟨j, m⟩, s.grow, fun a o h => (s.newP a o h).imp id fun z => z.imp id fun m => ⟨j, m⟩, fun a h => (all_upF h).elim .inl fun g => (s.newM a g).imp (fun m => ⟨j, m⟩) id, s.dom⟩
theorem Fr.backIO {j : Nat} {G F : AS} {P' H' : Hp} (E : EnvR K mg kd Fs P H σ δ) (f : Fr G H F P' H') : Fr G H (All (upF Fs j F)) P' H' :=
  ⟨f.new, fun a g m => (all_upF m).elim (fun z => (by obtain ⟨u, e⟩ := E.all_in a z; rw [f.new a g] at e; cases e)) (f.notM a g), f.notP, f.there⟩
theorem callIO_rd {j n : Nat} {k0 rk : Kd} {fn : List D → FRes} {g : DA} {σ : L2.St} {H : Hp} {Q : VK} (hk : (kd.at j).strip = k0) (h : rdE K mg kd W rk (dCallIO j n fn g) σ H Q) :
    tCallS (spV K mg (k0 :: List.replicate n .sh) rk fn) (WE W) (tCons (tVar j) (rdA K mg kd W g)) σ H Q := by
  obtain ⟨Fs, P, δ, E, q⟩ := h
  subst hk
  unfold dCallIO at q
  cases ej : δ[j]? with
  | none => rw [ej] at q; exact q.elim
  | some o =>
    cases o with
    | none => rw [ej] at q; exact q.elim
    | some p0 =>
      rw [ej] at q
      obtain ⟨v0, hv, _⟩ := E.slot j p0 ej
      refine ⟨v0, hv, Fs, P, δ, E, ?_⟩
      have q1 := bindA q
      revert q1
      cases g δ with
      | no => exact fun q => q
      | exn e δ1 => exact fun q => q
      | ok d δ1 =>
        intro q1 v1 Fs1 P1 H1 E1 s1 o1
        obtain ⟨ds, δ1', Fs1', P1', E1', s1', r1', q2⟩ := q1 v1 Fs1 P1 H1 E1 s1 o1
        by_cases hn : ds.length = n
        · rw [if_pos hn] at q2
          subst hn
          cases ep : δ1'[j]? with
          | none => rw [ep] at q2; exact q2.elim
          | some o2 =>
            cases o2 with
            | none => rw [ep] at q2; exact q2.elim
            | some p =>
              rw [ep] at q2
              have E2 := envIO E1' ep hv r1'
              refine ⟨_, P1', p :: ds, by simp [r1'.length], E2, ?_⟩
              have q3 : PostE K mg kd W rk σ Fs1' P1' H1 Q (match fn (p :: ds) with
                | .ok d (some p' :: _) => .ok d (δ1'.set j (some p'))
                | _ => .no) := q2
              cases ef : fn (p :: ds) with
              | no => rw [ef] at q3; exact q3.elim
              | exn e => rw [ef] at q3; exact q3.elim
              | ok d outs =>
                rw [ef] at q3
                cases outs with
                | nil => exact q3.elim
                | cons o3 outs =>
                  cases o3 with
                  | none => exact q3.elim
                  | some p' =>
                    intro v Fs' P' H' G E' s f o
                    rw [E'.io_all, all_IO] at s
                    rw [E'.io_all] at f
                    obtain ⟨v0', hv0, ow⟩ := E'.slot 0 p' rfl
                    cases (show some (some v0) = some (some v0') from hv0)
                    obtain ⟨v9, hv9, ow9⟩ := E1'.slot j p ep
                    rw [hv] at hv9
                    cases hv9
                    have E3 := E1'.back ep hv s E'.sub (ow9.unstrip ow) fun a g => E'.out 0 a g
                    exact q3 v _ P' H' G E3 s.back (Fr.backIO E1' f) o
        · rw [if_neg hn] at q2; exact q2.elim
end
section
variable {X : Cx} {kd : Kds} {W : L2.WX} {pos p : Pos} {lvl : Nat} {x : Str} {rk : Kd} {fn : List D → FRes} {e e0 : Expr} {es : List Expr} {g : DA}
/-- f(e, ..): all parameters shared -/
theorem ve_call {n : Nat} (V : VFn X.prog X.w X.K X.mg X.base lvl x (List.replicate n .sh) rk fn) (hr : Room lvl X.A) (tk : Takes X W) (ha : VA X kd W (e :: es) g) (hg : Gl X x := by rfl) (hdb : (x == ("__debug__" : Str)) = false := by decide)
    (he : starEach (e :: es) X.env = (false, eval e X.env) :: starEach es X.env := by rfl) (hpl : (backTo pos (starEach es X.env)).any (·.1) = false := by rfl) : VE X kd W rk (.Call (.Name x p) (e :: es) [] pos) (dCall n fn g) := by
  obtain ⟨f, fd, ps, hm, hk, hb, F⟩ := V.ex
  exact PE.imp (pe_callS F hr hg hm hk hb (fun σ => passAt tk σ) ha hdb he hpl) fun _ _ _ h => call_rd h
/-- f(pen, e, ..): the first one is changed -/
theorem ve_callIO {n j : Nat} {y : Str} {py : Pos} {k0 : Kd} (V : VFn X.prog X.w X.K X.mg X.base lvl x (k0 :: List.replicate n .sh) rk fn) (hr : Room lvl X.A) (tk : Takes X W) (ha : VA X kd W es g) (hk0 : (kd.at j).strip = k0 := by rfl) (hN : X.N[j]? = some y := by rfl) (hv : Vis X.env.scope y := by first | exact Or.inl rfl | exact Or.inr (Or.inl rfl) | exact Or.inr (Or.inr rfl))
    (hg : Gl X x := by rfl) (hd : (y == ("__debug__" : Str)) = false := by decide) (hcd : (y == ("__classdict__" : Str)) = false := by decide) (hdb : (x == ("__debug__" : Str)) = false := by decide)
    (hs : starEach (.Name y py :: es) X.env = (false, eval (.Name y py) X.env) :: starEach es X.env := by rfl) (hpl : (backTo pos (starEach es X.env)).any (·.1) = false := by rfl) : VE X kd W rk (.Call (.Name x p) (.Name y py :: es) [] pos) (dCallIO j n fn g) := by
  obtain ⟨f, fd, ps, hm, hk, hb, F⟩ := V.ex
  exact PE.imp (pe_callS F hr hg hm hk hb (fun σ => passAt tk σ) (pa_cons (pe_var hN hv hd hcd) ha hs) hdb hs hpl) fun _ _ _ h => callIO_rd hk0 h
end
end VL

set_option Elab.async false
set_option linter.all false
set_option maxRecDepth 100000
/-! Layer V: a def from its body. -/
namespace VL
open PySem PySem.Spec PyProof.Rows L2
section
variable {K : PySem.W.Frag} {mg : Str → Option Value} {Fs : Nat → AS} {P H : Hp}
theorem RepL.of_env {n : Nat} {vs : List V} {ds : List D} (E : EnvR K mg (List.replicate n .sh) Fs P H (vs.map some) (ds.map some)) : RepL K mg P vs ds := by
  have hl : ds.length = vs.length := by have := E.len; simpa using this
  refine RepL.of hl.symm fun j v d h1 h2 => ?_
  obtain ⟨v', h3, o⟩ := E.slot j d (mapSomeGet h2)
  rw [mapSomeGet h1] at h3
  cases h3
  rw [Kds.at_rep] at o
  exact o.2
/-- the slots at a body's start -/
theorem EnvR.start {kp : Kds} {N : List Str} {vs : List V} {ds : List D} (E : EnvR K mg kp Fs P H (vs.map some) (ds.map some)) (hn : vs.length ≤ N.length) :
    EnvR K mg (kp ++ List.replicate (N.length - vs.length) .sh) Fs P H (L2.start N vs) (ds.map some ++ List.replicate (N.length - ds.length) none) := by
  have hl : ds.length = vs.length := by have := E.len; simpa using this
  have hk : kp.length = vs.length := by have := E.lenK; simpa using this
  have key : ∀ (i : Nat) (d : D), (ds.map some ++ List.replicate (N.length - ds.length) none)[i]? = some (some d) → (ds.map some)[i]? = some (some d) := fun i d h => by
    by_cases q : i < ds.length
    · rw [List.getElem?_append_left (by simpa using q)] at h; exact h
    · rw [List.getElem?_append_right (by simpa using Nat.le_of_not_lt q), List.getElem?_replicate] at h
      split at h <;> cases h
  refine ⟨E.sub, fun i d h => ?_, fun i a h => ?_, E.sep, E.out, ?_, ?_⟩
  · have h' := key i d h
    obtain ⟨v, h1, o⟩ := E.slot i d h'
    have hi : i < vs.length := by
      have := (List.getElem?_eq_some_iff.mp h1).1
      simpa using this
    refine ⟨v, ?_, ?_⟩
    · unfold L2.start
      rw [List.getElem?_append_left (by simpa using hi)]; exact h1
    · have e : Kds.at (kp ++ List.replicate (N.length - vs.length) .sh) i = kp.at i := by
        unfold Kds.at
        rw [List.getD_eq_getElem?_getD, List.getD_eq_getElem?_getD, List.getElem?_append_left (by omega)]
      rw [e]; exact o
  · obtain ⟨d, e⟩ := E.only i a h
    refine ⟨d, ?_⟩
    have hi : i < ds.length := by
      have := (List.getElem?_eq_some_iff.mp e).1
      simpa using this
    rw [List.getElem?_append_left (by simpa using hi)]; exact e
  · unfold L2.start; simp [hl]
  · unfold L2.start; simp [hk]
theorem outs_sh : ∀ (ds : List D) (δ : Env), outsOf (List.replicate ds.length .sh) ds δ = ds.map some
  | [], _ => by simp [outsOf, List.replicate]
  | d :: ds, δ => by rw [List.length_cons, List.replicate_succ, outsOf, List.map_cons, outs_sh ds δ.tail]
end
/-- what a function's body is to show: its level, its context -/
abbrev fxOf (rk : Kd) (KR : Kds → Prop) (E : XK) : Fx := ⟨fun cls d _ H => E cls d H, rk, KR, fun _ => True, []⟩
section
variable {P : Program} {w : World} {K : PySem.W.Frag} {mg : Str → Option Value} {base : Heap}
theorem takes_def {N : List Str} {qual : Str} {scope : Scope} {f : Addr} {cd : Value} {A : Around} {outer : List PySem.Env} {s : Shared} {H : Hp} {E : XK} :
    Takes (cxOf (L2.CX P w) P w K mg base N qual scope f cd A outer s H E) (fun cls d _ H => E cls d H) := takes_of rfl rfl rfl rfl
/-- a def whose parameters are all shared -/
theorem fok_of {x qual : Str} {st : Stmt} {f : Addr} {fd : FuncData} {N ps : List Str} {k n : Nat} {rk : Kd} {g : DS} {kdE : Kds} (F : Fun K x qual st f fd) (S : FnScope N ps (defScope st))
    (hb : Binds K fd ps []) (hn : ps.length = n)
    (body : ∀ (cdv : Value) (A : Around) (outer : List PySem.Env) (s : Shared) (H : Hp) (E : XK), Room k (A.deeper (envOfC qual (defScope st) s.heap.objs.size f cdv)) →
      VSs (cxOf (L2.CX P w) P w K mg base N qual (defScope st) f cdv A outer s H E) (fxOf rk (fun _ => True) E) (List.replicate N.length .sh) kdE (defBody st) g) :
    FnOk P w K mg base (L2.CX P w) (k + 1) f fd ps (spV K mg (List.replicate n .sh) rk (dFn (List.replicate n .sh) rk N.length g)) := by
  subst hn
  have hpn : ps.length ≤ N.length := by
    have := congrArg List.length S.pre
    rw [List.length_take] at this
    omega
  refine F.okX S (fun vs H Q E h => ?_) fun cdv A outer s H vs Q E hr h => ?_
  · obtain ⟨_, _, _, h, _⟩ := h
    simpa using h
  · refine ⟨_, body cdv A outer s H E hr, ?_⟩
    obtain ⟨Fs, Pp, ds, hl, E0, q⟩ := h
    have hl' : vs.length = ps.length := by simpa using hl
    have hd : ds.length = vs.length := by have := E0.len; simpa using this
    have R := RepL.of_env E0
    have E1 := E0.start (N := N) (by omega)
    have e1 : List.replicate ps.length Kd.sh ++ List.replicate (N.length - vs.length) Kd.sh = List.replicate N.length Kd.sh := by
      rw [List.replicate_append_replicate]
      congr 1
      omega
    rw [e1] at E1
    refine ⟨Fs, Pp, _, E1, ?_⟩
    have endOk : ∀ {d : D} {δ' : Env} {kdr : Kds} {σ' : L2.St} {Fs' : Nat → AS} {P' H' : Hp} {G : AS} {v : V}, EnvR K mg kdr Fs' P' H' σ' δ' → Stp (All Fs) Pp H (All Fs') P' H' → FrM G (All Fs) H (All Fs') P' H' → Own K mg rk G P' H' v d →
        (∀ (v : V) (Fs' : Nat → AS) (P' H' : Hp) (G : AS), EnvR K mg (List.replicate ps.length .sh) Fs' P' H' (vs.map some) (outsOf (List.replicate ps.length .sh) ds δ') → Stp (All Fs) Pp H (All Fs') P' H' → Fr G H (All Fs') P' H' → Own K mg rk G P' H' v d → Q v H') → Q v H' := by
      intro d δ' kdr σ' Fs' P' H' G v E' s' f' o' hq
      have e3 : outsOf (List.replicate ps.length .sh) ds δ' = ds.map some := by
        have := outs_sh ds δ'
        rw [hd, hl'] at this
        exact this
      rw [e3] at hq
      have E4 : EnvR K mg (List.replicate ds.length .sh) (fun _ => Non) P' H' (vs.map some) (ds.map some) := envPure E'.sub (R.mono s'.grow)
      rw [hd, hl'] at E4
      refine hq v _ P' H' G E4 ?_ ?_ o'
      · rw [all_non]
        exact ⟨s'.keep, s'.grow, s'.newP, fun _ z => z.elim, s'.dom⟩
      · rw [all_non]
        exact ⟨fun a g => (f'.new a g).elim (fun m => (by rw [E0.pure_non] at m; exact m.elim)) id, fun _ _ z => z, f'.notP, f'.there⟩
    revert q
    unfold dFn
    cases g (ds.map some ++ List.replicate (N.length - ds.length) none) with
    | no => exact fun q => q
    | brk δ' => exact fun q => q.elim
    | cont δ' => exact fun q => q.elim
    | exn e δ' =>
      intro q kdr _ cls dx σ' Fs' P' H' E' s' x
      exact q cls dx P' H' E'.sub ⟨s'.keep, s'.grow, s'.newP, fun _ z => z.elim, s'.dom⟩ x
    | ret d δ' =>
      intro q kdr _ v σ' Fs' P' H' G E' s' f' o'
      exact endOk E' s' f' o' q
    | next δ' =>
      intro q σ' Fs' P' H' E' s'
      cases rk with
      | sh => exact endOk (v := .non) (d := .non) E' s' Fr.non.m (Own.sh_of .non) q
      | li k => exact q.elim
      | dc => exact q.elim
      | ob => exact q.elim
      | pin a k => exact q.elim
theorem vfa_of {x qual : Str} {st : Stmt} {f : Addr} {fd : FuncData} {N ps : List Str} {k n : Nat} {rk : Kd} {g : DS} {kdE : Kds} (F : Fun K x qual st f fd) (S : FnScope N ps (defScope st))
    (hb : Binds K fd ps []) (hn : ps.length = n)
    (body : ∀ (cdv : Value) (A : Around) (outer : List PySem.Env) (s : Shared) (H : Hp) (E : XK), Room k (A.deeper (envOfC qual (defScope st) s.heap.objs.size f cdv)) →
      VSs (cxOf (L2.CX P w) P w K mg base N qual (defScope st) f cdv A outer s H E) (fxOf rk (fun _ => True) E) (List.replicate N.length .sh) kdE (defBody st) g) :
    VFnA P w K mg base (k + 1) f (List.replicate n .sh) rk (dFn (List.replicate n .sh) rk N.length g) :=
  ⟨fd, ps, F.kp, hb, fok_of F S hb hn body⟩
/-- a def whose first parameter is changed -/
theorem vfa_ofIO {x qual : Str} {st : Stmt} {f : Addr} {fd : FuncData} {N ps : List Str} {k n : Nat} {k0 rk : Kd} {g : DS} {kdE : Addr → Kds} (F : Fun K x qual st f fd) (S : FnScope N ps (defScope st))
    (hb : Binds K fd ps []) (hn : ps.length = n + 1) (hk0 : ∀ (F : AS) (P H : Hp) (v : V) (d : D), Own K mg k0 F P H v d → ∃ a, v = .ref a ∧ ∀ b, F b ↔ b = a) (hk1 : k0.isSh = false)
    (body : ∀ (a : Addr) (cdv : Value) (A : Around) (outer : List PySem.Env) (s : Shared) (H : Hp) (E : XK), Room k (A.deeper (envOfC qual (defScope st) s.heap.objs.size f cdv)) →
      VSs (cxOf (L2.CX P w) P w K mg base N qual (defScope st) f cdv A outer s H E) (fxOf rk (fun kdr => kdr.at 0 = .pin a k0) E) (.pin a k0 :: List.replicate (N.length - 1) .sh) (kdE a) (defBody st) g)
    (hE : ∀ a, (kdE a).at 0 = .pin a k0) :
    VFnA P w K mg base (k + 1) f (k0 :: List.replicate n .sh) rk (dFnIO (k0 :: List.replicate n .sh) rk N.length g) := by
  have hpn : ps.length ≤ N.length := by
    have := congrArg List.length S.pre
    rw [List.length_take] at this
    omega
  refine ⟨fd, ps, F.kp, hb, F.okX S (fun vs H Q E h => ?_) fun cdv A outer s H vs Q E hr h => ?_⟩
  · obtain ⟨_, _, _, h, _⟩ := h
    rw [h, hn]; simp
  · obtain ⟨Fs, Pp, ds, hl, E0, q⟩ := h
    have hl' : vs.length = n + 1 := by simpa using hl
    have hd : ds.length = vs.length := by have := E0.len; simpa using this
    obtain ⟨v0, vs, rfl⟩ : ∃ v0 vs', vs = v0 :: vs' := by cases vs with | nil => simp at hl' | cons v0 vs => exact ⟨v0, vs, rfl⟩
    obtain ⟨p0, ds, rfl⟩ : ∃ v0 vs', ds = v0 :: vs' := by cases ds with | nil => simp at hd | cons v0 vs => exact ⟨v0, vs, rfl⟩
    have hd' : ds.length = vs.length := by simpa using hd
    have hl2 : vs.length = n := by simpa using hl'
    obtain ⟨v0', hv0, o0⟩ := E0.slot 0 p0 rfl
    cases (show some (some v0) = some (some v0') from hv0)
    obtain ⟨a, rfl, hF0⟩ := hk0 _ _ _ _ _ o0
    refine ⟨_, body a cdv A outer s H E hr, ?_⟩
    have allE := E0.io_all
    have R : RepL K mg Pp vs ds := by
      refine RepL.of hd'.symm fun j v d h1 h2 => ?_
      obtain ⟨v', h3, o⟩ := E0.slot (j + 1) d (by simpa using mapSomeGet h2)
      have h4 : (vs.map some)[j]? = some (some v') := by simpa using h3
      rw [mapSomeGet h1] at h4
      cases h4
      rw [(show Kds.at (k0 :: List.replicate n .sh) (j + 1) = Kds.at (List.replicate n .sh) j from rfl), Kds.at_rep] at o
      exact o.2
    have E1 := E0.start (N := N) (by rw [hl']; omega)
    have E2 : EnvR K mg (.pin a k0 :: List.replicate (N.length - 1) .sh) Fs Pp H (L2.start N (.ref a :: vs)) ((p0 :: ds).map some ++ List.replicate (N.length - (p0 :: ds).length) none) := by
      have el : (k0 :: List.replicate n Kd.sh) ++ List.replicate (N.length - (V.ref a :: vs).length) Kd.sh = k0 :: List.replicate (N.length - 1) Kd.sh := by
        rw [List.cons_append, List.replicate_append_replicate]
        congr 2
        rw [hl']
        omega
      rw [el] at E1
      refine ⟨E1.sub, fun i d h => ?_, E1.only, E1.sep, E1.out, E1.len, by have := E1.lenK; simpa using this⟩
      obtain ⟨v, h1, o⟩ := E1.slot i d h
      refine ⟨v, h1, ?_⟩
      cases i with
      | zero =>
        have : v = .ref a := by
          unfold L2.start at h1
          simp at h1
          exact h1.symm
        exact ⟨this, o⟩
      | succ i => exact o
    refine ⟨Fs, Pp, _, E2, ?_⟩
    have endOk : ∀ {d : D} {δ' : Env} {kdr : Kds} {σ' : L2.St} {Fs' : Nat → AS} {P' H' : Hp} {G : AS} {v : V}, kdr.at 0 = .pin a k0 → EnvR K mg kdr Fs' P' H' σ' δ' → Stp (All Fs) Pp H (All Fs') P' H' → FrM G (All Fs) H (All Fs') P' H' → Own K mg rk G P' H' v d →
        (match FRes.ok d (outsOf (k0 :: List.replicate n .sh) (p0 :: ds) δ') with
          | .ok d (some p :: r) => (∀ (v : V) (Fs' : Nat → AS) (P' H' : Hp) (G : AS), EnvR K mg (k0 :: List.replicate n .sh) Fs' P' H' ((V.ref a :: vs).map some) (some p :: r) → Stp (All Fs) Pp H (All Fs') P' H' → Fr G H (All Fs') P' H' → Own K mg rk G P' H' v d → Q v H')
          | _ => False) → Q v H' := by
      intro d δ' kdr σ' Fs' P' H' G v hk E' s' f' o' hq
      have e3 : outsOf (k0 :: List.replicate n .sh) (p0 :: ds) δ' = δ'.headD none :: ds.map some := by
        have := outs_sh ds δ'.tail
        rw [hd', hl2] at this
        rw [outsOf, this]
        intro e
        rw [e] at hk1
        cases hk1
      rw [e3] at hq
      cases eh : δ'.headD none with
      | none => rw [eh] at hq; exact hq.elim
      | some ph =>
      rw [eh] at hq
      have E4 : EnvR K mg (k0 :: List.replicate n .sh) (fun i => if i = 0 then Fs' 0 else Non) P' H' ((V.ref a :: vs).map some) (some ph :: ds.map some) := by
        refine ⟨E'.sub, fun i d h => ?_, fun i b h => ?_, fun i l b h1 h2 => ?_, fun i b h => ?_, by simp [hd'], by simp [hl2]⟩
        · cases i with
          | zero =>
            have h0 : δ'.headD none = some d := by rw [eh]; simpa using h
            have h1 : δ'[0]? = some (some d) := by
              cases δ' with
              | nil => cases h0
              | cons x r => simp at h0; simp [h0]
            obtain ⟨v1, h2, o1⟩ := E'.slot 0 d h1
            rw [hk] at o1
            obtain ⟨rfl, o1⟩ := o1
            exact ⟨_, rfl, o1⟩
          | succ i =>
            have h' : (ds.map some)[i]? = some (some d) := by simpa using h
            obtain ⟨v, h1, h2⟩ := (R.mono s'.grow).get (getMapSome h')
            refine ⟨v, by simpa using mapSomeGet h1, ?_⟩
            rw [(show Kds.at (k0 :: List.replicate n .sh) (i + 1) = Kds.at (List.replicate n .sh) i from rfl), Kds.at_rep, if_neg (Nat.succ_ne_zero i)]
            exact Own.sh_of h2
        · cases i with
          | zero =>
            obtain ⟨d, e⟩ := E'.only 0 b h
            exact ⟨ph, rfl⟩
          | succ i => exact (by simpa using h : Non b).elim
        · cases i with
          | succ i => exact (by simpa using h1 : Non b).elim
          | zero =>
            cases l with
            | zero => rfl
            | succ l => exact (by simpa using h2 : Non b).elim
        · cases i with
          | zero => exact E'.out 0 b h
          | succ i => exact (by simpa using h : Non b).elim
      refine hq v _ P' H' G E4 ?_ ?_ o'
      · rw [all_IO]
        exact ⟨s'.keep, s'.grow, s'.newP, fun b z => s'.newM b ⟨0, z⟩, s'.dom⟩
      · rw [all_IO]
        refine ⟨fun b g => (f'.new b g).elim (fun m => ?_) id, fun b g z => f'.notM b g ⟨0, z⟩, f'.notP, f'.there⟩
        rw [allE] at m
        have hb := (hF0 b).mp m
        have h0 : δ'[0]? = some (some ph) := by
          cases δ' with
          | nil => cases eh
          | cons x r => simp at eh; simp [eh]
        obtain ⟨v1, h2, o1⟩ := E'.slot 0 ph h0
        rw [hk] at o1
        obtain ⟨e5, o1⟩ := o1
        obtain ⟨a2, e6, hF2⟩ := hk0 _ _ _ _ _ o1
        rw [e5] at e6
        cases e6
        exact (f'.notM b g ⟨0, (hF2 b).mpr hb⟩).elim
    revert q
    unfold dFnIO dFn
    cases g ((p0 :: ds).map some ++ List.replicate (N.length - (p0 :: ds).length) none) with
    | no => exact fun q => q
    | brk δ' => exact fun q => q.elim
    | cont δ' => exact fun q => q.elim
    | exn e δ' =>
      simp only
      intro q kdr _ cls dx σ' Fs' P' H' E' s' x
      exact q cls dx P' H' E'.sub ⟨s'.keep, s'.grow, s'.newP, fun _ z => z.elim, s'.dom⟩ x
    | ret d δ' =>
      intro q kdr hk v σ' Fs' P' H' G E' s' f' o'
      refine endOk hk E' s' f' o' ?_
      dsimp only at q ⊢
      revert q
      cases outsOf (k0 :: List.replicate n .sh) (p0 :: ds) δ' with
      | nil => exact fun q => q
      | cons o r =>
        cases o with
        | none => exact fun q => q
        | some p => exact fun q => q
    | next δ' =>
      intro q σ' Fs' P' H' E' s'
      cases rk with
      | sh =>
        refine endOk (v := .non) (d := .non) (hE a) E' s' Fr.non.m (Own.sh_of .non) ?_
        simp only [Kd.isSh, if_true] at q
        revert q
        cases outsOf (k0 :: List.replicate n .sh) (p0 :: ds) δ' with
        | nil => exact fun q => q
        | cons o r =>
          cases o with
          | none => exact fun q => q
          | some p => exact fun q => q
      | li k => exact q.elim
      | dc => exact q.elim
      | ob => exact q.elim
      | pin a k => exact q.elim
end
end VL

set_option Elab.async false
set_option linter.all false
set_option maxRecDepth 100000
/-! Layer V: tests, and, or, not, chains, conditional expressions, displays, subscripts, slices, fields. -/
namespace VL
open PySem PySem.Spec PyProof.Rows L2
section
variable {X : Cx} {kd : Kds} {W : L2.WX} {pos p2 : Pos}
/-! ### tests -/
def asB : D → Option Bool
  | .bl b => some b
  | _ => none
def truth : D → Option Bool
  | .non => some false
  | .bl b => some b
  | .int i => some (i != 0)
  | .str y => if y.length ≤ sizeLine then some ((y.length : Int) != 0) else none
  | .lst l => some (!l.isEmpty)
  | .tup l => some (!l.isEmpty)
  | .dct l => some (!l.isEmpty)
  | _ => none
def dTst (tr : D → Option Bool) (f : DE) : DT := fun δ => (f δ).bind fun d δ1 => match tr d with
  | some b => .ok b δ1
  | none => .no
theorem tst_rd {K : PySem.W.Frag} {mg : Str → Option Value} {tr : D → Option Bool} {R : V → Hp → Bool → Prop} (h0 : ∀ (P H : Hp) (v : V) (d : D) (b : Bool), Lie P H → Rep K mg P v d → tr d = some b → R v H b) {f : DE} {σ : L2.St} {H : Hp} {Q : Bool → Hp → Prop} (h : rdT K mg kd W (dTst tr f) σ H Q) :
    rdE K mg kd W .sh f σ H fun x H' => ∃ k, R x H' k ∧ Q k H' := by
  obtain ⟨Fs, P, δ, E, q⟩ := h
  refine ⟨Fs, P, δ, E, ?_⟩
  have q1 := bindET (k := .sh) q
  revert q1
  cases f δ with
  | no => exact fun q => q
  | exn e δ1 => exact fun q => q
  | ok d δ1 =>
    intro q1 v1 Fs1 P1 H1 G1 E1 s1 f1 o1
    obtain ⟨d', δ1', Fs1', P1', G1', E1', s1', f1', o1', q2⟩ := q1 v1 Fs1 P1 H1 G1 E1 s1 f1 o1
    cases ez : tr d' with
    | none => rw [ez] at q2; exact q2.elim
    | some b =>
      rw [ez] at q2
      exact ⟨b, h0 P1' H1 v1 d' b E1'.sub o1'.sh_rep ez, q2 _ _ _ E1' Stp.refl⟩
theorem isEmptyL {K : PySem.W.Frag} {mg : Str → Option Value} {P : Hp} {vs : List V} {ds : List D} (r : RepL K mg P vs ds) : vs.isEmpty = ds.isEmpty := by
  cases r <;> rfl
theorem truth_ok {K : PySem.W.Frag} {mg : Str → Option Value} (P H : Hp) (v : V) (d : D) (b : Bool) (s : Lie P H) (r : Rep K mg P v d) (h : truth d = some b) : TruV K v H b := by
  cases r with
  | non => cases h; rfl
  | bl k => cases h; rfl
  | int i => cases h; rfl
  | str x =>
    unfold truth at h
    by_cases q : x.length ≤ sizeLine
    · simp only [if_pos q] at h; cases h; exact ⟨q, rfl⟩
    · simp only [if_neg q] at h; cases h
  | tup hs l => cases h; exact .inr (.inl ⟨_, s.sqt hs, by rw [isEmptyL l]⟩)
  | lst hs l => cases h; exact .inl ⟨_, SqL.of (s.at hs), by rw [isEmptyL l]⟩
  | frz hs l => cases h
  | @dct a kvs es hp he l =>
    cases h
    refine .inr (.inr ⟨_, s.at hp, ?_⟩)
    have e : kvs.length = es.length := by have := congrArg List.length he; simpa using this
    cases kvs <;> cases es <;> first | rfl | (simp at e)
  | ins _ _ _ _ => cases h
  | glb _ _ => cases h
  | gh0 _ => cases h
  | ghx _ _ _ => cases h
  | ght _ => cases h
/-- a comparison as a test -/
theorem vt_cmp {a b : Expr} {f g : DE} {o : CmpOp} {r : R2} {op : D → D → Option D} (ho : OpR X (compareOp o) r) (hd : OpD X.K X.mg r .sh op) (ha : VE X kd W .sh a f) (hb : VE X kd W .sh b g) (hm : behindInMarks o b = false := by rfl) :
    VT X kd W (.Compare a [o] [b] pos) (dTst asB (dBin op f g)) :=
  PT.imp (pt_cmpR ho ha hb hm) fun σ H Q h => bin_rd hd (tst_rd (R := fun x _ k => x = .bl k) (fun P H v d b _ r e => by cases r <;> first | (cases e; done) | (cases e; rfl)) h)
/-- any other expression as a test -/
theorem vt_truth {a : Expr} {f : DE} (ha : VE X kd W .sh a f) (he : ∀ whole, isTrue a X.env whole = (do let v ← whole; standAt a.pos; holding [v] (truthy v)) := by intro _; rfl) : VT X kd W a (dTst truth f) :=
  PT.imp (pt_truth ha he) fun σ H Q h => tst_rd (R := fun x H k => TruV X.K x H k) (fun P H v d b s r e => truth_ok P H v d b s r e) h
def dAnd (f g : DT) : DT := fun δ => (f δ).bind fun b δ1 => if b = true then g δ1 else .ok false δ1
def dOr (f g : DT) : DT := fun δ => (f δ).bind fun b δ1 => if b = true then .ok true δ1 else g δ1
def dNot (f : DT) : DT := fun δ => (f δ).bind fun b δ1 => .ok (!b) δ1
theorem and_rd {K : PySem.W.Frag} {mg : Str → Option Value} {f g : DT} {σ : L2.St} {H : Hp} {Q : Bool → Hp → Prop} (h : rdT K mg kd W (dAnd f g) σ H Q) : tAnd (rdT K mg kd W f) (rdT K mg kd W g) σ H Q := by
  obtain ⟨Fs, P, δ, E, q⟩ := h
  refine ⟨Fs, P, δ, E, ?_⟩
  have q1 := bindTT q
  revert q1
  cases f δ with
  | no => exact fun q => q
  | exn e δ1 => exact fun q => q
  | ok b δ1 =>
    intro q1 Fs1 P1 H1 E1 s1
    obtain ⟨δ1', Fs1', P1', E1', s1', q2⟩ := q1 Fs1 P1 H1 E1 s1
    cases b with
    | true => exact ⟨Fs1', P1', δ1', E1', q2⟩
    | false => exact q2 _ _ _ E1' Stp.refl
theorem or_rd {K : PySem.W.Frag} {mg : Str → Option Value} {f g : DT} {σ : L2.St} {H : Hp} {Q : Bool → Hp → Prop} (h : rdT K mg kd W (dOr f g) σ H Q) : tOr (rdT K mg kd W f) (rdT K mg kd W g) σ H Q := by
  obtain ⟨Fs, P, δ, E, q⟩ := h
  refine ⟨Fs, P, δ, E, ?_⟩
  have q1 := bindTT q
  revert q1
  cases f δ with
  | no => exact fun q => q
  | exn e δ1 => exact fun q => q
  | ok b δ1 =>
    intro q1 Fs1 P1 H1 E1 s1
    obtain ⟨δ1', Fs1', P1', E1', s1', q2⟩ := q1 Fs1 P1 H1 E1 s1
    cases b with
    | false => exact ⟨Fs1', P1', δ1', E1', q2⟩
    | true => exact q2 _ _ _ E1' Stp.refl
theorem vw_and1 {a : Expr} {f : DT} (ha : VT X kd W a f) : VW X kd W (.BoolOp .And [a] pos) f := pw_and1 ha
theorem vw_or1 {a : Expr} {f : DT} (ha : VT X kd W a f) : VW X kd W (.BoolOp .Or [a] pos) f := pw_or1 ha
theorem vw_and {a b : Expr} {rest : List Expr} {f g : DT} (ha : VT X kd W a f) (hb : VW X kd W (.BoolOp .And (b :: rest) pos) g) : VW X kd W (.BoolOp .And (a :: b :: rest) pos) (dAnd f g) := PW.imp (pw_and ha hb) fun _ _ _ h => and_rd h
theorem vw_or {a b : Expr} {rest : List Expr} {f g : DT} (ha : VT X kd W a f) (hb : VW X kd W (.BoolOp .Or (b :: rest) pos) g) : VW X kd W (.BoolOp .Or (a :: b :: rest) pos) (dOr f g) := PW.imp (pw_or ha hb) fun _ _ _ h => or_rd h
theorem vt_bool {e : Expr} {f : DT} (h : VW X kd W e f) : VT X kd W e f := h.pt
theorem vt_not {a : Expr} {f : DT} (ha : VT X kd W a f) : VT X kd W (.UnaryOp .Not a pos) (dNot f) := PT.imp (pt_not ha) fun σ H Q ⟨Fs, P, δ, E, q⟩ => by
  refine ⟨Fs, P, δ, E, ?_⟩
  have q1 := bindTT q
  revert q1
  cases f δ with
  | no => exact fun q => q
  | exn e δ1 => exact fun q => q
  | ok b δ1 =>
    intro q1 Fs1 P1 H1 E1 s1
    obtain ⟨δ1', Fs1', P1', E1', s1', q2⟩ := q1 Fs1 P1 H1 E1 s1
    exact q2 _ _ _ E1' Stp.refl
/-! ### and, or, not as values -/
def dAndV (f g : DE) : DE := fun δ => (f δ).bind fun d δ1 => match truth d with
  | some true => g δ1
  | some false => .ok d δ1
  | none => .no
def dOrV (f g : DE) : DE := fun δ => (f δ).bind fun d δ1 => match truth d with
  | some true => .ok d δ1
  | some false => g δ1
  | none => .no
theorem andV_rd {K : PySem.W.Frag} {mg : Str → Option Value} {f g : DE} {σ : L2.St} {H : Hp} {Q : VK} (h : rdE K mg kd W .sh (dAndV f g) σ H Q) : tAndT K (rdE K mg kd W .sh f) (rdE K mg kd W .sh g) σ H Q := by
  obtain ⟨Fs, P, δ, E, q⟩ := h
  refine ⟨Fs, P, δ, E, ?_⟩
  have q1 := bindE (k := .sh) q
  revert q1
  cases f δ with
  | no => exact fun q => q
  | exn e δ1 => exact fun q => q
  | ok d δ1 =>
    intro q1 v1 Fs1 P1 H1 G1 E1 s1 f1 o1
    obtain ⟨d', δ1', Fs1', P1', G1', E1', s1', f1', o1', q2⟩ := q1 v1 Fs1 P1 H1 G1 E1 s1 f1 o1
    cases ez : truth d' with
    | none => rw [ez] at q2; exact q2.elim
    | some b =>
      rw [ez] at q2
      refine ⟨b, truth_ok P1' H1 v1 d' b E1'.sub o1'.sh_rep ez, ?_⟩
      cases b with
      | true => exact ⟨Fs1', P1', δ1', E1', q2⟩
      | false => exact PostE.pure E1' o1'.sh_rep q2
theorem orV_rd {K : PySem.W.Frag} {mg : Str → Option Value} {f g : DE} {σ : L2.St} {H : Hp} {Q : VK} (h : rdE K mg kd W .sh (dOrV f g) σ H Q) : tOrT K (rdE K mg kd W .sh f) (rdE K mg kd W .sh g) σ H Q := by
  obtain ⟨Fs, P, δ, E, q⟩ := h
  refine ⟨Fs, P, δ, E, ?_⟩
  have q1 := bindE (k := .sh) q
  revert q1
  cases f δ with
  | no => exact fun q => q
  | exn e δ1 => exact fun q => q
  | ok d δ1 =>
    intro q1 v1 Fs1 P1 H1 G1 E1 s1 f1 o1
    obtain ⟨d', δ1', Fs1', P1', G1', E1', s1', f1', o1', q2⟩ := q1 v1 Fs1 P1 H1 G1 E1 s1 f1 o1
    cases ez : truth d' with
    | none => rw [ez] at q2; exact q2.elim
    | some b =>
      rw [ez] at q2
      refine ⟨b, truth_ok P1' H1 v1 d' b E1'.sub o1'.sh_rep ez, ?_⟩
      cases b with
      | false => exact ⟨Fs1', P1', δ1', E1', q2⟩
      | true => exact PostE.pure E1' o1'.sh_rep q2
theorem ve_one {op} {a : Expr} {f : DE} {k : Kd} (h : VE X kd W k a f) : VE X kd W k (.BoolOp op [a] pos) f := pe_one h
theorem ve_and {a b : Expr} {rest : List Expr} {f g : DE} (ha : VE X kd W .sh a f) (hb : VE X kd W .sh (.BoolOp .And (b :: rest) pos) g) : VE X kd W .sh (.BoolOp .And (a :: b :: rest) pos) (dAndV f g) := PE.imp (pe_andT ha hb) fun _ _ _ h => andV_rd h
theorem ve_or {a b : Expr} {rest : List Expr} {f g : DE} (ha : VE X kd W .sh a f) (hb : VE X kd W .sh (.BoolOp .Or (b :: rest) pos) g) : VE X kd W .sh (.BoolOp .Or (a :: b :: rest) pos) (dOrV f g) := PE.imp (pe_orT ha hb) fun _ _ _ h => orV_rd h
def dNotV (f : DE) : DE := fun δ => (f δ).bind fun d δ1 => match truth d with
  | some b => .ok (.bl (!b)) δ1
  | none => .no
theorem ve_not {a : Expr} {f : DE} (ha : VE X kd W .sh a f) : VE X kd W .sh (.UnaryOp .Not a pos) (dNotV f) := PE.imp (pe_notT ha) fun σ H Q ⟨Fs, P, δ, E, q⟩ => by
  refine ⟨Fs, P, δ, E, ?_⟩
  have q1 := bindE (k := .sh) q
  revert q1
  cases f δ with
  | no => exact fun q => q
  | exn e δ1 => exact fun q => q
  | ok d δ1 =>
    intro q1 v1 Fs1 P1 H1 G1 E1 s1 f1 o1
    obtain ⟨d', δ1', Fs1', P1', G1', E1', s1', f1', o1', q2⟩ := q1 v1 Fs1 P1 H1 G1 E1 s1 f1 o1
    cases ez : truth d' with
    | none => rw [ez] at q2; exact q2.elim
    | some b =>
      rw [ez] at q2
      exact ⟨b, truth_ok P1' H1 v1 d' b E1'.sub o1'.sh_rep ez, PostE.pure E1' (.bl _) q2⟩
/-! ### a if t else b -/
def dIte (t : DT) (f g : DE) : DE := fun δ => (t δ).bind fun b δ1 => if b = true then f δ1 else g δ1
theorem ve_ite {k : Kd} {c a b : Expr} {t : DT} {f g : DE} (hc : VT X kd W c t) (ha : VE X kd W k a f) (hb : VE X kd W k b g) : VE X kd W k (.IfExp c a b pos) (dIte t f g) := PE.imp (pe_ifExp hc ha hb) fun σ H Q ⟨Fs, P, δ, E, q⟩ => by
  refine ⟨Fs, P, δ, E, ?_⟩
  have q1 := bindT q
  revert q1
  cases t δ with
  | no => exact fun q => q
  | exn e δ1 => exact fun q => q
  | ok b δ1 =>
    intro q1 Fs1 P1 H1 E1 s1
    obtain ⟨δ1', Fs1', P1', E1', s1', q2⟩ := q1 Fs1 P1 H1 E1 s1
    cases b with
    | true => exact ⟨Fs1', P1', δ1', E1', q2⟩
    | false => exact ⟨Fs1', P1', δ1', E1', q2⟩
/-! ### chains -/
def dChain (op op' : D → D → Option D) (f g h : DE) : DE := fun δ => (f δ).bind fun d δ1 => (g δ1).bind fun e δ2 => match op d e with
  | some (.bl true) => (h δ2).bind fun c δ3 => lift (op' e c) δ3
  | some (.bl false) => .ok (.bl false) δ2
  | _ => .no
/-- comparisons that lay nothing -/
def OpB (K : PySem.W.Frag) (mg : Str → Option Value) (r : R2) (op : D → D → Option D) : Prop :=
  ∀ (P H : Hp) (x y : V) (d e z : D) (Q : VK), Lie P H → Rep K mg P x d → Rep K mg P y e → op d e = some z → (∀ v, Rep K mg P v z → Q v H) → r x y H Q
theorem OpB.d {K : PySem.W.Frag} {mg : Str → Option Value} {r : R2} {op : D → D → Option D} (o : OpB K mg r op) : OpD K mg r .sh op := fun P H x y d e z Q s r1 r2 h k =>
  o P H x y d e z Q s r1 r2 h fun v rv => k v P H Non Stp.refl s Fr.non (Own.sh_of rv)
theorem chain_rd {K : PySem.W.Frag} {mg : Str → Option Value} {r r' : R2} {op op' : D → D → Option D} (o : OpB K mg r op) (o' : OpB K mg r' op') {f g h : DE} {σ : L2.St} {H : Hp} {Q : VK} (hh : rdE K mg kd W .sh (dChain op op' f g h) σ H Q) :
    tChain r r' (rdE K mg kd W .sh f) (rdE K mg kd W .sh g) (rdE K mg kd W .sh h) σ H Q := by
  obtain ⟨Fs, P, δ, E, q⟩ := hh
  refine ⟨Fs, P, δ, E, ?_⟩
  have q1 := bindE (k := .sh) q
  revert q1
  cases f δ with
  | no => exact fun q => q
  | exn e δ1 => exact fun q => q
  | ok d δ1 =>
    intro q1 v1 Fs1 P1 H1 G1 E1 s1 f1 o1
    obtain ⟨d', δ1', Fs1', P1', G1', E1', s1', f1', o1', q2⟩ := q1 v1 Fs1 P1 H1 G1 E1 s1 f1 o1
    refine ⟨Fs1', P1', δ1', E1', ?_⟩
    have q3 := bindE (k := .sh) q2
    revert q3
    cases g δ1' with
    | no => exact fun q => q
    | exn e δ1 => exact fun q => q
    | ok e δ2 =>
      intro q3 v2 Fs2 P2 H2 G2 E2 s2 f2 o2
      obtain ⟨e', δ2', Fs2', P2', G2', E2', s2', f2', o2', q4⟩ := q3 v2 Fs2 P2 H2 G2 E2 s2 f2 o2
      cases ez : op d' e' with
      | none => rw [ez] at q4; exact q4.elim
      | some z =>
        rw [ez] at q4
        refine o P2' H2 v1 v2 d' e' z _ E2'.sub (o1'.sh_rep.mono s2'.grow) o2'.sh_rep ez fun v rv => ?_
        cases z with
        | bl b =>
          cases rv with
          | bl _ =>
            refine ⟨b, rfl, ?_⟩
            cases b with
            | false => exact PostE.pure E2' (.bl false) q4
            | true =>
              refine ⟨Fs2', P2', δ2', E2', ?_⟩
              have q5 := bindE (k := .sh) q4
              revert q5
              cases h δ2' with
              | no => exact fun q => q
              | exn e δ1 => exact fun q => q
              | ok c δ3 =>
                intro q5 v3 Fs3 P3 H3 G3 E3 s3 f3 o3
                obtain ⟨c', δ3', Fs3', P3', G3', E3', s3', f3', o3', q6⟩ := q5 v3 Fs3 P3 H3 G3 E3 s3 f3 o3
                unfold lift at q6
                cases ez2 : op' e' c' with
                | none => rw [ez2] at q6; exact q6.elim
                | some z2 =>
                  rw [ez2] at q6
                  exact o' P3' H3 v2 v3 e' c' z2 _ E3'.sub (o2'.sh_rep.mono s3'.grow) o3'.sh_rep ez2 fun v rv => PostE.pure E3' rv q6
        | non => exact q4.elim
        | int _ => exact q4.elim
        | str _ => exact q4.elim
        | tup _ => exact q4.elim
        | lst _ => exact q4.elim
        | dct _ => exact q4.elim
        | ins _ _ => exact q4.elim
        | glb _ => exact q4.elim
        | gh _ _ => exact q4.elim
        | frz _ => exact q4.elim
end
end VL

set_option Elab.async false
set_option linter.all false
set_option maxRecDepth 100000
/-! Layer V: operators on data. -/
namespace VL
open PySem PySem.Spec PyProof.Rows L2
section
variable {K : PySem.W.Frag} {mg : Str → Option Value}
/-! ### new objects -/
theorem Lie.new {P H : Hp} {p : Addr} {o : HO} (s : Lie P H) (h : H p = none) : Lie P (upd H p o) := s.ext fun a u e => by
  rw [upd_ne (fun z => by subst z; rw [h] at e; cases e)]; exact e
theorem Lie.put {P H : Hp} {p : Addr} {o : HO} (s : Lie P H) (h : H p = some o) (nt : NoTb o) : Lie (upd P p o) H := fun a u e => by
  by_cases q : a = p
  · subst q; rw [upd_same] at e; cases e; exact .inl ⟨h, nt⟩
  · rw [upd_ne q] at e; exact s _ _ e
theorem alloc_sh {P H : Hp} {p : Addr} {o : HO} (s : Lie P H) (h : H p = none) (nt : NoTb o := by intro _ z; cases z) : Stp Non P H Non (upd P p o) (upd H p o) ∧ Lie (upd P p o) (upd H p o) := by
  have hp : P p = none := s.free h
  refine ⟨⟨fun a u e _ _ => ?_, fun a u e => ?_, fun a u e => ?_, fun _ z => z.elim, fun a u e => ?_⟩, (s.new h).put upd_same nt⟩
  · rw [upd_ne (fun z => by subst z; rw [h] at e; cases e)]; exact e
  · rw [upd_ne (fun z => by subst z; rw [hp] at e; cases e)]; exact e
  · by_cases q : a = p
    · subst q; exact .inr (.inl h)
    · rw [upd_ne q] at e; exact .inl e
  · by_cases q : a = p
    · subst q; exact ⟨_, upd_same⟩
    · rw [upd_ne q]; exact ⟨u, e⟩
theorem alloc_ow {P H : Hp} {p : Addr} {o : HO} (s : Lie P H) (h : H p = none) : Stp Non P H Non P (upd H p o) ∧ Lie P (upd H p o) ∧ Fr (fun a => a = p) H Non P (upd H p o) := by
  have hp : P p = none := s.free h
  refine ⟨⟨fun a u e _ _ => ?_, Sub.refl _, fun a u e => .inl e, fun _ z => z.elim, fun a u e => ?_⟩, s.new h, ⟨fun a e => by rw [e]; exact h, fun _ _ z => z, fun a e => by rw [e]; exact hp, fun a e => ⟨o, by rw [e]; exact upd_same⟩⟩⟩
  · rw [upd_ne (fun z => by subst z; rw [h] at e; cases e)]; exact e
  · by_cases q : a = p
    · subst q; exact ⟨_, upd_same⟩
    · rw [upd_ne q]; exact ⟨u, e⟩
/-- a new list of shared items is owned -/
theorem own_new {P H : Hp} {p : Addr} {vs : List V} {ds : List D} (r : RepL K mg P vs ds) : Own K mg (.li .sh) (fun a => a = p) P (upd H p (.lst vs)) (.ref p) (.lst ds) :=
  ⟨p, vs, ds, fun _ => Non, rfl, rfl, upd_same, r.length, fun j v d h1 h2 => by
    obtain ⟨v', h3, r'⟩ := r.get h2
    rw [h1] at h3; cases h3
    exact Own.sh_of r', fun _ _ _ z => z.elim, fun _ _ z => z.elim, fun b => ⟨fun e => .inl e, fun e => e.elim id fun ⟨_, z⟩ => z.elim⟩⟩
abbrev Cont (K : PySem.W.Frag) (mg : Str → Option Value) (P H : Hp) (k : Kd) (z : D) (Q : VK) : Prop := ∀ (v : V) (P' H' : Hp) (G : AS), Stp Non P H Non P' H' → Lie P' H' → Fr G H Non P' H' → Own K mg k G P' H' v z → Q v H'
theorem Cont.val {P H : Hp} {z : D} {Q : VK} (c : Cont K mg P H .sh z Q) (s : Lie P H) {v : V} (r : Rep K mg P v z) : Q v H := c v P H Non Stp.refl s Fr.non (Own.sh_of r)
theorem Cont.lst {P H : Hp} {ds : List D} {Q : VK} (c : Cont K mg P H (.li .sh) (.lst ds) Q) (s : Lie P H) {vs : List V} (r : RepL K mg P vs ds) {p : Addr} (h : H p = none) : Q (.ref p) (upd H p (.lst vs)) := by
  obtain ⟨h1, h2, h3⟩ := alloc_ow (o := .lst vs) s h
  exact c _ _ _ _ h1 h2 h3 (own_new r)
theorem Cont.tup {P H : Hp} {ds : List D} {Q : VK} (c : Cont K mg P H .sh (.tup ds) Q) (s : Lie P H) {vs : List V} (r : RepL K mg P vs ds) {p : Addr} (h : H p = none) : Q (.ref p) (upd H p (.tup vs)) := by
  obtain ⟨h1, h2⟩ := alloc_sh (o := .tup vs) s h
  exact c _ _ _ Non h1 h2 Fr.non (Own.sh_of (.tup (.inl (.inl upd_same)) (r.mono h1.grow)))

/-! ### + - * // % ** -/
def addD : D → D → Option D
  | .int i, .int j => some (.int (i + j))
  | .str x, .str y => if x.length + y.length ≤ sizeLine then some (.str (x ++ y)) else none
  | .tup a, .tup b => if a.length + b.length ≤ sizeLine then some (.tup (a ++ b)) else none
  | _, _ => none
def rAdd3 (K : PySem.W.Frag) : R2 := fun x y H Q => (∃ i j, x = V.int i ∧ y = V.int j ∧ Q (.int (i + j)) H) ∨ (∃ i j, x = V.str i ∧ y = V.str j ∧ i.length + j.length ≤ sizeLine ∧ Q (.str (i ++ j)) H) ∨ rCatA K x y H Q
theorem op_add3 {X : Cx} : OpR X (binaryOp .Add) (rAdd3 X.K) := op_add.or (op_add_str.or op_catA)
theorem d_add : OpD K mg (rAdd3 K) .sh addD := by
  intro P H x y d e z Q s r1 r2 h c
  unfold addD at h
  cases r1 with
  | int i =>
    cases r2 with
    | int j => cases h; exact .inl ⟨i, j, rfl, rfl, Cont.val c s (.int _)⟩
    | _ => cases h
  | str i =>
    cases r2 with
    | str j =>
      by_cases q : i.length + j.length ≤ sizeLine
      · simp only [if_pos q] at h; cases h; exact .inr (.inl ⟨i, j, rfl, rfl, q, Cont.val c s (.str _)⟩)
      · simp only [if_neg q] at h; cases h
    | _ => cases h
  | @tup a vs ds h1 l1 =>
    cases r2 with
    | @tup b ws es h2 l2 =>
      by_cases q : ds.length + es.length ≤ sizeLine
      · simp only [if_pos q] at h; cases h
        have e1 := l1.length
        have e2 := l2.length
        refine .inr (.inr ⟨a, b, vs, ws, rfl, rfl, s.sqt h1, s.sqt h2, by omega, fun z => ?_, fun _ z => ?_, fun _ _ p hp => Cont.tup c s (l1.append l2) hp⟩)
        · subst z
          cases l1
          exact Cont.val c s (.tup h2 l2)
        · subst z
          cases l2
          rw [List.append_nil] at c
          exact Cont.val c s (.tup h1 l1)
      · simp only [if_neg q] at h; cases h
    | _ => cases h
  | _ => cases h
def catD : D → D → Option D
  | .lst a, .lst b => if a.length + b.length ≤ sizeLine then some (.lst (a ++ b)) else none
  | _, _ => none
theorem SqL.tracked {P : Hp} {a : Addr} {vs : List V} (h : P a = some (.lst vs)) : SqL K P a vs := .inl (.inl h)
/-- -, * of ints, of a list and an int -/
def subD : D → D → Option D
  | .int i, .int j => some (.int (i - j))
  | _, _ => none
theorem d_sub : OpD K mg (rI0 fun i j => .int (i - j)) .sh subD := by
  intro P H x y d e z Q s r1 r2 h c
  unfold subD at h
  cases r1 with
  | int i =>
    cases r2 with
    | int j => cases h; exact ⟨i, j, rfl, rfl, Cont.val c s (.int _)⟩
    | _ => cases h
  | _ => cases h
def mulD : D → D → Option D
  | .int i, .int j => if i.natAbs.log2 + j.natAbs.log2 < 1000000 then some (.int (i * j)) else none
  | _, _ => none
theorem d_mul : OpD K mg (rI CMulW fun i j => .int (i * j)) .sh mulD := by
  intro P H x y d e z Q s r1 r2 h c
  unfold mulD at h
  cases r1 with
  | int i =>
    cases r2 with
    | int j =>
      by_cases q : i.natAbs.log2 + j.natAbs.log2 < 1000000
      · simp only [if_pos q] at h; cases h; exact ⟨i, j, rfl, rfl, q, Cont.val c s (.int _)⟩
      · simp only [if_neg q] at h; cases h
    | _ => cases h
  | _ => cases h
/-- // by a positive number below 2 ^ 9000, % by any number but 0 -/
def divD : D → D → Option D
  | .int i, .int j => if 0 < j ∧ j.natAbs.log2 < 9000 then some (.int (i / j)) else none
  | _, _ => none
theorem d_div : OpD K mg (rI CDivW fun i j => .int (i / j)) .sh divD := by
  intro P H x y d e z Q s r1 r2 h c
  unfold divD at h
  cases r1 with
  | int i =>
    cases r2 with
    | int j =>
      by_cases q : 0 < j ∧ j.natAbs.log2 < 9000
      · simp only [if_pos q] at h; cases h; exact ⟨i, j, rfl, rfl, q, Cont.val c s (.int _)⟩
      · simp only [if_neg q] at h; cases h
    | _ => cases h
  | _ => cases h
def modD : D → D → Option D
  | .int i, .int j => if 0 < j then some (.int (i % j)) else none
  | _, _ => none
theorem d_mod : OpD K mg (rI (fun _ j => 0 < j) fun i j => .int (i % j)) .sh modD := by
  intro P H x y d e z Q s r1 r2 h c
  unfold modD at h
  cases r1 with
  | int i =>
    cases r2 with
    | int j =>
      by_cases q : 0 < j
      · simp only [if_pos q] at h; cases h; exact ⟨i, j, rfl, rfl, q, Cont.val c s (.int _)⟩
      · simp only [if_neg q] at h; cases h
    | _ => cases h
  | _ => cases h
def powD : D → D → Option D
  | .int i, .int j => if 0 ≤ j ∧ j ≤ 1000000 ∧ i.natAbs < 2 ^ 64 then some (.int (i ^ j.toNat)) else none
  | _, _ => none
theorem d_pow : OpD K mg (rI CPow fun i j => .int (i ^ j.toNat)) .sh powD := by
  intro P H x y d e z Q s r1 r2 h c
  unfold powD at h
  cases r1 with
  | int i =>
    cases r2 with
    | int j =>
      by_cases q : 0 ≤ j ∧ j ≤ 1000000 ∧ i.natAbs < 2 ^ 64
      · simp only [if_pos q] at h; cases h; exact ⟨i, j, rfl, rfl, q, Cont.val c s (.int _)⟩
      · simp only [if_neg q] at h; cases h
    | _ => cases h
  | _ => cases h
def negD : D → Option D
  | .int i => some (.int (-i))
  | _ => none
theorem d_neg : UnD K mg (rU fun i => .int (-i)) .sh negD := by
  intro P H x d z Q s r1 h c
  unfold negD at h
  cases r1 with
  | int i => cases h; exact ⟨i, rfl, Cont.val c s (.int _)⟩
  | _ => cases h
/-! ### < <= > >= of ints -/
def cmpD (p : Int → Int → Bool) : D → D → Option D
  | .int i, .int j => some (.bl (p i j))
  | _, _ => none
theorem b_cmp (p : Int → Int → Bool) : OpB K mg (rI0 fun i j => .bl (p i j)) (cmpD p) := by
  intro P H x y d e z Q s r1 r2 h c
  unfold cmpD at h
  cases r1 with
  | int i =>
    cases r2 with
    | int j => cases h; exact ⟨i, j, rfl, rfl, c _ (.bl _)⟩
    | _ => cases h
  | _ => cases h
abbrev ltD := cmpD fun i j => decide (i < j)
abbrev leD := cmpD fun i j => decide (i ≤ j)
abbrev gtD := cmpD fun i j => decide (j < i)
abbrev geD := cmpD fun i j => decide (j ≤ i)
/-! ### data -/
mutual
def toPy : D → PyData
  | .non => .none
  | .bl b => .bool b
  | .int i => .int i
  | .str x => .str x
  | .lst l => .list (toPyL l)
  | .tup l => .tuple (toPyL l)
  | .dct _ => .none
  | .ins _ _ => .none
  | .glb _ => .none
  | .gh _ _ => .none
  | .frz _ => .none
def toPyL : List D → List PyData
  | [] => []
  | d :: l => toPy d :: toPyL l
end
mutual
/-- plain data: no dict, no instance, no function; texts of a length that can be -/
def plain : D → Bool
  | .non => true
  | .bl _ => true
  | .int _ => true
  | .str x => PyData.canLay0 (.str x)
  | .lst l => plainL l
  | .tup l => plainL l
  | .dct _ => false
  | .ins _ _ => false
  | .glb _ => false
  | .gh _ _ => false
  | .frz _ => false
def plainL : List D → Bool
  | [] => true
  | d :: l => plain d && plainL l
end
mutual
def depth : D → Nat
  | .lst l => depthL l + 1
  | .tup l => depthL l + 1
  | _ => 0
def depthL : List D → Nat
  | [] => 0
  | d :: l => max (depth d) (depthL l)
end
mutual
theorem dp_of {P H : Hp} (s : Lie P H) : ∀ {d : D} {v : V}, plain d = true → Rep K mg P v d → Dp K H v (toPy d)
  | .non, _, _, .non => .non
  | .bl b, _, _, .bl _ => .bl b
  | .int i, _, _, .int _ => .int i
  | .str x, _, _, .str _ => .str x
  | .lst l, _, h, .lst h1 l1 => .lst (SqL.of (s.at h1)) (dpAll_of s (by simpa [plain] using h) l1)
  | .tup l, _, h, .tup h1 l1 => .tup (s.sqt h1) (dpAll_of s (by simpa [plain] using h) l1)
  | .dct _, _, h, _ => by simp [plain] at h
  | .ins _ _, _, h, _ => by simp [plain] at h
  | .glb _, _, h, _ => by simp [plain] at h
  | .gh _ _, _, h, _ => by simp [plain] at h
  | .frz _, _, h, _ => by simp [plain] at h
theorem dpAll_of {P H : Hp} (s : Lie P H) : ∀ {l : List D} {vs : List V}, plainL l = true → RepL K mg P vs l → DpAll K H vs (toPyL l)
  | [], _, _, .nil => .nil
  | d :: l, _, h, .cons r1 r2 => .cons (dp_of s (by simp [plainL] at h; exact h.1) r1) (dpAll_of s (by simp [plainL] at h; exact h.2) r2)
end
mutual
theorem canLay_of_plain : ∀ d : D, plain d = true → (toPy d).canLay0 = true
  | .non, _ => by simp [toPy, PyData.canLay0]
  | .bl _, _ => by simp [toPy, PyData.canLay0]
  | .int _, _ => by simp [toPy, PyData.canLay0]
  | .str x, h => by simpa [toPy, plain] using h
  | .lst l, h => by simp only [toPy, PyData.canLay0]; exact canLayL_of_plain l (by simpa [plain] using h)
  | .tup l, h => by simp only [toPy, PyData.canLay0]; exact canLayL_of_plain l (by simpa [plain] using h)
  | .dct _, h => by simp [plain] at h
  | .ins _ _, h => by simp [plain] at h
  | .glb _, h => by simp [plain] at h
  | .gh _ _, h => by simp [plain] at h
  | .frz _, h => by simp [plain] at h
theorem canLayL_of_plain : ∀ l : List D, plainL l = true → PyData.canLayAll0 (toPyL l) = true
  | [], _ => by simp [toPyL, PyData.canLayAll0]
  | d :: l, h => by
    simp [plainL] at h
    simp [toPyL, PyData.canLayAll0, canLay_of_plain d h.1, canLayL_of_plain l h.2]
end
mutual
theorem depth_py : ∀ d : D, (toPy d).depth = depth d
  | .non => by simp [toPy, PyData.depth, depth]
  | .bl _ => by simp [toPy, PyData.depth, depth]
  | .int _ => by simp [toPy, PyData.depth, depth]
  | .str x => by simp [toPy, PyData.depth, depth]
  | .lst l => by simp [toPy, PyData.depth, depth, depthL_py l]
  | .tup l => by simp [toPy, PyData.depth, depth, depthL_py l]
  | .dct _ => by simp [toPy, PyData.depth, depth]
  | .ins _ _ => by simp [toPy, PyData.depth, depth]
  | .glb _ => by simp [toPy, PyData.depth, depth]
  | .gh _ _ => by simp [toPy, PyData.depth, depth]
  | .frz _ => by simp [toPy, PyData.depth, depth]
theorem depthL_py : ∀ l : List D, PyData.depthAll (toPyL l) = depthL l
  | [] => by simp [toPyL, PyData.depthAll, depthL]
  | d :: l => by simp [toPyL, PyData.depthAll, depthL, depth_py d, depthL_py l]
end
def okD (d : D) : Bool := plain d && decide (depth d ≤ 64)
theorem shaped_of {d : D} (h : okD d = true) : SeqAt.shaped (toPy d) = true := by
  unfold okD at h
  rw [Bool.and_eq_true] at h
  show ((toPy d).canLay0 && decide ((toPy d).depth ≤ 64)) = true
  rw [Bool.and_eq_true, depth_py]
  exact ⟨canLay_of_plain d h.1, h.2⟩
/-- == of data -/
def eqv (d e : D) : Bool := PyData.eqv (toPy d) (toPy e)
def eqD (neg : Bool) (d e : D) : Option D := if okD d = true ∧ okD e = true then some (.bl (if neg then !eqv d e else eqv d e)) else none
theorem b_eq : OpB K mg (rEqD K) (eqD false) := by
  intro P H x y d e z Q s r1 r2 h c
  unfold eqD at h
  by_cases q : okD d = true ∧ okD e = true
  · rw [if_pos q] at h
    have p1 : plain d = true := by have := q.1; unfold okD at this; rw [Bool.and_eq_true] at this; exact this.1
    have p2 : plain e = true := by have := q.2; unfold okD at this; rw [Bool.and_eq_true] at this; exact this.1
    cases h
    exact ⟨toPy d, toPy e, dp_of s p1 r1, dp_of s p2 r2, shaped_of q.1, shaped_of q.2, c _ (.bl _)⟩
  · rw [if_neg q] at h; cases h
theorem b_ne : OpB K mg (rNeD K) (eqD true) := by
  intro P H x y d e z Q s r1 r2 h c
  unfold eqD at h
  by_cases q : okD d = true ∧ okD e = true
  · rw [if_pos q] at h
    have p1 : plain d = true := by have := q.1; unfold okD at this; rw [Bool.and_eq_true] at this; exact this.1
    have p2 : plain e = true := by have := q.2; unfold okD at this; rw [Bool.and_eq_true] at this; exact this.1
    cases h
    exact ⟨toPy d, toPy e, dp_of s p1 r1, dp_of s p2 r2, shaped_of q.1, shaped_of q.2, c _ (.bl _)⟩
  · rw [if_neg q] at h; cases h
/-- in, not in: an item of a list -/
def inD (neg : Bool) (d e : D) : Option D := match e with
  | .lst l => if okD d = true ∧ okD (.lst l) = true then some (.bl (if neg then !(l.any fun z => eqv z d) else l.any fun z => eqv z d)) else none
  | _ => none
theorem any_py (d : D) : ∀ l : List D, ((toPyL l).any fun z => PyData.eqv z (toPy d)) = l.any fun z => eqv z d
  | [] => rfl
  | x :: l => by simp only [toPyL, List.any_cons, any_py d l, eqv]
theorem plain_of {d : D} (h : okD d = true) : plain d = true := by unfold okD at h; rw [Bool.and_eq_true] at h; exact h.1
theorem b_in : OpB K mg (rInD K) (inD false) := by
  intro P H x y d e z Q s r1 r2 h c
  unfold inD at h
  cases r2 with
  | @lst a vs l h1 l1 =>
    by_cases q : okD d = true ∧ okD (.lst l) = true
    · simp only [if_pos q] at h
      cases h
      have e2 : Dp K H (.ref a) (.list (toPyL l)) := by have := dp_of s (plain_of q.2) (.lst h1 l1 : Rep K mg P (.ref a) (.lst l)); simpa [toPy] using this
      have e3 : SeqAt.shaped (.list (toPyL l)) = true := by have := shaped_of q.2; simpa [toPy] using this
      refine ⟨toPy d, toPyL l, dp_of s (plain_of q.1) r1, e2, shaped_of q.1, e3, ?_⟩
      rw [any_py]
      exact c _ (.bl _)
    · simp only [if_neg q] at h; cases h
  | _ => cases h
theorem b_notin : OpB K mg (rNotInD K) (inD true) := by
  intro P H x y d e z Q s r1 r2 h c
  unfold inD at h
  cases r2 with
  | @lst a vs l h1 l1 =>
    by_cases q : okD d = true ∧ okD (.lst l) = true
    · simp only [if_pos q] at h
      cases h
      have e2 : Dp K H (.ref a) (.list (toPyL l)) := by have := dp_of s (plain_of q.2) (.lst h1 l1 : Rep K mg P (.ref a) (.lst l)); simpa [toPy] using this
      have e3 : SeqAt.shaped (.list (toPyL l)) = true := by have := shaped_of q.2; simpa [toPy] using this
      refine ⟨toPy d, toPyL l, dp_of s (plain_of q.1) r1, e2, shaped_of q.1, e3, ?_⟩
      rw [any_py]
      exact c _ (.bl _)
    · simp only [if_neg q] at h; cases h
  | _ => cases h
/-- is None, is not None -/
def isND (neg : Bool) : D → D → Option D
  | .non, .non => some (.bl (!neg))
  | .glb _, .non => none
  | .gh _ _, .non => none
  | _, .non => some (.bl neg)
  | _, _ => none
end
end VL

set_option Elab.async false
set_option linter.all false
set_option maxRecDepth 100000
/-! Layer V: targets, iterables, for, comprehensions, while. -/
namespace VL
open PySem PySem.Spec PyProof.Rows L2
section
variable (K : PySem.W.Frag) (mg : Str → Option Value) (kd : Kds) (W : WX)
/-- an iterable that gives just xs, as long as what is shared at P0 stays -/
def ItOk (J : It) (P0 : Hp) (xs : List D) : Prop := ∀ (i : Nat) (P H : Hp), Sub P0 P → Lie P H →
  (∀ d, xs[i]? = some d → J.go i H ∧ ∀ (x : V) (H' : Hp), J.yld i H x H' → ∃ P', Stp Non P H Non P' H' ∧ Lie P' H' ∧ Rep K mg P' x d) ∧ (xs.length ≤ i → J.stop i H)
def PostI (σ : L2.St) (Fs : Nat → AS) (P H : Hp) (R : It → Hp → Prop) : Res (List D) → Prop
  | .ok xs δ' => ∀ (J : It) (Fs' : Nat → AS) (P' H' : Hp), EnvR K mg kd Fs' P' H' σ δ' → Stp (All Fs) P H (All Fs') P' H' → ItOk K mg J P' xs → R J H'
  | .exn e δ' => ∀ (cls : Value) (dx : Option Addr) (Fs' : Nat → AS) (P' H' : Hp), EnvR K mg kd Fs' P' H' σ δ' → Stp (All Fs) P H (All Fs') P' H' → ExR K mg P' cls dx e → W cls dx σ H'
  | .no => False
def rdI (f : DA) : TI := fun σ H R => ∃ (Fs : Nat → AS) (P : Hp) (δ : Env), EnvR K mg kd Fs P H σ δ ∧ PostI K mg kd W σ Fs P H R (f δ)
def rdG (ws : List Nat) (s : D → Env → Option Env) : TG := fun v σ H Q => ∃ (Fs : Nat → AS) (P : Hp) (δ : Env) (d : D), EnvR K mg kd Fs P H σ δ ∧ Rep K mg P v d ∧ match s d δ with
  | some δ' => ∀ σ', EnvR K mg kd Fs P H σ' δ' → L2.wipe σ' ws = L2.wipe σ ws → Q σ' H
  | none => False
def rdGs (ws : List Nat) (s : List D → Env → Option Env) : TGs := fun vs σ H Q => ∃ (Fs : Nat → AS) (P : Hp) (δ : Env) (ds : List D), EnvR K mg kd Fs P H σ δ ∧ RepL K mg P vs ds ∧ match s ds δ with
  | some δ' => ∀ σ', EnvR K mg kd Fs P H σ' δ' → L2.wipe σ' ws = L2.wipe σ ws → Q σ' H
  | none => False
end
abbrev VI (X : Cx) (kd : Kds) (W : WX) (tg iter : Expr) (f : DA) : Prop := PI X tg iter (rdI X.K X.mg kd W f)
abbrev VG (X : Cx) (kd : Kds) (ws : List Nat) (tg : Expr) (s : D → Env → Option Env) : Prop := PG X tg (rdG X.K X.mg kd ws s)
abbrev VGs (X : Cx) (kd : Kds) (ws : List Nat) (tg : List Expr) (s : List D → Env → Option Env) : Prop := PGs X tg (rdGs X.K X.mg kd ws s)
theorem PG.imp {X : Cx} {e : Expr} {t t' : TG} (h : PG X e t) (i : ∀ v σ H Q, t' v σ H Q → t v σ H Q) : PG X e t' := ⟨fun pins s σ H v u Q I r q => h.run pins s σ H v u Q I r (i v σ H Q q)⟩
theorem PGs.imp {X : Cx} {e : List Expr} {t t' : TGs} (h : PGs X e t) (i : ∀ v σ H Q, t' v σ H Q → t v σ H Q) : PGs X e t' := ⟨fun pins s σ H v u Q I r q => h.run pins s σ H v u Q I r (i v σ H Q q)⟩
theorem PI.imp {X : Cx} {tg e : Expr} {t t' : TI} (h : PI X tg e t) (i : ∀ σ H R, t' σ H R → t σ H R) : PI X tg e t' := ⟨fun pins s σ H R I q => h.run pins s σ H R I (i σ H R q)⟩

/-! ### targets -/
def gV (i : Nat) : D → Env → Option Env := fun d δ => some (δ.set i (some d))
def gT (n : Nat) (s : List D → Env → Option Env) : D → Env → Option Env := fun d δ => match d with
  | .tup ds => if ds.length = n then s ds δ else none
  | _ => none
def gN : List D → Env → Option Env := fun ds δ => match ds with
  | [] => some δ
  | _ => none
def gC (s : D → Env → Option Env) (t : List D → Env → Option Env) : List D → Env → Option Env := fun ds δ => match ds with
  | d :: r => (s d δ).bind fun δ1 => t r δ1
  | [] => none
theorem set_same {kd : Kds} {i : Nat} {k : Kd} (hl : i < kd.length) (h : kd.at i = k) : kd.set i k = kd := by
  apply List.ext_getElem?
  intro j
  by_cases q : j = i
  · subst q
    rw [List.getElem?_set_self hl]
    unfold Kds.at at h
    rw [List.getD_eq_getElem?_getD, List.getElem?_eq_getElem hl] at h
    rw [List.getElem?_eq_getElem hl, ← h]; rfl
  · rw [List.getElem?_set_ne (Ne.symm q)]
section
variable {X : Cx} {kd : Kds} {W : WX} {pos : Pos}
theorem EnvR.setV {K : PySem.W.Frag} {mg : Str → Option Value} {Fs : Nat → AS} {P H : Hp} {σ : L2.St} {δ : Env} {i : Nat} {v : V} {d : D} (E : EnvR K mg kd Fs P H σ δ) (hl : i < kd.length) (hk : kd.at i = .sh) (r : Rep K mg P v d) :
    EnvR K mg kd Fs P H (σ.set i (some v)) (δ.set i (some d)) := by
  have h := E.set (k := .sh) (G := Non) (H0 := H) hl Fr.non (Own.sh_of r)
  rw [set_same hl hk] at h
  have e : upF Fs i Non = Fs := by
    funext j
    by_cases q : j = i
    · subst q
      rw [upF_same]
      funext a
      refine propext ⟨fun z => z.elim, fun z => ?_⟩
      obtain ⟨d, e⟩ := E.only j a z
      obtain ⟨v, _, o⟩ := E.slot j d e
      rw [hk] at o
      exact o.1 a z
    · exact upF_ne q
  rw [e] at h
  exact h
theorem wipe_set {τ : L2.St} {i : Nat} {o : Option V} : ∀ {ws : List Nat}, i ∈ ws → L2.wipe (τ.set i o) ws = L2.wipe τ ws
  | w :: ws, h => by
    unfold L2.wipe
    by_cases q : i ∈ ws
    · rw [wipe_set q]
    · have e : i = w := (List.mem_cons.mp h).resolve_right q
      subst e
      apply List.ext_getElem?
      intro j
      by_cases z : j = i
      · subst z
        by_cases hl : j < τ.length
        · rw [List.getElem?_set_self (by rw [L2.wipe_length, List.length_set]; exact hl), List.getElem?_set_self (by rw [L2.wipe_length]; exact hl)]
        · rw [List.getElem?_eq_none (by rw [List.length_set, L2.wipe_length, List.length_set]; omega), List.getElem?_eq_none (by rw [List.length_set, L2.wipe_length]; omega)]
      · rw [List.getElem?_set_ne (Ne.symm z), List.getElem?_set_ne (Ne.symm z)]
        have key : ∀ ws : List Nat, (L2.wipe (τ.set i o) ws)[j]? = (L2.wipe τ ws)[j]? := by
          intro ws
          induction ws with
          | nil => show (τ.set i o)[j]? = τ[j]?; rw [List.getElem?_set_ne (Ne.symm z)]
          | cons a r ih =>
            unfold L2.wipe
            by_cases y : j = a
            · subst y
              by_cases hl : j < τ.length
              · rw [List.getElem?_set_self (by rw [L2.wipe_length, List.length_set]; exact hl), List.getElem?_set_self (by rw [L2.wipe_length]; exact hl)]
              · rw [List.getElem?_eq_none (by rw [List.length_set, L2.wipe_length, List.length_set]; omega), List.getElem?_eq_none (by rw [List.length_set, L2.wipe_length]; omega)]
            · rw [List.getElem?_set_ne (Ne.symm y), List.getElem?_set_ne (Ne.symm y)]
              exact ih
        exact key ws
theorem vg_name {ws : List Nat} (i : Nat) {x : Str} (hN : X.N.Nodup) (hk : kd.at i = .sh := by rfl) (hl : i < kd.length := by exact Nat.le_of_ble_eq_true rfl) (hi : X.N[i]? = some x := by rfl) (hx : Loc X.env.scope x := by first | exact Or.inl rfl | exact Or.inr rfl)
    (hf : X.fn x = true ∨ X.env.scope.names.lookup x = some .local := by first | exact .inl rfl | exact .inr rfl | assumption) (hw : i ∈ ws := by decide) : VG X kd ws (.Name x pos) (gV i) :=
  PG.imp (pg_name hN hi hx hf) fun v σ H Q ⟨Fs, P, δ, d, E, r, q⟩ => q _ (E.setV hl hk r) (wipe_set hw)
theorem vgs_nil {ws : List Nat} : VGs X kd ws [] gN := PGs.imp pgs_nil fun v σ H Q ⟨Fs, P, δ, ds, E, r, q⟩ => by
  cases r with
  | nil => exact ⟨rfl, q σ E rfl⟩
  | cons _ _ => exact q.elim
theorem vgs_cons {ws : List Nat} {e : Expr} {es : List Expr} {s : D → Env → Option Env} {t : List D → Env → Option Env} (h1 : VG X kd ws e s) (h2 : VGs X kd ws es t) (c : PGs X (e :: es) (gCons (rdG X.K X.mg kd ws s) (rdGs X.K X.mg kd ws t))) : VGs X kd ws (e :: es) (gC s t) := PGs.imp c fun v σ H Q ⟨Fs, P, δ, ds, E, r, q⟩ => by
  cases r with
  | nil => exact q.elim
  | @cons v d vs ds r1 r2 =>
    refine ⟨_, _, rfl, Fs, P, δ, d, E, r1, ?_⟩
    unfold gC at q
    cases e1 : s d δ with
    | none => simp only [e1] at q; exact q.elim
    | some δ1 =>
      simp only [e1] at q
      intro σ' E' w'
      refine ⟨Fs, P, δ1, ds, E', r2, ?_⟩
      simp only [Option.bind_some] at q
      revert q
      cases t ds δ1 with
      | none => exact fun q => q
      | some δ2 => exact fun q σ2 E2 w2 => q σ2 E2 (w2.trans w')
theorem vg_tup {ws : List Nat} {es : List Expr} {k : Nat} {n : Nat} {t : List D → Env → Option Env} (c : PG X (.Tuple es k pos) (gTup X.K n (rdGs X.K X.mg kd ws t))) : VG X kd ws (.Tuple es k pos) (gT n t) := PG.imp c fun v σ H Q ⟨Fs, P, δ, d, E, r, q⟩ => by
  unfold gT at q
  cases r with
  | @tup a vs ds h1 l1 =>
    by_cases hn : ds.length = n
    · simp only [if_pos hn] at q
      exact ⟨a, vs, rfl, E.sub.sqt h1, by rw [l1.length]; exact hn, Fs, P, δ, ds, E, l1, q⟩
    · simp only [if_neg hn] at q
  | _ => exact q.elim
end
/-! ### what is walked -/
def itemsD : D → Option (List D)
  | .lst l => some l
  | .tup l => some l
  | .frz l => some l
  | _ => none
section
variable {K : PySem.W.Frag} {mg : Str → Option Value}
theorem itOk_list {a : Addr} {P0 : Hp} {vs : List V} {ds : List D} (h : SqL K P0 a vs) (r : RepL K mg P0 vs ds) : ItOk K mg (Itl K a) P0 ds := fun i P H s1 s2 => by
  have hq : SqL K H a vs := (s1.lie s2).sql h
  refine ⟨fun d e => ?_, fun hl => ⟨vs, hq, by rw [r.length]; exact hl⟩⟩
  obtain ⟨v, hv, rv⟩ := r.get e
  refine ⟨⟨vs, v, hq, hv⟩, fun x H' y => ?_⟩
  obtain ⟨rfl, y⟩ := y
  have := y vs hq
  rw [hv] at this
  cases this
  exact ⟨P, Stp.refl, s2, rv.mono s1⟩
theorem itOk_tup {a : Addr} {P0 : Hp} {vs : List V} {ds : List D} (h : SqT K P0 a vs) (r : RepL K mg P0 vs ds) : ItOk K mg (Itt K a) P0 ds := fun i P H s1 s2 => by
  have hq : SqT K H a vs := (s1.lie s2).sqt h
  refine ⟨fun d e => ?_, fun hl => ⟨vs, hq, by rw [r.length]; exact hl⟩⟩
  obtain ⟨v, hv, rv⟩ := r.get e
  refine ⟨⟨vs, v, hq, hv⟩, fun x H' y => ?_⟩
  obtain ⟨rfl, y⟩ := y
  have := y vs hq
  rw [hv] at this
  cases this
  exact ⟨P, Stp.refl, s2, rv.mono s1⟩
theorem getRange {f : Nat → D} {n i : Nat} {d : D} (e : ((List.range n).map f)[i]? = some d) : i < n ∧ d = f i := by
  rw [List.getElem?_map] at e
  by_cases q : i < n
  · rw [List.getElem?_range q] at e; cases e; exact ⟨q, rfl⟩
  · rw [List.getElem?_eq_none (by simpa using Nat.le_of_not_lt q)] at e; cases e
def rangeD (lo hi : Int) : List D := (List.range (hi - lo).toNat).map fun i => .int (lo + (i : Nat))
theorem itOk_range {lo : Int} {n : Nat} {P0 : Hp} : ItOk K mg (Itr lo n) P0 ((List.range n).map fun i => .int (lo + (i : Nat))) := fun i P H s1 s2 => by
  refine ⟨fun d e => ?_, fun hl => (by simpa using hl : n ≤ i)⟩
  obtain ⟨hi, rfl⟩ := getRange e
  refine ⟨hi, fun x H' y => ?_⟩
  obtain ⟨rfl, rfl⟩ := y
  exact ⟨P, Stp.refl, s2, .int _⟩
end
/-- a list or a tuple, walked -/
theorem pi_seq {X : Cx} {tg l : Expr} {tl : TE} (hl : PE X l tl) : PI X tg l (fun σ H R => tl σ H fun x H1 => (∃ a, x = .ref a ∧ (∃ xs, SqL X.K H1 a xs) ∧ R (Itl X.K a) H1) ∨ (∃ a, x = .ref a ∧ (∃ xs, SqT X.K H1 a xs) ∧ R (Itt X.K a) H1)) := by
  refine ⟨fun pins s σ H R I h => ?_⟩
  refine thn (hl.run pins s σ H _ I h) fun v s1 ⟨x, H1, I1, r1, q1⟩ => ?_
  rcases q1 with ⟨a, e, ⟨xs, hq⟩, q⟩ | ⟨a, e, ⟨xs, hq⟩, q⟩
  · subst e
    cases r1
    obtain ⟨its, rv, p, hz⟩ := I1.list hq
    refine wpAny_pyIter_list p.isList ?_
    refine ⟨s1.heap.objs.size, [s1.heap.objs.size], _, _, H1, rfl, I1.kept (t' := s1.toks) fun b o e => Heap.get?_push_of_some _ e, turn_list a _, ⟨_, Heap.get?_push_size _ rfl, rfl, rfl⟩, fun b hb => ?_, q⟩
    have e : b = s1.heap.objs.size := by simpa using hb
    subst e
    exact I1.fpOk (Nat.le_refl _) (I1.hok.fresh (Nat.le_refl _))
  · subst e
    cases r1
    obtain ⟨its, rv, p, hz⟩ := I1.tuple hq
    refine wpAny_pyIter_tuple (show s1.heap.IsTuple a its.toArray from p) ?_
    refine ⟨s1.heap.objs.size, [s1.heap.objs.size], _, _, H1, rfl, I1.kept (t' := s1.toks) fun b o e => Heap.get?_push_of_some _ e, turn_tuple a _, ⟨_, Heap.get?_push_size _ rfl, rfl, rfl⟩, fun b hb => ?_, q⟩
    have e : b = s1.heap.objs.size := by simpa using hb
    subst e
    exact I1.fpOk (Nat.le_refl _) (I1.hok.fresh (Nat.le_refl _))
def dSeqI (f : DE) : DA := fun δ => (f δ).bind fun d δ1 => match itemsD d with
  | some l => .ok l δ1
  | none => .no
def Res.bindI {α : Type} (r : Res α) (f : α → Env → Res (List D)) : Res (List D) := r.bind f
section
variable {X : Cx} {kd : Kds} {W : WX} {pos p : Pos} {tg : Expr}
theorem PostI.later {K : PySem.W.Frag} {mg : Str → Option Value} {σ : L2.St} {Fs Fs1 : Nat → AS} {P H P1 H1 : Hp} {R : It → Hp → Prop} {r : Res (List D)} (s : Stp (All Fs) P H (All Fs1) P1 H1) (h : PostI K mg kd W σ Fs P H R r) : PostI K mg kd W σ Fs1 P1 H1 R r := by
  cases r with
  | ok d δ' => exact fun v Fs' P' H' E s' o => h v Fs' P' H' E (s.trans s') o
  | exn e δ' => exact fun cls dx Fs' P' H' E s' x => h cls dx Fs' P' H' E (s.trans s') x
  | no => exact h
theorem vi_seq {l : Expr} {f : DE} (hl : VE X kd W .sh l f) : VI X kd W tg l (dSeqI f) := PI.imp (pi_seq hl) fun σ H R ⟨Fs, P, δ, E, q⟩ => by
  refine ⟨Fs, P, δ, E, ?_⟩
  revert q
  unfold dSeqI
  cases f δ with
  | no => exact fun q => q
  | exn e δ1 => exact fun q => q
  | ok d δ1 =>
    intro q v Fs1 P1 H1 G1 E1 s1 f1 o1
    have q : PostI X.K X.mg kd W σ Fs P H R (match itemsD d with | some l => .ok l δ1 | none => .no) := q
    cases o1.sh_rep with
    | @lst a vs ds h l => exact .inl ⟨a, rfl, ⟨vs, SqL.of (E1.sub.at h)⟩, q _ _ _ _ E1 s1 (itOk_list (SqL.of h) l)⟩
    | @frz a vs ds h l => exact .inl ⟨a, rfl, ⟨vs, E1.sub.sql h⟩, q _ _ _ _ E1 s1 (itOk_list h l)⟩
    | @tup a vs ds h l => exact .inr ⟨a, rfl, ⟨vs, E1.sub.sqt h⟩, q _ _ _ _ E1 s1 (itOk_tup h l)⟩
    | non => exact q.elim
    | bl _ => exact q.elim
    | int _ => exact q.elim
    | str _ => exact q.elim
    | dct _ _ _ => exact q.elim
    | ins _ _ _ _ => exact q.elim
    | glb _ _ => exact q.elim
    | gh0 _ => exact q.elim
    | ghx _ _ _ => exact q.elim
    | ght _ => exact q.elim
def big62 (i : Int) : Bool := decide (-(2 ^ 62) ≤ i ∧ i < 2 ^ 62)
def int1 : List D → Option Int
  | [.int j] => if big62 j = true then some j else none
  | _ => none
def int2 : List D → Option (Int × Int)
  | [.int i, .int j] => if big62 i = true ∧ big62 j = true then some (i, j) else none
  | _ => none
theorem int1_eq {ds : List D} {j : Int} (h : int1 ds = some j) : ds = [.int j] ∧ big62 j = true := by
  unfold int1 at h
  split at h
  · split at h
    · rename_i q; cases h; exact ⟨rfl, q⟩
    · cases h
  · cases h
theorem int2_eq {ds : List D} {i j : Int} (h : int2 ds = some (i, j)) : ds = [.int i, .int j] ∧ big62 i = true ∧ big62 j = true := by
  unfold int2 at h
  split at h
  · split at h
    · rename_i q; cases h; exact ⟨rfl, q⟩
    · cases h
  · cases h
def dRng1 (f : DA) : DA := fun δ => (f δ).bind fun ds δ1 => match int1 ds with
  | some j => .ok (rangeD 0 j) δ1
  | none => .no
def dRng2 (f : DA) : DA := fun δ => (f δ).bind fun ds δ1 => match int2 ds with
  | some (i, j) => .ok (rangeD i j) δ1
  | none => .no
theorem rng_post {K : PySem.W.Frag} {mg : Str → Option Value} {σ : L2.St} {Fs : Nat → AS} {P H : Hp} {R : It → Hp → Prop} {r : Res (List D)} {g : List D → Env → Res (List D)} (q : PostI K mg kd W σ Fs P H R (r.bind g)) :
    PostA K mg kd W σ Fs P H (fun vs H1 => ∃ (ds : List D) (δ1 : Env) (Fs1 : Nat → AS) (P1 : Hp), EnvR K mg kd Fs1 P1 H1 σ δ1 ∧ RepL K mg P1 vs ds ∧ PostI K mg kd W σ Fs1 P1 H1 R (g ds δ1)) r := by
  cases r with
  | no => exact q
  | exn e δ1 => exact q
  | ok d δ1 => exact fun v Fs1 P1 H1 E1 s1 o1 => ⟨d, δ1, Fs1, P1, E1, o1, PostI.later s1 q⟩
theorem vi_range1 {a : Expr} {f : DA} (ha : VA X kd W [a] f) (hm : X.mg "range" = none) (hg : Gl X "range" := by rfl) (hs : starEach [a] X.env = [(false, eval a X.env)] := by rfl) : VI X kd W tg (.Call (.Name "range" p) [a] [] pos) (dRng1 f) :=
  PI.imp (pi_range1 hg hm ha hs) fun σ H R ⟨Fs, P, δ, E, q⟩ => by
    refine ⟨Fs, P, δ, E, ?_⟩
    have q1 := rng_post q
    revert q1
    cases f δ with
    | no => exact fun q => q
    | exn e δ1 => exact fun q => q
    | ok ds δ1 =>
      intro q1 vs Fs1 P1 H1 E1 s1 r1
      obtain ⟨ds', δ1', Fs1', P1', E1', r1', q2⟩ := q1 vs Fs1 P1 H1 E1 s1 r1
      cases e : int1 ds' with
      | none => rw [e] at q2; exact q2.elim
      | some j =>
        rw [e] at q2
        obtain ⟨rfl, hb⟩ := int1_eq e
        have hb' := of_decide_eq_true hb
        cases r1' with
        | cons a b =>
          cases a
          cases b
          refine ⟨j, rfl, hb'.1, hb'.2, q2 _ _ _ _ E1' Stp.refl ?_⟩
          have e : j - 0 = j := by omega
          unfold rangeD
          rw [e]
          exact itOk_range
theorem vi_range2 {a b : Expr} {f : DA} (ha : VA X kd W [a, b] f) (hm : X.mg "range" = none) (hg : Gl X "range" := by rfl) (hs : starEach [a, b] X.env = [(false, eval a X.env), (false, eval b X.env)] := by rfl) (hs2 : starEach [b] X.env = [(false, eval b X.env)] := by rfl) : VI X kd W tg (.Call (.Name "range" p) [a, b] [] pos) (dRng2 f) :=
  PI.imp (pi_range2 hg hm ha hs hs2) fun σ H R ⟨Fs, P, δ, E, q⟩ => by
    refine ⟨Fs, P, δ, E, ?_⟩
    have q1 := rng_post q
    revert q1
    cases f δ with
    | no => exact fun q => q
    | exn e δ1 => exact fun q => q
    | ok ds δ1 =>
      intro q1 vs Fs1 P1 H1 E1 s1 r1
      obtain ⟨ds', δ1', Fs1', P1', E1', r1', q2⟩ := q1 vs Fs1 P1 H1 E1 s1 r1
      cases e : int2 ds' with
      | none => rw [e] at q2; exact q2.elim
      | some ij =>
        obtain ⟨i, j⟩ := ij
        rw [e] at q2
        obtain ⟨rfl, hb, hb2⟩ := int2_eq e
        have h1 := of_decide_eq_true hb
        have h2 := of_decide_eq_true hb2
        cases r1' with
        | cons a b =>
          cases a
          cases b with
          | cons a b =>
            cases a
            cases b
            exact ⟨i, j, rfl, ⟨h1.1, h1.2, h2.1, h2.2⟩, q2 _ _ _ _ E1' Stp.refl itOk_range⟩
end
/-! ### for -/
def forD (s : D → Env → Option Env) (body : DS) : List D → Env → SRes
  | [], δ => .next δ
  | d :: ds, δ => match s d δ with
    | none => .no
    | some δ1 => match body δ1 with
      | .next δ2 => forD s body ds δ2
      | .cont δ2 => forD s body ds δ2
      | .brk δ2 => .next δ2
      | .ret z δ2 => .ret z δ2
      | .exn e δ2 => .exn e δ2
      | .no => .no
def dFor (f : DA) (s : D → Env → Option Env) (body : DS) : DS := fun δ => (f δ).stm fun xs δ1 => forD s body xs δ1
section
variable {K : PySem.W.Frag} {mg : Str → Option Value} {fx : Fx} {kd : Kds}
theorem for_it {ws : List Nat} {J : It} {P0 : Hp} {xs : List D} (hI : ItOk K mg J P0 xs) {s : D → Env → Option Env} {body : DS} {D' : L2.Ends} {σ : L2.St} {H : Hp} {Fs : Nat → AS} {P : Hp} {δ : Env} (E : EnvR K mg kd Fs P H σ δ) (s0 : Sub P0 P)
    (q : PostS K mg fx kd Fs P H D' (forD s body xs δ)) :
    ∃ W : Nat → Nat → L2.St → Hp → Prop, (∃ m, W 0 m σ H) ∧ ∀ i m σ H, W i m σ H →
      (J.stop i H ∧ D'.nx σ H) ∨ (J.go i H ∧ ∃ N : L2.St → Hp → Prop, (∀ σ' H', N σ' H' → ∃ m', m' < m ∧ W (i + 1) m' σ' H') ∧ ∀ x H', J.yld i H x H' → rdG K mg kd ws s x σ H' fun σ2 H2 =>
        rdS K mg { fx with kl := kd } kd kd body { D' with nx := N, ct := N, bk := D'.nx } σ2 H2) := by
  let Pv : Nat → L2.St → Hp → Prop := fun i σ H => ∃ (Fs : Nat → AS) (P : Hp) (δ : Env), EnvR K mg kd Fs P H σ δ ∧ Sub P0 P ∧ PostS K mg fx kd Fs P H D' (forD s body (xs.drop i) δ)
  refine ⟨fun i m σ H => m = xs.length - i ∧ i ≤ xs.length ∧ Pv i σ H, ⟨xs.length, by simp, Nat.zero_le _, Fs, P, δ, E, s0, q⟩, ?_⟩
  rintro i m σ H ⟨rfl, hi, Fs, P, δ, E, s0, q⟩
  obtain ⟨h1, h2⟩ := hI i P H s0 E.sub
  by_cases hlt : i < xs.length
  · right
    have hd : xs[i]? = some xs[i] := List.getElem?_eq_getElem hlt
    obtain ⟨hgo, hy⟩ := h1 _ hd
    refine ⟨hgo, Pv (i + 1), fun σ' H' p' => ⟨xs.length - (i + 1), by omega, rfl, hlt, p'⟩, fun x H' y => ?_⟩
    obtain ⟨P', st, sub', r⟩ := hy x H' y
    have E' := E.grow st sub'
    refine ⟨Fs, P', δ, xs[i], E', r, ?_⟩
    rw [List.drop_eq_getElem_cons hlt] at q
    unfold forD at q
    cases es : s xs[i] δ with
    | none => rw [es] at q; exact q.elim
    | some δ1 =>
      rw [es] at q
      intro σ' E2 _
      refine ⟨Fs, P', δ1, E2, ?_⟩
      have q := PostS.later (Fs1 := Fs) st.wid q
      revert q
      simp only
      cases body δ1 with
      | no => exact fun q => q
      | next δ2 => exact fun q σ3 Fs3 P3 H3 E3 s3 => ⟨Fs3, P3, δ2, E3, (s0.trans st.grow).trans s3.grow, PostS.later s3 q⟩
      | cont δ2 => exact fun q σ3 Fs3 P3 H3 E3 s3 => ⟨Fs3, P3, δ2, E3, (s0.trans st.grow).trans s3.grow, PostS.later s3 q⟩
      | brk δ2 => exact fun q σ3 Fs3 P3 H3 E3 s3 => q σ3 Fs3 P3 H3 E3 s3
      | ret z δ2 => exact fun q => q
      | exn e δ2 => exact fun q => q
  · left
    have e : i = xs.length := by omega
    subst e
    rw [List.drop_length] at q
    exact ⟨h2 (Nat.le_refl _), q σ Fs P H E Stp.refl⟩
end
theorem vs_for {ws : List Nat} {X : Cx} {fx : Fx} {kd : Kds} {pos : Pos} {tg iter : Expr} {bodyS : List Stmt} {f : DA} {s : D → Env → Option Env} {body : DS} (hp : PassesOwn (model X.prog X.w) X.A X.env X.xe) (hi : VI X kd fx.W tg iter f) (hg : VG X kd ws tg s) (hb : VSs X { fx with kl := kd } kd kd bodyS body) (hc : X.calm = true := by rfl)
    (hx : fx.XR kd := by first | trivial | rfl) (hs : ∀ x, foldedSetIterable iter X.env x = pure x := by intro _; rfl) : VS X fx kd kd (.For tg iter bodyS [] pos) (dFor f s body) :=
  PS.imp (ps_for hp hc hi hg hb hs) fun D' σ H ⟨Fs, P, δ, E, q⟩ => by
    refine ⟨Fs, P, δ, E, ?_⟩
    revert q
    unfold dFor
    cases f δ with
    | no => exact fun q => q
    | exn e δ1 => exact fun q cls dx Fs' P' H' E' s' x => q kd hx cls dx σ Fs' P' H' E' s' x
    | ok xs δ1 =>
      intro q J Fs1 P1 H1 E1 s1 hI
      exact for_it hI E1 (Sub.refl _) (PostS.later s1 q)
end VL

set_option Elab.async false
set_option linter.all false
set_option maxRecDepth 100000
/-! Layer V: while, comprehensions. -/
namespace VL
open PySem PySem.Spec PyProof.Rows L2
/-! ### while -/
def whileN (c : DT) (b : DS) : Nat → DS
  | 0 => fun _ => .no
  | n + 1 => fun δ => (c δ).stm fun k δ1 => if k = true then (match b δ1 with
      | .next δ2 => whileN c b n δ2
      | .cont δ2 => whileN c b n δ2
      | .brk δ2 => .next δ2
      | .ret z δ2 => .ret z δ2
      | .exn e δ2 => .exn e δ2
      | .no => .no) else .next δ1
open Classical in
noncomputable def dWhile (c : DT) (b : DS) : DS := fun δ => if h : ∃ n, whileN c b n δ ≠ .no then whileN c b h.choose δ else .no
theorem whileN_mono (c : DT) (b : DS) : ∀ (n : Nat) (δ : Env), whileN c b n δ ≠ .no → whileN c b (n + 1) δ = whileN c b n δ
  | 0, δ, h => absurd rfl h
  | n + 1, δ, h => by
    revert h
    rw [show whileN c b (n + 1 + 1) δ = ((c δ).stm fun k δ1 => if k = true then (match b δ1 with
      | .next δ2 => whileN c b (n + 1) δ2
      | .cont δ2 => whileN c b (n + 1) δ2
      | .brk δ2 => .next δ2
      | .ret z δ2 => .ret z δ2
      | .exn e δ2 => .exn e δ2
      | .no => .no) else .next δ1) from rfl]
    rw [show whileN c b (n + 1) δ = ((c δ).stm fun k δ1 => if k = true then (match b δ1 with
      | .next δ2 => whileN c b n δ2
      | .cont δ2 => whileN c b n δ2
      | .brk δ2 => .next δ2
      | .ret z δ2 => .ret z δ2
      | .exn e δ2 => .exn e δ2
      | .no => .no) else .next δ1) from rfl]
    cases c δ with
    | no => intro h; exact absurd rfl h
    | exn e δ1 => intro h; rfl
    | ok k δ1 =>
      cases k with
      | false => intro h; rfl
      | true =>
        show (match b δ1 with
          | .next δ2 => whileN c b n δ2
          | .cont δ2 => whileN c b n δ2
          | .brk δ2 => .next δ2
          | .ret z δ2 => .ret z δ2
          | .exn e δ2 => .exn e δ2
          | .no => .no) ≠ SRes.no → (match b δ1 with
          | .next δ2 => whileN c b (n + 1) δ2
          | .cont δ2 => whileN c b (n + 1) δ2
          | .brk δ2 => .next δ2
          | .ret z δ2 => .ret z δ2
          | .exn e δ2 => .exn e δ2
          | .no => .no) = (match b δ1 with
          | .next δ2 => whileN c b n δ2
          | .cont δ2 => whileN c b n δ2
          | .brk δ2 => .next δ2
          | .ret z δ2 => .ret z δ2
          | .exn e δ2 => .exn e δ2
          | .no => .no)
        cases b δ1 with
        | next δ2 => exact whileN_mono c b n δ2
        | cont δ2 => exact whileN_mono c b n δ2
        | brk δ2 => intro _; rfl
        | ret z δ2 => intro _; rfl
        | exn e δ2 => intro _; rfl
        | no => intro _; rfl
theorem whileN_le (c : DT) (b : DS) {n m : Nat} {δ : Env} (h : n ≤ m) (hn : whileN c b n δ ≠ .no) : whileN c b m δ = whileN c b n δ := by
  induction h with
  | refl => rfl
  | step _ ih => rw [whileN_mono c b _ δ (by rw [ih]; exact hn), ih]
theorem dWhile_eq {c : DT} {b : DS} {n : Nat} {δ : Env} (h : whileN c b n δ ≠ .no) : dWhile c b δ = whileN c b n δ := by
  have h' : ∃ n, whileN c b n δ ≠ .no := ⟨n, h⟩
  unfold dWhile
  rw [dif_pos h']
  rcases Nat.le_total h'.choose n with q | q
  · exact (whileN_le c b q h'.choose_spec).symm
  · exact whileN_le c b q h
theorem dWhile_has {c : DT} {b : DS} {δ : Env} (h : dWhile c b δ ≠ .no) : ∃ n, whileN c b n δ ≠ .no ∧ dWhile c b δ = whileN c b n δ := by
  by_cases q : ∃ n, whileN c b n δ ≠ .no
  · obtain ⟨n, hn⟩ := q
    exact ⟨n, hn, dWhile_eq hn⟩
  · unfold dWhile at h
    rw [dif_neg q] at h
    exact absurd rfl h
/-- one turn of a while -/
theorem dWhile_step (c : DT) (b : DS) (δ : Env) : dWhile c b δ = (c δ).stm fun k δ1 => if k = true then (match b δ1 with
      | .next δ2 => dWhile c b δ2
      | .cont δ2 => dWhile c b δ2
      | .brk δ2 => .next δ2
      | .ret z δ2 => .ret z δ2
      | .exn e δ2 => .exn e δ2
      | .no => .no) else .next δ1 := by
  have key : ∀ δ2, ∃ n, ∀ m, n ≤ m → dWhile c b δ2 = whileN c b m δ2 := fun δ2 => by
    by_cases q : ∃ n, whileN c b n δ2 ≠ .no
    · obtain ⟨n, hn⟩ := q
      exact ⟨n, fun m hm => (dWhile_eq hn).trans (whileN_le c b hm hn).symm⟩
    · refine ⟨0, fun m _ => ?_⟩
      have e : whileN c b m δ2 = .no := Classical.byContradiction fun z => q ⟨m, z⟩
      rw [e]
      unfold dWhile
      rw [dif_neg q]
  obtain ⟨n0, h0⟩ := key δ
  have go : ∀ n, n0 ≤ n + 1 → dWhile c b δ = ((c δ).stm fun k δ1 => if k = true then (match b δ1 with
      | .next δ2 => whileN c b n δ2
      | .cont δ2 => whileN c b n δ2
      | .brk δ2 => .next δ2
      | .ret z δ2 => .ret z δ2
      | .exn e δ2 => .exn e δ2
      | .no => .no) else .next δ1) := fun n hn => (h0 (n + 1) hn).trans rfl
  cases ec : c δ with
  | no => rw [go n0 (by omega), ec]; rfl
  | exn e δ1 => rw [go n0 (by omega), ec]; rfl
  | ok k δ1 =>
    cases k with
    | false => rw [go n0 (by omega), ec]; rfl
    | true =>
      cases eb : b δ1 with
      | next δ2 =>
        obtain ⟨n1, h1⟩ := key δ2
        rw [go (n0 + n1) (by omega), ec]
        show (match b δ1 with | .next δ2 => whileN c b (n0 + n1) δ2 | .cont δ2 => whileN c b (n0 + n1) δ2 | .brk δ2 => .next δ2 | .ret z δ2 => .ret z δ2 | .exn e δ2 => .exn e δ2 | .no => .no) =
          (match b δ1 with | .next δ2 => dWhile c b δ2 | .cont δ2 => dWhile c b δ2 | .brk δ2 => .next δ2 | .ret z δ2 => .ret z δ2 | .exn e δ2 => .exn e δ2 | .no => .no)
        rw [eb]
        exact (h1 _ (by omega)).symm
      | cont δ2 =>
        obtain ⟨n1, h1⟩ := key δ2
        rw [go (n0 + n1) (by omega), ec]
        show (match b δ1 with | .next δ2 => whileN c b (n0 + n1) δ2 | .cont δ2 => whileN c b (n0 + n1) δ2 | .brk δ2 => .next δ2 | .ret z δ2 => .ret z δ2 | .exn e δ2 => .exn e δ2 | .no => .no) =
          (match b δ1 with | .next δ2 => dWhile c b δ2 | .cont δ2 => dWhile c b δ2 | .brk δ2 => .next δ2 | .ret z δ2 => .ret z δ2 | .exn e δ2 => .exn e δ2 | .no => .no)
        rw [eb]
        exact (h1 _ (by omega)).symm
      | brk δ2 => rw [go n0 (by omega), ec]; show (match b δ1 with | .next δ2 => whileN c b n0 δ2 | .cont δ2 => whileN c b n0 δ2 | .brk δ2 => .next δ2 | .ret z δ2 => .ret z δ2 | .exn e δ2 => .exn e δ2 | .no => .no) = (match b δ1 with | .next δ2 => dWhile c b δ2 | .cont δ2 => dWhile c b δ2 | .brk δ2 => .next δ2 | .ret z δ2 => .ret z δ2 | .exn e δ2 => .exn e δ2 | .no => .no); rw [eb]
      | ret z δ2 => rw [go n0 (by omega), ec]; show (match b δ1 with | .next δ2 => whileN c b n0 δ2 | .cont δ2 => whileN c b n0 δ2 | .brk δ2 => .next δ2 | .ret z δ2 => .ret z δ2 | .exn e δ2 => .exn e δ2 | .no => .no) = (match b δ1 with | .next δ2 => dWhile c b δ2 | .cont δ2 => dWhile c b δ2 | .brk δ2 => .next δ2 | .ret z δ2 => .ret z δ2 | .exn e δ2 => .exn e δ2 | .no => .no); rw [eb]
      | exn e δ2 => rw [go n0 (by omega), ec]; show (match b δ1 with | .next δ2 => whileN c b n0 δ2 | .cont δ2 => whileN c b n0 δ2 | .brk δ2 => .next δ2 | .ret z δ2 => .ret z δ2 | .exn e δ2 => .exn e δ2 | .no => .no) = (match b δ1 with | .next δ2 => dWhile c b δ2 | .cont δ2 => dWhile c b δ2 | .brk δ2 => .next δ2 | .ret z δ2 => .ret z δ2 | .exn e δ2 => .exn e δ2 | .no => .no); rw [eb]
      | no => rw [go n0 (by omega), ec]; show (match b δ1 with | .next δ2 => whileN c b n0 δ2 | .cont δ2 => whileN c b n0 δ2 | .brk δ2 => .next δ2 | .ret z δ2 => .ret z δ2 | .exn e δ2 => .exn e δ2 | .no => .no) = (match b δ1 with | .next δ2 => dWhile c b δ2 | .cont δ2 => dWhile c b δ2 | .brk δ2 => .next δ2 | .ret z δ2 => .ret z δ2 | .exn e δ2 => .exn e δ2 | .no => .no); rw [eb]
theorem vs_while {X : Cx} {fx : Fx} {kd : Kds} {pos : Pos} {c : Expr} {bodyS : List Stmt} {t : DT} {body : DS} (hp : PassesOwn (model X.prog X.w) X.A X.env X.xe) (hc : VT X kd fx.W c t) (hb : VSs X { fx with kl := kd } kd kd bodyS body)
    (hx : fx.XR kd := by first | trivial | rfl) : VS X fx kd kd (.While c bodyS [] pos) (dWhile t body) :=
  PS.imp (ps_while hp hc hb) fun D' σ H ⟨Fs, P, δ, E, q⟩ => by
    have hno : dWhile t body δ ≠ .no := fun z => by rw [z] at q; exact q
    obtain ⟨n, hn, en⟩ := dWhile_has hno
    rw [en] at q
    refine ⟨fun m σ H => ∃ (Fs : Nat → AS) (P : Hp) (δ : Env), EnvR X.K X.mg kd Fs P H σ δ ∧ PostS X.K X.mg fx kd Fs P H D' (whileN t body m δ), ⟨n, Fs, P, δ, E, q⟩, ?_⟩
    rintro m σ H ⟨Fs, P, δ, E, q⟩
    refine ⟨Fs, P, δ, E, ?_⟩
    cases m with
    | zero => exact q.elim
    | succ m =>
      have q1 := stmT (σ := σ) hx q
      revert q1
      cases t δ with
      | no => exact fun q => q
      | exn e δ1 => exact fun q => q
      | ok k δ1 =>
        intro q1 Fs1 P1 H1 E1 s1
        obtain ⟨δ1', Fs1', P1', E1', s1', q2⟩ := q1 Fs1 P1 H1 E1 s1
        cases k with
        | false => exact q2 σ _ _ _ E1' Stp.refl
        | true =>
          refine ⟨fun σ H => ∃ (Fs : Nat → AS) (P : Hp) (δ : Env), EnvR X.K X.mg kd Fs P H σ δ ∧ PostS X.K X.mg fx kd Fs P H D' (whileN t body m δ), fun σ' H' p => ⟨m, Nat.lt_succ_self m, p⟩, Fs1', P1', δ1', E1', ?_⟩
          have q2 : PostS X.K X.mg fx kd Fs1' P1' H1 D' (match body δ1' with
            | .next δ2 => whileN t body m δ2
            | .cont δ2 => whileN t body m δ2
            | .brk δ2 => .next δ2
            | .ret z δ2 => .ret z δ2
            | .exn e δ2 => .exn e δ2
            | .no => .no) := q2
          revert q2
          cases body δ1' with
          | no => exact fun q => q
          | next δ2 => exact fun q σ3 Fs3 P3 H3 E3 s3 => ⟨Fs3, P3, δ2, E3, PostS.later s3 q⟩
          | cont δ2 => exact fun q σ3 Fs3 P3 H3 E3 s3 => ⟨Fs3, P3, δ2, E3, PostS.later s3 q⟩
          | brk δ2 => exact fun q σ3 Fs3 P3 H3 E3 s3 => q σ3 Fs3 P3 H3 E3 s3
          | ret z δ2 => exact fun q => q
          | exn e δ2 => exact fun q => q
end VL

set_option Elab.async false
set_option linter.all false
set_option maxRecDepth 100000
/-! Layer V: comprehensions. -/
namespace VL
open PySem PySem.Spec PyProof.Rows L2
section
variable {K : PySem.W.Frag} {mg : Str → Option Value} {kd : Kds} {Fs : Nat → AS} {P H : Hp} {σ : L2.St} {δ : Env}
/-! ### slots wiped -/
def wipeD (δ : Env) : List Nat → Env
  | [] => δ
  | v :: vs => (wipeD δ vs).set v none
theorem wipeD_length : ∀ vs : List Nat, (wipeD δ vs).length = δ.length
  | [] => rfl
  | v :: vs => by unfold wipeD; rw [List.length_set, wipeD_length vs]
theorem EnvR.wipe1 {i : Nat} (E : EnvR K mg kd Fs P H σ δ) (hk : kd.at i = .sh) : EnvR K mg kd Fs P H (σ.set i none) (δ.set i none) where
  sub := E.sub
  slot j d h := by
    by_cases q : j = i
    · subst q
      by_cases hl : j < δ.length
      · rw [List.getElem?_set_self hl] at h; cases h
      · rw [List.getElem?_eq_none (by rw [List.length_set]; omega)] at h; cases h
    · rw [List.getElem?_set_ne (Ne.symm q)] at h
      obtain ⟨v, h1, h2⟩ := E.slot j d h
      exact ⟨v, by rw [List.getElem?_set_ne (Ne.symm q)]; exact h1, h2⟩
  only j a h := by
    obtain ⟨d, e⟩ := E.only j a h
    by_cases q : j = i
    · subst q
      obtain ⟨v, _, o⟩ := E.slot j d e
      rw [hk] at o
      exact (o.1 a h).elim
    · exact ⟨d, by rw [List.getElem?_set_ne (Ne.symm q)]; exact e⟩
  sep := E.sep
  out := E.out
  len := by rw [List.length_set, List.length_set]; exact E.len
  lenK := by rw [List.length_set]; exact E.lenK
theorem EnvR.wipe (E : EnvR K mg kd Fs P H σ δ) : ∀ {vs : List Nat}, (∀ i ∈ vs, kd.at i = .sh) → EnvR K mg kd Fs P H (L2.wipe σ vs) (wipeD δ vs)
  | [], _ => E
  | v :: vs, h => by
    unfold L2.wipe wipeD
    exact (E.wipe (fun i hi => h i (List.mem_cons_of_mem _ hi))).wipe1 (h v List.mem_cons_self)
/-- the slots at vs as they were -/
def backD (δ0 δ : Env) : List Nat → Env
  | [] => δ
  | v :: vs => (backD δ0 δ vs).set v (δ0[v]?.getD none)
theorem wipe_get {τ : L2.St} {j : Nat} : ∀ {vs : List Nat}, j ∉ vs → (L2.wipe τ vs)[j]? = τ[j]? := fun {vs} h => L2.wipe_out h
theorem backD_length (δ0 δ : Env) : ∀ vs : List Nat, (backD δ0 δ vs).length = δ.length
  | [] => rfl
  | v :: vs => by unfold backD; rw [List.length_set, backD_length δ0 δ vs]
theorem backD_in {δ0 δ : Env} {j : Nat} : ∀ {vs : List Nat}, j ∈ vs → j < δ.length → (backD δ0 δ vs)[j]? = some (δ0[j]?.getD none)
  | v :: vs, h, hl => by
    unfold backD
    by_cases q : j = v
    · subst q; rw [List.getElem?_set_self (by rw [backD_length]; exact hl)]
    · rw [List.getElem?_set_ne (Ne.symm q)]
      exact backD_in ((List.mem_cons.mp h).resolve_left q) hl
theorem backD_out {δ0 δ : Env} {j : Nat} : ∀ {vs : List Nat}, j ∉ vs → (backD δ0 δ vs)[j]? = δ[j]?
  | [], _ => rfl
  | v :: vs, h => by
    unfold backD
    rw [List.getElem?_set_ne (fun z => h (by rw [z]; exact List.mem_cons_self))]
    exact backD_out fun z => h (List.mem_cons_of_mem _ z)
/-- behind a comprehension: the frame's own slots again -/
theorem EnvR.unwipe {Fs0 : Nat → AS} {P0 H0 : Hp} {δ0 : Env} {vs : List Nat} (E0 : EnvR K mg kd Fs0 P0 H0 σ δ0) (E : EnvR K mg kd Fs P H (L2.wipe σ vs) δ) (g : Sub P0 P) (hk : ∀ i ∈ vs, kd.at i = .sh) : EnvR K mg kd Fs P H σ (backD δ0 δ vs) where
  sub := E.sub
  slot j d h := by
    have hlen : δ.length = σ.length := by rw [E.len, L2.wipe_length]
    by_cases q : j ∈ vs
    · have hl : j < δ.length := by
        have := (List.getElem?_eq_some_iff.mp h).1
        rw [backD_length] at this; exact this
      rw [backD_in q hl] at h
      have e0 : δ0[j]? = some (some d) := by
        cases e : δ0[j]? with
        | none => rw [e] at h; cases h
        | some o => rw [e] at h; cases h; rfl
      obtain ⟨v, h1, o⟩ := E0.slot j d e0
      rw [hk j q] at o ⊢
      refine ⟨v, h1, ?_, o.2.mono g⟩
      intro a f
      obtain ⟨d', e'⟩ := E.only j a f
      obtain ⟨v', _, o'⟩ := E.slot j d' e'
      rw [hk j q] at o'
      exact o'.1 a f
    · rw [backD_out q] at h
      obtain ⟨v, h1, o⟩ := E.slot j d h
      rw [wipe_get q] at h1
      exact ⟨v, h1, o⟩
  only j a h := by
    obtain ⟨d, e⟩ := E.only j a h
    by_cases q : j ∈ vs
    · obtain ⟨v, _, o⟩ := E.slot j d e
      rw [hk j q] at o
      exact (o.1 a h).elim
    · exact ⟨d, by rw [backD_out q]; exact e⟩
  sep := E.sep
  out := E.out
  len := by rw [backD_length, E.len, L2.wipe_length]
  lenK := by rw [E.lenK, L2.wipe_length]
/-- an object that is neither shared nor in a slot is changed -/
theorem EnvR.upd {p : Addr} {o : HO} (E : EnvR K mg kd Fs P H σ δ) (hp : P p = none) (hf : ¬ All Fs p) {u0 : HO} (hu : H p = some u0) (hm : Mu u0) : EnvR K mg kd Fs P (L2.upd H p o) σ δ where
  sub := E.sub.chg hu hm hp
  slot i d h := by
    obtain ⟨v, h1, ow⟩ := E.slot i d h
    exact ⟨v, h1, ow.stay (Sub.refl _) fun a u f e _ => by rw [upd_ne (fun z => hf (by subst z; exact ⟨i, f⟩))]; exact e⟩
  only := E.only
  sep := E.sep
  out i a h := by
    obtain ⟨h1, u, h2⟩ := E.out i a h
    exact ⟨h1, u, by rw [upd_ne (fun z => hf (by subst z; exact ⟨i, h⟩))]; exact h2⟩
  len := E.len
  lenK := E.lenK
/-- an item is put behind an owned list -/
theorem own_app {k : Kd} {Gy : AS} {p : Addr} {vs : List V} {ds : List D} {y : V} {d : D} {Fs : Nat → AS} (h : H p = some (.lst vs)) (hl : vs.length = ds.length) (hi : ∀ (j : Nat) (v : V) (d : D), vs[j]? = some v → ds[j]? = some d → Own K mg k (Fs j) P H v d)
    (hs : ∀ i j b, Fs i b → Fs j b → i = j) (hb : ∀ j b, Fs j b → b ≠ p ∧ j < ds.length) (o : Own K mg k Gy P H y d) (hd : ∀ b, Gy b → b ≠ p ∧ ∀ j, ¬ Fs j b) :
    Own K mg (.li k) (fun b => b = p ∨ (∃ j, Fs j b) ∨ Gy b) P (L2.upd H p (.lst (vs ++ [y]))) (.ref p) (.lst (ds ++ [d])) := by
  refine ⟨p, vs ++ [y], ds ++ [d], upF Fs ds.length Gy, rfl, rfl, upd_same, by simp [hl], fun j v e h1 h2 => ?_, fun i j b h1 h2 => ?_, fun j b h1 => ?_, fun b => ?_⟩
  · by_cases q : j = ds.length
    · subst q
      rw [upF_same]
      rw [List.getElem?_append_right (Nat.le_refl _)] at h2
      simp at h2
      subst h2
      rw [← hl, List.getElem?_append_right (Nat.le_refl _)] at h1
      simp at h1
      subst h1
      exact o.stay (Sub.refl _) fun a u f e _ => by rw [upd_ne (hd a f).1]; exact e
    · rw [upF_ne q]
      have hj : j < ds.length := by
        have := (List.getElem?_eq_some_iff.mp h2).1
        rw [List.length_append] at this
        simp at this
        omega
      rw [List.getElem?_append_left hj] at h2
      rw [List.getElem?_append_left (by omega)] at h1
      exact (hi j v e h1 h2).stay (Sub.refl _) fun a u f ee _ => by rw [upd_ne (hb j a f).1]; exact ee
  · by_cases q1 : i = ds.length
    · by_cases q2 : j = ds.length
      · exact q1.trans q2.symm
      · subst q1; rw [upF_same] at h1; rw [upF_ne q2] at h2
        exact ((hd b h1).2 j h2).elim
    · rw [upF_ne q1] at h1
      by_cases q2 : j = ds.length
      · subst q2; rw [upF_same] at h2
        exact ((hd b h2).2 i h1).elim
      · rw [upF_ne q2] at h2; exact hs i j b h1 h2
  · by_cases q : j = ds.length
    · subst q; rw [upF_same] at h1; exact ⟨(hd b h1).1, by simp⟩
    · rw [upF_ne q] at h1; obtain ⟨z1, z2⟩ := hb j b h1; exact ⟨z1, by rw [List.length_append]; omega⟩
  · constructor
    · rintro (z | ⟨j, z⟩ | z)
      · exact .inl z
      · exact .inr ⟨j, by rw [upF_ne (fun q => absurd (hb j b z).2 (by omega))]; exact z⟩
      · exact .inr ⟨ds.length, by rw [upF_same]; exact z⟩
    · rintro (z | ⟨j, z⟩)
      · exact .inl z
      · by_cases q : j = ds.length
        · subst q; rw [upF_same] at z; exact .inr (.inr z)
        · rw [upF_ne q] at z; exact .inr (.inl ⟨j, z⟩)
end
theorem wipe_in {τ : L2.St} {j : Nat} : ∀ {vs : List Nat}, j ∈ vs → j < τ.length → (L2.wipe τ vs)[j]? = some none
  | v :: vs, h, hl => by
    unfold L2.wipe
    by_cases q : j = v
    · subst q; rw [List.getElem?_set_self (by rw [L2.wipe_length]; exact hl)]
    · rw [List.getElem?_set_ne (Ne.symm q)]
      exact wipe_in ((List.mem_cons.mp h).resolve_left q) hl
theorem wipe_wipe (τ : L2.St) (vs : List Nat) : L2.wipe (L2.wipe τ vs) vs = L2.wipe τ vs := by
  apply List.ext_getElem?
  intro j
  by_cases h : j ∈ vs
  · by_cases hl : j < τ.length
    · rw [wipe_in h hl, wipe_in h (by rw [L2.wipe_length]; exact hl)]
    · rw [List.getElem?_eq_none (by rw [L2.wipe_length, L2.wipe_length]; omega), List.getElem?_eq_none (by rw [L2.wipe_length]; omega)]
  · rw [L2.wipe_out h]
/-! ### the denotation -/
def lcD (vs : List Nat) (s : D → Env → Option Env) (t : DT) (f : DE) : List D → List D → Env → Res (List D)
  | [], acc, δ => .ok acc δ
  | d :: ds, acc, δ => match s d δ with
    | none => .no
    | some δ1 => match t δ1 with
      | .ok b δ2 => if b = true then (match f δ2 with
          | .ok z δ3 => if acc.length < sizeLine then lcD vs s t f ds (acc ++ [z]) (wipeD δ3 vs) else .no
          | _ => .no) else lcD vs s t f ds acc (wipeD δ2 vs)
      | _ => .no
def dLc (vs : List Nat) (g : DA) (s : D → Env → Option Env) (t : DT) (f : DE) : DE := fun δ => (g δ).bind fun xs δ1 => match lcD vs s t f xs [] (wipeD δ1 vs) with
  | .ok l δ2 => .ok (.lst l) (backD δ1 δ2 vs)
  | _ => .no
abbrev W0 : WX := fun _ _ _ _ => False
section
variable {K : PySem.W.Frag} {mg : Str → Option Value} {kd : Kds}
/-- the list under way -/
structure Acc (K : PySem.W.Frag) (mg : Str → Option Value) (k : Kd) (G : AS) (H0 : Hp) (M : AS) (P H : Hp) (p : Addr) (ds : List D) : Prop where
  own : Own K mg (.li k) G P H (.ref p) (.lst ds)
  fr : Fr G H0 M P H
theorem Acc.lst {k : Kd} {G : AS} {H0 : Hp} {M : AS} {P H : Hp} {p : Addr} {ds : List D} (A : Acc K mg k G H0 M P H p ds) : ∃ vs : List V, H p = some (.lst vs) ∧ vs.length = ds.length ∧ G p := by
  obtain ⟨a, vs, ds', Fs, e1, e2, e3, e4, e5, e6, e7, e8⟩ := A.own
  cases e1
  cases e2
  exact ⟨vs, e3, e4, (e8 p).mpr (.inl rfl)⟩
theorem Acc.over {k : Kd} {G : AS} {H0 : Hp} {M M2 : AS} {P H P2 H2 : Hp} {p : Addr} {ds : List D} (A : Acc K mg k G H0 M P H p ds) (s : Stp M P H M2 P2 H2) : Acc K mg k G H0 M2 P2 H2 p ds := ⟨A.own.over A.fr s, A.fr.stay s⟩
/-- one more item -/
theorem Acc.app {k : Kd} {G Gy : AS} {H0 H1 : Hp} {Fs : Nat → AS} {P H : Hp} {σ : L2.St} {δ : Env} {p : Addr} {ds : List D} {y : V} {d : D} (E : EnvR K mg kd Fs P H σ δ) (A : Acc K mg k G H0 (All Fs) P H p ds) (hG : ∀ a, G a → ∃ o, H1 a = some o)
    (o : Own K mg k Gy P H y d) (f : Fr Gy H1 (All Fs) P H) (h01 : ∀ a o, H0 a = some o → ∃ o', H1 a = some o') :
    ∃ vs : List V, H p = some (.lst vs) ∧ vs.length = ds.length ∧ EnvR K mg kd Fs P (L2.upd H p (.lst (vs ++ [y]))) σ δ ∧ ∃ G', Acc K mg k G' H0 (All Fs) P (L2.upd H p (.lst (vs ++ [y]))) p (ds ++ [d]) ∧ (∀ a, G a → G' a) := by
  obtain ⟨a, vs, ds', Fl, e1, e2, e3, e4, e5, e6, e7, e8⟩ := A.own
  cases e1
  cases e2
  have hGp : G p := (e8 p).mpr (.inl rfl)
  refine ⟨vs, e3, e4, E.upd (A.fr.notP p hGp) (A.fr.notM p hGp) e3 (.inl ⟨_, rfl⟩), fun b => b = p ∨ (∃ j, Fl j b) ∨ Gy b, ⟨?_, ?_⟩, ?_⟩
  · refine own_app e3 e4 e5 e6 e7 o fun b g => ⟨fun z => ?_, fun j z => ?_⟩
    · subst z
      obtain ⟨u, hu⟩ := hG b hGp
      rw [f.new b g] at hu; cases hu
    · obtain ⟨u, hu⟩ := hG b ((e8 b).mpr (.inr ⟨j, z⟩))
      rw [f.new b g] at hu; cases hu
  · have back : ∀ b, (b = p ∨ (∃ j, Fl j b) ∨ Gy b) → G b ∨ Gy b := fun b z => by
      rcases z with z | z | z
      · exact .inl ((e8 b).mpr (.inl z))
      · exact .inl ((e8 b).mpr (.inr z))
      · exact .inr z
    refine ⟨fun b z => ?_, fun b z => ?_, fun b z => ?_, fun b z => ?_⟩
    · rcases back b z with g | g
      · exact A.fr.new b g
      · cases e : H0 b with
        | none => rfl
        | some u => obtain ⟨o', h'⟩ := h01 b u e; rw [f.new b g] at h'; cases h'
    · exact (back b z).elim (A.fr.notM b) (f.notM b)
    · exact (back b z).elim (A.fr.notP b) (f.notP b)
    · by_cases q : b = p
      · subst q; exact ⟨_, upd_same⟩
      · rw [upd_ne q]; exact (back b z).elim (A.fr.there b) (f.there b)
  · intro b g
    rcases (e8 b).mp g with z | z
    · exact .inl z
    · exact .inr (.inl z)
end
theorem bindEL {K : PySem.W.Frag} {mg : Str → Option Value} {kd : Kds} {W : WX} {k2 : Kd} {σ : L2.St} {Fs : Nat → AS} {P H : Hp} {R : It → Hp → Prop} {Q : VK} {r : Res (List D)} {g : List D → Env → Res D} (h : PostE K mg kd W k2 σ Fs P H Q (r.bind g))
    (hR : ∀ (xs : List D) (δ1 : Env) (J : It) (Fs1 : Nat → AS) (P1 H1 : Hp), EnvR K mg kd Fs1 P1 H1 σ δ1 → Stp (All Fs) P H (All Fs1) P1 H1 → ItOk K mg J P1 xs → PostE K mg kd W k2 σ Fs1 P1 H1 Q (g xs δ1) → R J H1) : PostI K mg kd W σ Fs P H R r := by
  cases r with
  | no => exact h
  | exn e δ1 => exact h
  | ok xs δ1 => exact fun J Fs1 P1 H1 E s hI => hR xs δ1 J Fs1 P1 H1 E s hI (PostE.later s h)
theorem lc_rd {K : PySem.W.Frag} {mg : Str → Option Value} {kd : Kds} {W : WX} {vs : List Nat} {g : DA} {s : D → Env → Option Env} {t : DT} {f : DE} {k : Kd} (hk : ∀ i ∈ vs, kd.at i = .sh) {σ : L2.St} {H : Hp} {Q : VK} (h : rdE K mg kd W (.li k) (dLc vs g s t f) σ H Q) :
    tLc (rdI K mg kd W g) (rdG K mg kd vs s) (rdT K mg kd W0 t) (rdE K mg kd W0 k f) vs σ H Q := by
  obtain ⟨Fs, P, δ, E, q⟩ := h
  refine ⟨Fs, P, δ, E, bindEL q fun xs δ1 J Fs1 P1 H1 E1 s1 hI q1 p hp => ?_⟩
  -- the list under way stands at p
  have E1w := E1.wipe hk
  cases el : lcD vs s t f xs [] (wipeD δ1 vs) with
  | no => rw [el] at q1; exact q1.elim
  | exn e δ2 => rw [el] at q1; exact q1.elim
  | ok l δe =>
    rw [el] at q1
    obtain ⟨a1, a2, a3⟩ := alloc_ow (o := .lst []) E1.sub hp
    have E2w := E1w.grow a1 a2
    have A0 : Acc K mg k (fun a => a = p) H1 (All Fs1) P1 (upd H1 p (.lst [])) p [] := by
      refine ⟨⟨p, [], [], fun _ => Non, rfl, rfl, upd_same, rfl, fun j v d z => by simp at z, fun _ _ _ z => z.elim, fun _ _ z => z.elim, fun b => ⟨fun e => .inl e, fun e => e.elim id fun ⟨_, z⟩ => z.elim⟩⟩, a3.new, fun a g m => ?_, a3.notP, a3.there⟩
      obtain ⟨u, hu⟩ := E1.all_in a m
      rw [a3.new a g] at hu; cases hu
    have S0 : Stp (All Fs1) P1 H1 (All Fs1) P1 (upd H1 p (.lst [])) := a1.wid
    let Pv : Nat → Hp → Prop := fun i H => ∃ (Fs' : Nat → AS) (P' : Hp) (δ' : Env) (G : AS) (acc : List D), EnvR K mg kd Fs' P' H (L2.wipe σ vs) δ' ∧ Stp (All Fs1) P1 H1 (All Fs') P' H ∧ Acc K mg k G H1 (All Fs') P' H p acc ∧
      lcD vs s t f (xs.drop i) acc δ' = .ok l δe
    refine ⟨fun i m H => m = xs.length - i ∧ i ≤ xs.length ∧ Pv i H, ⟨xs.length, by simp, Nat.zero_le _, Fs1, P1, wipeD δ1 vs, _, [], E2w, S0, A0, el⟩, ?_⟩
    rintro i m H2 ⟨rfl, hi, Fs2, P2, δ2, G2, acc, E2, S2, A2, e2⟩
    obtain ⟨h1, h2⟩ := hI i P2 H2 S2.grow E2.sub
    by_cases hlt : i < xs.length
    · right
      obtain ⟨hgo, hy⟩ := h1 _ (List.getElem?_eq_getElem hlt)
      refine ⟨hgo, Pv (i + 1), fun H' p' => ⟨xs.length - (i + 1), by omega, rfl, hlt, p'⟩, fun x H' y => ?_⟩
      obtain ⟨P3, st, sub3, r3⟩ := hy x H' y
      have E3 := E2.grow st sub3
      have S3 : Stp (All Fs1) P1 H1 (All Fs2) P3 H' := S2.trans st.wid
      have A3 := A2.over (M2 := All Fs2) st.wid
      refine ⟨Fs2, P3, δ2, xs[i], E3, r3, ?_⟩
      rw [List.drop_eq_getElem_cons hlt] at e2
      unfold lcD at e2
      cases es : s xs[i] δ2 with
      | none => rw [es] at e2; cases e2
      | some δ3 =>
        rw [es] at e2
        simp only at e2
        intro σ3 E4 w4
        refine ⟨by rw [w4]; exact wipe_wipe σ vs, Fs2, P3, δ3, E4, ?_⟩
        cases et : t δ3 with
        | no => rw [et] at e2; cases e2
        | exn e δ4 => rw [et] at e2; cases e2
        | ok b δ4 =>
          rw [et] at e2
          simp only at e2
          intro Fs5 P5 H5 E5 S5
          have A5 := A3.over S5
          have wσ : L2.wipe σ3 vs = L2.wipe σ vs := by rw [w4]; exact wipe_wipe σ vs
          cases b with
          | false =>
            rw [if_neg Bool.false_ne_true] at e2 ⊢
            have E6 := E5.wipe hk
            rw [wσ] at E6
            exact ⟨Fs5, P5, _, _, acc, E6, S3.trans S5, A5, e2⟩
          | true =>
            rw [if_pos rfl] at e2 ⊢
            refine ⟨Fs5, P5, δ4, E5, ?_⟩
            cases ef : f δ4 with
            | no => rw [ef] at e2; cases e2
            | exn e δ5 => rw [ef] at e2; cases e2
            | ok z δ5 =>
              rw [ef] at e2
              simp only at e2
              intro v6 Fs6 P6 H6 Gy E6 S6 f6 o6
              have A6 := A5.over S6
              have hG : ∀ a, G2 a → ∃ o, H5 a = some o := A5.fr.there
              obtain ⟨ws, hw, hl, E7, G', A7, _⟩ := A6.app E6 hG o6 f6 (S3.trans S5).dom
              by_cases hsz : acc.length < sizeLine
              · rw [if_pos hsz] at e2
                refine ⟨ws, hw, by rw [hl]; exact hsz, Fs6, P6, _, G', acc ++ [z], ?_, ?_, A7, e2⟩
                · have E8 := E7.wipe hk
                  rw [wσ] at E8
                  exact E8
                · have hpn : H1 p = none := hp
                  have S := (S3.trans S5).trans S6
                  refine ⟨fun a o h n t => ?_, S.grow, S.newP, S.newM, fun a o h => ?_⟩
                  · rw [upd_ne (fun z => by subst z; rw [hpn] at h; cases h)]; exact S.keep a o h n t
                  · by_cases q : a = p
                    · subst q; exact ⟨_, upd_same⟩
                    · rw [upd_ne q]; exact S.dom a o h
              · rw [if_neg hsz] at e2; cases e2
    · left
      have e : i = xs.length := by omega
      subst e
      rw [List.drop_length] at e2
      unfold lcD at e2
      cases e2
      refine ⟨h2 (Nat.le_refl _), ?_⟩
      exact q1 _ Fs2 P2 H2 G2 (EnvR.unwipe E1 E2 S2.grow hk) S2 A2.fr A2.own
theorem ve_lc {X : Cx} {kd : Kds} {W : WX} {k : Kd} {elt tg iter : Expr} {ifs : List Expr} {scope : Scope} {pos : Pos} {g : DA} {s : D → Env → Option Env} {t : DT} {f : DE} (own : List (Str × Nat)) (hN : X.N.Nodup) (hi : VI X kd W tg iter g) (ok : BlkOk X.N X.env.scope scope own)
    (hg : ∀ (s0 : Shared) (H : Hp) (C : Addr) (cl : List (Str × Addr)) (fp : List Addr), VG (X.blk s0 H scope (compEnvC scope cl C X.env) fp) kd (own.map (·.2)) tg s)
    (ht : ∀ (s0 : Shared) (H : Hp) (C : Addr) (cl : List (Str × Addr)) (fp : List Addr), PTs (X.blk s0 H scope (compEnvC scope cl C X.env) fp) ifs (rdT X.K X.mg kd W0 t))
    (he : ∀ (s0 : Shared) (H : Hp) (C : Addr) (cl : List (Str × Addr)) (fp : List Addr), VE (X.blk s0 H scope (compEnvC scope cl C X.env) fp) kd W0 k elt f)
    (hk : ∀ i ∈ own.map (·.2), kd.at i = .sh := by repeat (first | exact allNil | refine allCons rfl ?_)) (hc : X.calm = true := by rfl) (hs : ∀ x, foldedSetIterable iter X.env x = pure x := by intro _; rfl) :
    VE X kd W (.li k) (.ListComp elt [⟨tg, iter, ifs, 0⟩] scope pos) (dLc (own.map (·.2)) g s t f) := PE.imp (pe_lc hc hN hi ok hg ht he hs) fun _ _ _ h => lc_rd hk h
def dYes : DT := fun δ => .ok true δ
theorem vts_nil {X : Cx} {kd : Kds} : PTs X [] (rdT X.K X.mg kd W0 dYes) := ⟨fun pins s σ H Q I ⟨Fs, P, δ, E, q⟩ => pts_nil.run pins s σ H Q I (q Fs P H E Stp.refl)⟩
theorem vts_one {X : Cx} {kd : Kds} {c : Expr} {t : DT} (h : VT X kd W0 c t) : PTs X [c] (rdT X.K X.mg kd W0 t) := pts_one h
/-- y = [..] in one statement -/
theorem vs_setLc {X : Cx} {fx : Fx} {kd : Kds} (i : Nat) {y : Str} {py : Pos} {k : Kd} {elt tg iter : Expr} {ifs : List Expr} {scope : Scope} {pos spos : Pos} {g : DA} {s : D → Env → Option Env} {t : DT} {f : DE} (own : List (Str × Nat)) (hN : X.N.Nodup) (hsw : swapsWith (.ListComp elt [⟨tg, iter, ifs, 0⟩] scope pos) (some (.Name y py)) spos.line X.env = pure true)
    (hi : VI X kd fx.W tg iter g) (ok : BlkOk X.N X.env.scope scope own)
    (hg : ∀ (s0 : Shared) (H : Hp) (C : Addr) (cl : List (Str × Addr)) (fp : List Addr), VG (X.blk s0 H scope (compEnvC scope cl C X.env) fp) kd (own.map (·.2)) tg s)
    (ht : ∀ (s0 : Shared) (H : Hp) (C : Addr) (cl : List (Str × Addr)) (fp : List Addr), PTs (X.blk s0 H scope (compEnvC scope cl C X.env) fp) ifs (rdT X.K X.mg kd W0 t))
    (he : ∀ (s0 : Shared) (H : Hp) (C : Addr) (cl : List (Str × Addr)) (fp : List Addr), VE (X.blk s0 H scope (compEnvC scope cl C X.env) fp) kd W0 k elt f)
    (hk : ∀ i ∈ own.map (·.2), kd.at i = .sh := by repeat (first | exact allNil | refine allCons rfl ?_)) (hy : X.N[i]? = some y := by rfl) (hyl : X.env.scope.names.lookup y = some .local := by rfl) (hl : i < kd.length := by exact Nat.le_of_ble_eq_true rfl) (hxr : fx.XR kd := by first | trivial | rfl) (hc : X.calm = true := by rfl) (hs : ∀ x, foldedSetIterable iter X.env x = pure x := by intro _; rfl) :
    VS X fx kd (kd.set i (.li k)) (.Assign [.Name y py] (.ListComp elt [⟨tg, iter, ifs, 0⟩] scope pos) spos) (dSet i (dLc (own.map (·.2)) g s t f)) := by
  have h := ps_setLc (g := rdG X.K X.mg kd (own.map (·.2)) s) (tt := rdT X.K X.mg kd W0 t) (te := rdE X.K X.mg kd W0 k f) hc hN hy hyl hsw hi ok hg ht he hs
  refine PS.imp h fun D' σ H q => ?_
  have q := set_rd hl hxr q
  exact lc_rd hk q
end VL

set_option Elab.async false
set_option linter.all false
set_option maxRecDepth 100000
/-! Layer V: displays, subscripts, slices, built-in calls, borrowing. -/
namespace VL
open PySem PySem.Spec PyProof.Rows L2
section
variable {K : PySem.W.Frag} {mg : Str → Option Value}
/-! ### displays -/
def dTupD : List D → Option D := fun ds => if ds.length ≤ sizeLine then some (.tup ds) else none
def dLstD : List D → Option D := fun ds => if ds.length ≤ sizeLine then some (.lst ds) else none
def rTupL : List V → Hp → VK → Prop := fun xs H Q => xs.length ≤ sizeLine ∧ ∀ p, H p = none → Q (.ref p) (upd H p (.tup xs))
def rLstL : List V → Hp → VK → Prop := fun xs H Q => xs.length ≤ sizeLine ∧ ∀ p, H p = none → Q (.ref p) (upd H p (.lst xs))
theorem a_tup : ArD K mg rTupL .sh dTupD := by
  intro P H vs ds z Q s r h c
  unfold dTupD at h
  by_cases q : ds.length ≤ sizeLine
  · rw [if_pos q] at h; cases h
    exact ⟨by rw [r.length]; exact q, fun p hp => Cont.tup c s r hp⟩
  · rw [if_neg q] at h; cases h
theorem a_lst : ArD K mg rLstL (.li .sh) dLstD := by
  intro P H vs ds z Q s r h c
  unfold dLstD at h
  by_cases q : ds.length ≤ sizeLine
  · rw [if_pos q] at h; cases h
    exact ⟨by rw [r.length]; exact q, fun p hp => Cont.lst c s r hp⟩
  · rw [if_neg q] at h; cases h
end
section
variable {X : Cx} {kd : Kds} {W : WX} {pos : Pos} {es : List Expr} {f : DA}
theorem ve_tup {x1} (h : VA X kd W es f) : VE X kd W .sh (.Tuple es x1 pos) (dAr dTupD f) := PE.imp (pe_tup h) fun _ _ _ q => ar_rd a_tup q
theorem ve_lst (h : VA X kd W es f) : VE X kd W (.li .sh) (.List es pos) (dAr dLstD f) := PE.imp (pe_lst h) fun _ _ _ q => ar_rd a_lst q
end
/-! ### subscripts -/
def idxD : D → D → Option D
  | .lst l, .int i => atI l i
  | .tup l, .int i => atI l i
  | .str z, .int i => if z.length ≤ sizeLine then (atI z.cps.toList i).map fun c => .str ⟨#[c]⟩ else none
  | _, _ => none
theorem atI_rep {K : PySem.W.Frag} {mg : Str → Option Value} {P : Hp} {vs : List V} {ds : List D} {i : Int} {d : D} (r : RepL K mg P vs ds) (h : atI ds i = some d) : ∃ v, atI vs i = some v ∧ Rep K mg P v d := by
  unfold atI at h ⊢
  rw [r.length]
  cases e : ixN ds.length i with
  | none => rw [e] at h; cases h
  | some j =>
    rw [e] at h
    simp only [Option.bind_some] at h ⊢
    exact r.get h
theorem d_idx {K : PySem.W.Frag} {mg : Str → Option Value} : OpD K mg (rIx K) .sh idxD := by
  intro P H x y d e z Q s r1 r2 h c
  unfold idxD at h
  cases r2 with
  | int i =>
    cases r1 with
    | @lst a vs ds h1 l1 =>
      obtain ⟨v, e1, e2⟩ := atI_rep l1 h
      exact .inl ⟨a, vs, i, v, rfl, rfl, SqL.of (s.at h1), e1, Cont.val c s e2⟩
    | @tup a vs ds h1 l1 =>
      obtain ⟨v, e1, e2⟩ := atI_rep l1 h
      exact .inr (.inl ⟨a, vs, i, v, rfl, rfl, s.sqt h1, e1, Cont.val c s e2⟩)
    | str zz =>
      by_cases q : zz.length ≤ sizeLine
      · simp only [if_pos q] at h
        cases e : atI zz.cps.toList i with
        | none => rw [e] at h; cases h
        | some k => rw [e] at h; cases h; exact .inr (.inr ⟨zz, i, k, rfl, rfl, q, e, Cont.val c s (.str _)⟩)
      · simp only [if_neg q] at h; cases h
    | _ => cases h
  | _ => cases r1 <;> cases h
theorem ve_idx {X : Cx} {kd : Kds} {W : WX} {pos : Pos} {a b : Expr} {f g : DE} (ha : VE X kd W .sh a f) (hb : VE X kd W .sh b g) (hs : PlainIx b := by exact fun _ _ => rfl) : VE X kd W .sh (.Subscript a b pos) (dBin idxD f g) :=
  PE.imp (pe_ix ix_seq ha hb hs) fun _ _ _ h => bin_rd d_idx h
/-! ### slices -/
def cutD (l : List D) (lo hi : Option Int) : List D := (l.drop (HT.sIx l.length 0 lo)).take (HT.sIx l.length l.length hi - HT.sIx l.length 0 lo)
def sliD : D → Option Int → Option Int → Option D
  | .tup l, lo, hi => some (.tup (cutD l lo hi))
  | .str z, lo, hi => if z.length ≤ sizeLine then some (.str (cutS z lo hi)) else none
  | _, _, _ => none
def sliL : D → Option Int → Option Int → Option D
  | .lst l, lo, hi => some (.lst (cutD l lo hi))
  | _, _, _ => none
theorem repL_cut {K : PySem.W.Frag} {mg : Str → Option Value} {P : Hp} {vs : List V} {ds : List D} (r : RepL K mg P vs ds) (lo hi : Option Int) : RepL K mg P (cutV vs lo hi) (cutD ds lo hi) := by
  have drop : ∀ {vs : List V} {ds : List D} (n : Nat), RepL K mg P vs ds → RepL K mg P (vs.drop n) (ds.drop n) := by
    intro vs ds n r
    induction n generalizing vs ds with
    | zero => exact r
    | succ n ih =>
      cases r with
      | nil => exact .nil
      | cons _ b => exact ih b
  have take : ∀ {vs : List V} {ds : List D} (n : Nat), RepL K mg P vs ds → RepL K mg P (vs.take n) (ds.take n) := by
    intro vs ds n r
    induction n generalizing vs ds with
    | zero => exact .nil
    | succ n ih =>
      cases r with
      | nil => exact .nil
      | cons a b => exact .cons a (ih b)
  unfold cutV cutD
  rw [r.length]
  exact take _ (drop _ r)
/-- a bound that may be left out -/
abbrev DP := Env → Res (Option Int)
def dNo0 : DP := fun δ => .ok none δ
def dPart (f : DE) : DP := fun δ => (f δ).bind fun d δ1 => match d with
  | .int i => .ok (some i) δ1
  | _ => .no
def dSli (sl : D → Option Int → Option Int → Option D) (f : DE) (l h : DP) : DE := fun δ => (f δ).bind fun d δ1 => (l δ1).bind fun lo δ2 => (h δ2).bind fun hi δ3 => lift (sl d lo hi) δ3
section
variable {K : PySem.W.Frag} {mg : Str → Option Value} {kd : Kds} {W : WX}
def PostP (K : PySem.W.Frag) (mg : Str → Option Value) (kd : Kds) (W : WX) (σ : L2.St) (Fs : Nat → AS) (P H : Hp) (Q : Option Int → Hp → Prop) : Res (Option Int) → Prop
  | .ok b δ' => ∀ (Fs' : Nat → AS) (P' H' : Hp), EnvR K mg kd Fs' P' H' σ δ' → Stp (All Fs) P H (All Fs') P' H' → Q b H'
  | .exn e δ' => ∀ (cls : Value) (dx : Option Addr) (Fs' : Nat → AS) (P' H' : Hp), EnvR K mg kd Fs' P' H' σ δ' → Stp (All Fs) P H (All Fs') P' H' → ExR K mg P' cls dx e → W cls dx σ H'
  | .no => False
def rdP (K : PySem.W.Frag) (mg : Str → Option Value) (kd : Kds) (W : WX) (f : DP) : TO := fun σ H Q => ∃ (Fs : Nat → AS) (P : Hp) (δ : Env), EnvR K mg kd Fs P H σ δ ∧ PostP K mg kd W σ Fs P H Q (f δ)
end
abbrev VP (X : Cx) (kd : Kds) (W : WX) (e : Option Expr) (f : DP) : Prop := PO X e (rdP X.K X.mg kd W f)
theorem PO.imp {X : Cx} {e : Option Expr} {t t' : TO} (h : PO X e t) (i : ∀ σ H Q, t' σ H Q → t σ H Q) : PO X e t' := ⟨fun pins s σ H Q I q => h.run pins s σ H Q I (i σ H Q q)⟩
section
variable {X : Cx} {kd : Kds} {W : WX} {pos p2 : Pos}
theorem vp_none : VP X kd W none dNo0 := PO.imp po_none fun σ H Q ⟨Fs, P, δ, E, q⟩ => q Fs P H E Stp.refl
theorem vp_some {e : Expr} {f : DE} (h : VE X kd W .sh e f) : VP X kd W (some e) (dPart f) := PO.imp (po_some h) fun σ H Q ⟨Fs, P, δ, E, q⟩ => by
  refine ⟨Fs, P, δ, E, ?_⟩
  revert q
  unfold dPart
  cases f δ with
  | no => exact fun q => q
  | exn e δ1 => exact fun q => q
  | ok d δ1 =>
    intro q v Fs1 P1 H1 G1 E1 s1 f1 o1
    cases o1.sh_rep with
    | int i => exact ⟨i, rfl, q _ _ _ E1 s1⟩
    | _ => exact q.elim
theorem sli_rd {K : PySem.W.Frag} {mg : Str → Option Value} {r : V → Option Int → Option Int → Hp → VK → Prop} {k : Kd} {sl : D → Option Int → Option Int → Option D}
    (ho : ∀ (P H : Hp) (x : V) (d z : D) (lo hi : Option Int) (Q : VK), Lie P H → Rep K mg P x d → sl d lo hi = some z → Cont K mg P H k z Q → r x lo hi H Q) {f : DE} {l h : DP} {σ : L2.St} {H : Hp} {Q : VK}
    (hh : rdE K mg kd W k (dSli sl f l h) σ H Q) : tSl r (rdE K mg kd W .sh f) (rdP K mg kd W l) (rdP K mg kd W h) σ H Q := by
  obtain ⟨Fs, P, δ, E, q⟩ := hh
  refine ⟨Fs, P, δ, E, ?_⟩
  have q1 := bindE (k := .sh) q
  revert q1
  cases f δ with
  | no => exact fun q => q
  | exn e δ1 => exact fun q => q
  | ok d δ1 =>
    intro q1 v1 Fs1 P1 H1 G1 E1 s1 f1 o1
    obtain ⟨d', δ1', Fs1', P1', G1', E1', s1', f1', o1', q2⟩ := q1 v1 Fs1 P1 H1 G1 E1 s1 f1 o1
    refine ⟨Fs1', P1', δ1', E1', ?_⟩
    revert q2
    cases el : l δ1' with
    | no => exact fun q => q
    | exn e δ1 => exact fun q => q
    | ok lo δ2 =>
      intro q2 Fs2 P2 H2 E2 s2
      refine ⟨Fs2, P2, δ2, E2, ?_⟩
      have q2 := PostE.later s2 q2
      revert q2
      show PostE K mg kd W k σ Fs2 P2 H2 Q ((h δ2).bind fun hi δ3 => lift (sl d' lo hi) δ3) → _
      cases h δ2 with
      | no => exact fun q => q
      | exn e δ1 => exact fun q => q
      | ok hi δ3 =>
        intro q3 Fs3 P3 H3 E3 s3
        have q3 : PostE K mg kd W k σ Fs3 P3 H3 Q (lift (sl d' lo hi) δ3) := PostE.later s3 q3
        unfold lift at q3
        cases ez : sl d' lo hi with
        | none => rw [ez] at q3; exact q3.elim
        | some z =>
          rw [ez] at q3
          exact ho P3 H3 v1 d' z lo hi Q E3.sub ((o1'.sh_rep.mono s2.grow).mono s3.grow) ez fun v P' H' G s hs fr ow => PostE.step E3 s hs fr ow q3
/-- t[a:b] of a tuple or a text -/
theorem ve_sli {e : Expr} {lo hi : Option Expr} {f : DE} {l h : DP} (he : VE X kd W .sh e f) (hl : VP X kd W lo l) (hh : VP X kd W hi h) : VE X kd W .sh (.Subscript e (.Slice lo hi none p2) pos) (dSli sliD f l h) :=
  PE.imp (pe_slice (sl_tupA.or sl_str) he hl hh) fun _ _ _ q => sli_rd (fun P H x d z lo hi Q s r h c => by
    unfold sliD at h
    cases r with
    | @tup a vs ds h1 l1 =>
      cases h
      refine .inl ⟨a, vs, rfl, s.sqt h1, fun w => ?_, fun w p hp => Cont.tup c s (repL_cut l1 lo hi) hp⟩
      have e : cutD ds lo hi = ds := by
        unfold cutD
        rw [← l1.length, w.1, w.2, List.drop_zero, Nat.sub_zero, List.take_of_length_le (by rw [l1.length]; exact Nat.le_refl _)]
      rw [e] at c
      exact Cont.val c s (.tup h1 l1)
    | str zz =>
      by_cases q : zz.length ≤ sizeLine
      · simp only [if_pos q] at h; cases h; exact .inr ⟨zz, rfl, q, Cont.val c s (.str _)⟩
      · simp only [if_neg q] at h; cases h
    | _ => cases h) q
/-- xs[a:b] of a list -/
theorem ve_sliL {e : Expr} {lo hi : Option Expr} {f : DE} {l h : DP} (he : VE X kd W .sh e f) (hl : VP X kd W lo l) (hh : VP X kd W hi h) : VE X kd W (.li .sh) (.Subscript e (.Slice lo hi none p2) pos) (dSli sliL f l h) :=
  PE.imp (pe_slice sl_list he hl hh) fun _ _ _ q => sli_rd (fun P H x d z lo hi Q s r h c => by
    unfold sliL at h
    cases r with
    | @lst a vs ds h1 l1 => cases h; exact ⟨a, vs, rfl, SqL.of (s.at h1), fun p hp => Cont.lst c s (repL_cut l1 lo hi) hp⟩
    | _ => cases h) q
end
/-! ### built-in calls -/
section
variable {K : PySem.W.Frag} {mg : Str → Option Value}
def lenD : List D → Option D
  | [.lst l] => some (.int l.length)
  | [.tup l] => some (.int l.length)
  | [.str z] => if z.length ≤ sizeLine then some (.int z.length) else none
  | [.dct l] => some (.int l.length)
  | _ => none
/-- the case of one argument -/
theorem ar1 {P : Hp} {vs : List V} {d : D} (r : RepL K mg P vs [d]) : ∃ v, vs = [v] ∧ Rep K mg P v d := by
  cases r with
  | cons a b => cases b; exact ⟨_, rfl, a⟩
theorem ar2 {P : Hp} {vs : List V} {d e : D} (r : RepL K mg P vs [d, e]) : ∃ v u, vs = [v, u] ∧ Rep K mg P v d ∧ Rep K mg P u e := by
  cases r with
  | cons a b =>
    cases b with
    | cons a' b => cases b; exact ⟨_, _, rfl, a, a'⟩
def rLen4 (K : PySem.W.Frag) : List V → Hp → VK → Prop := fun xs H Q => (∃ p ys, xs = [.ref p] ∧ (SqL K H p ys ∨ SqT K H p ys) ∧ Q (.int ys.length) H) ∨ (∃ z, xs = [.str z] ∧ z.length ≤ sizeLine ∧ Q (.int z.length) H) ∨ ∃ d kvs, xs = [.ref d] ∧ H d = some (.dK kvs) ∧ Q (.int kvs.length) H
theorem a_len : ArD K mg (rLen4 K) .sh lenD := by
  intro P H vs ds z Q s r h c
  unfold lenD at h
  split at h
  · obtain ⟨v, rfl, r1⟩ := ar1 r
    cases h
    cases r1 with
    | @lst a vs ds h1 l1 => rw [← l1.length] at c; exact .inl ⟨a, vs, rfl, .inl (SqL.of (s.at h1)), Cont.val c s (.int _)⟩
  · obtain ⟨v, rfl, r1⟩ := ar1 r
    cases h
    cases r1 with
    | @tup a vs ds h1 l1 => rw [← l1.length] at c; exact .inl ⟨a, vs, rfl, .inr (s.sqt h1), Cont.val c s (.int _)⟩
  · obtain ⟨v, rfl, r1⟩ := ar1 r
    split at h
    · rename_i q
      cases h
      cases r1
      exact .inr (.inl ⟨_, rfl, q, Cont.val c s (.int _)⟩)
    · cases h
  · rename_i l
    obtain ⟨v, rfl, r1⟩ := ar1 r
    cases h
    cases r1 with
    | @dct a kvs es h1 e1 l1 =>
      have e : kvs.length = l.length := by have := congrArg List.length e1; simpa using this
      rw [← e] at c
      exact .inr (.inr ⟨a, kvs, rfl, s.at h1, Cont.val c s (.int _)⟩)
  · cases h
/-- tuple(xs), list(xs) -/
def tupOf : List D → Option D
  | [.lst l] => some (.tup l)
  | [.tup l] => some (.tup l)
  | _ => none
def lstOf : List D → Option D
  | [.lst l] => some (.lst l)
  | [.frz l] => some (.lst l)
  | [.tup l] => some (.lst l)
  | _ => none
theorem a_tupOf : ArD K mg (fun xs H Q => ∃ p ys, xs = [.ref p] ∧ ((SqL K H p ys ∧ ∀ l, H l = none → Q (.ref l) (upd H l (.tup ys))) ∨ (SqT K H p ys ∧ Q (.ref p) H))) .sh tupOf := by
  intro P H vs ds z Q s r h c
  unfold tupOf at h
  split at h
  · obtain ⟨v, rfl, r1⟩ := ar1 r
    cases h
    cases r1 with
    | @lst a vs ds h1 l1 => exact ⟨a, vs, rfl, .inl ⟨SqL.of (s.at h1), fun p hp => Cont.tup c s l1 hp⟩⟩
  · obtain ⟨v, rfl, r1⟩ := ar1 r
    cases h
    cases r1 with
    | @tup a vs ds h1 l1 => exact ⟨a, vs, rfl, .inr ⟨s.sqt h1, Cont.val c s (.tup h1 l1)⟩⟩
  · cases h
theorem a_lstOf : ArD K mg (fun xs H Q => ∃ p ys, xs = [.ref p] ∧ (SqL K H p ys ∨ SqT K H p ys) ∧ ∀ l, H l = none → Q (.ref l) (upd H l (.lst ys))) (.li .sh) lstOf := by
  intro P H vs ds z Q s r h c
  unfold lstOf at h
  split at h
  · obtain ⟨v, rfl, r1⟩ := ar1 r
    cases h
    cases r1 with
    | @lst a vs ds h1 l1 => exact ⟨a, vs, rfl, .inl (SqL.of (s.at h1)), fun p hp => Cont.lst c s l1 hp⟩
  · obtain ⟨v, rfl, r1⟩ := ar1 r
    cases h
    cases r1 with
    | @frz a vs ds h1 l1 => exact ⟨a, vs, rfl, .inl (s.sql h1), fun p hp => Cont.lst c s l1 hp⟩
  · obtain ⟨v, rfl, r1⟩ := ar1 r
    cases h
    cases r1 with
    | @tup a vs ds h1 l1 => exact ⟨a, vs, rfl, .inr (s.sqt h1), fun p hp => Cont.lst c s l1 hp⟩
  · cases h
/-- all, any of a list of True, False -/
def bools : List D → Option (List Bool)
  | [] => some []
  | .bl b :: l => (bools l).map (b :: ·)
  | _ => none
theorem bools_rep {P : Hp} : ∀ {l : List D} {bs : List Bool} {vs : List V}, bools l = some bs → RepL K mg P vs l → vs = bs.map V.bl
  | [], _, _, h, .nil => by simp [bools] at h; subst h; rfl
  | d :: l, bs, _, h, .cons r1 r2 => by
    cases d with
    | bl b =>
      unfold bools at h
      cases e : bools l with
      | none => rw [e] at h; cases h
      | some cs =>
        rw [e] at h
        cases h
        cases r1
        rw [bools_rep e r2]; rfl
    | _ => simp [bools] at h
def allD : List D → Option D
  | [.lst l] => (bools l).map fun bs => .bl (bs.all id)
  | _ => none
def anyD : List D → Option D
  | [.lst l] => (bools l).map fun bs => .bl (bs.any id)
  | _ => none
theorem a_all : ArD K mg (rAll K) .sh allD := by
  intro P H vs ds z Q s r h c
  unfold allD at h
  split at h
  · rename_i l
    obtain ⟨v, rfl, r1⟩ := ar1 r
    cases e : bools l with
    | none => rw [e] at h; cases h
    | some bs =>
      rw [e] at h
      cases h
      cases r1 with
      | @lst a vs ds h1 l1 => exact ⟨a, bs, rfl, by rw [← bools_rep e l1]; exact SqL.of (s.at h1), Cont.val c s (.bl _)⟩
  · cases h
theorem a_any : ArD K mg (rAny K) .sh anyD := by
  intro P H vs ds z Q s r h c
  unfold anyD at h
  split at h
  · rename_i l
    obtain ⟨v, rfl, r1⟩ := ar1 r
    cases e : bools l with
    | none => rw [e] at h; cases h
    | some bs =>
      rw [e] at h
      cases h
      cases r1 with
      | @lst a vs ds h1 l1 => exact ⟨a, bs, rfl, by rw [← bools_rep e l1]; exact SqL.of (s.at h1), Cont.val c s (.bl _)⟩
  · cases h
/-- intsD -/
def intsD : List D → Option (List Int)
  | [] => some []
  | .int i :: l => (intsD l).map (i :: ·)
  | _ => none
theorem intsD_rep {P : Hp} : ∀ {l : List D} {ns : List Int} {vs : List V}, intsD l = some ns → RepL K mg P vs l → vs = ns.map V.int
  | [], _, _, h, .nil => by simp [intsD] at h; subst h; rfl
  | d :: l, bs, _, h, .cons r1 r2 => by
    cases d with
    | int b =>
      unfold intsD at h
      cases e : intsD l with
      | none => rw [e] at h; cases h
      | some cs =>
        rw [e] at h
        cases h
        cases r1
        rw [intsD_rep e r2]; rfl
    | _ => simp [intsD] at h
def absD : List D → Option D
  | [.int i] => some (.int (if i < 0 then -i else i))
  | _ => none
theorem a_abs : ArD K mg (fun xs H Q => ∃ i, xs = [.int i] ∧ Q (.int (if i < 0 then -i else i)) H) .sh absD := by
  intro P H vs ds z Q s r h c
  unfold absD at h
  split at h
  · obtain ⟨v, rfl, r1⟩ := ar1 r
    cases h
    cases r1
    exact ⟨_, rfl, Cont.val c s (.int _)⟩
  · cases h
def max2D : List D → Option D
  | [.int i, .int j] => some (.int (if j > i then j else i))
  | _ => none
def min2D : List D → Option D
  | [.int i, .int j] => some (.int (if j < i then j else i))
  | _ => none
theorem a_max2 : ArD K mg (fun xs H Q => ∃ i j, xs = [.int i, .int j] ∧ Q (.int (if j > i then j else i)) H) .sh max2D := by
  intro P H vs ds z Q s r h c
  unfold max2D at h
  split at h
  · obtain ⟨v, u, rfl, r1, r2⟩ := ar2 r
    cases h
    cases r1
    cases r2
    exact ⟨_, _, rfl, Cont.val c s (.int _)⟩
  · cases h
theorem a_min2 : ArD K mg (fun xs H Q => ∃ i j, xs = [.int i, .int j] ∧ Q (.int (if j < i then j else i)) H) .sh min2D := by
  intro P H vs ds z Q s r h c
  unfold min2D at h
  split at h
  · obtain ⟨v, u, rfl, r1, r2⟩ := ar2 r
    cases h
    cases r1
    cases r2
    exact ⟨_, _, rfl, Cont.val c s (.int _)⟩
  · cases h
def intD : List D → Option D
  | [.int i] => some (.int i)
  | [.bl k] => some (.int (if k then 1 else 0))
  | _ => none
theorem a_int : ArD K mg (fun xs H Q => (∃ i, xs = [.int i] ∧ Q (.int i) H) ∨ ∃ k, xs = [.bl k] ∧ Q (.int (if k then 1 else 0)) H) .sh intD := by
  intro P H vs ds z Q s r h c
  unfold intD at h
  split at h
  · obtain ⟨v, rfl, r1⟩ := ar1 r
    cases h
    cases r1
    exact .inl ⟨_, rfl, Cont.val c s (.int _)⟩
  · obtain ⟨v, rfl, r1⟩ := ar1 r
    cases h
    cases r1
    exact .inr ⟨_, rfl, Cont.val c s (.int _)⟩
  · cases h
def gcdD : List D → Option D
  | [.int i, .int j] => some (.int (Nat.gcd i.natAbs j.natAbs : Nat))
  | _ => none
theorem a_gcd : ArD K mg rGcd .sh gcdD := by
  intro P H vs ds z Q s r h c
  unfold gcdD at h
  split at h
  · obtain ⟨v, u, rfl, r1, r2⟩ := ar2 r
    cases h
    cases r1
    cases r2
    exact ⟨_, _, rfl, Cont.val c s (.int _)⟩
  · cases h
end
theorem call_len4 {X : Cx} : CallR X (.builtin "len") (rLen4 X.K) := fun pins s σ H vs us Q I r h => by
  rcases h with h | h | ⟨d, kvs, rfl, hd, q⟩
  · exact call_len_seq pins s σ H vs us Q I r h
  · exact call_len_str pins s σ H vs us Q I r h
  · exact call_lenD pins s σ H _ us Q I r ⟨d, kvs, rfl, hd, q⟩
end VL

set_option Elab.async false
set_option linter.all false
set_option maxRecDepth 100000
/-! Layer V: owned slots changed; borrowing. -/
namespace VL
open PySem PySem.Spec PyProof.Rows L2
section
variable {K : PySem.W.Frag} {mg : Str → Option Value} {kd kd0 : Kds} {Fs : Nat → AS} {P H : Hp} {σ : L2.St} {δ : Env}
/-- the object at p, of slot i, is changed; Gy: the new value's own cells -/
theorem EnvR.write {i : Nat} {p : Addr} {o : HO} {F' Gy : AS} {v : V} {d d' : D} {H0 : Hp} (E : EnvR K mg kd Fs P H σ δ) (hd : δ[i]? = some (some d)) (hv : σ[i]? = some (some v)) (hp : Fs i p) (ow : Own K mg (kd.at i) F' P (L2.upd H p o) v d')
    (hF : ∀ a, F' a → Fs i a ∨ Gy a) (f : Fr Gy H0 (All Fs) P H) : EnvR K mg kd (upF Fs i F') P (L2.upd H p o) σ (δ.set i (some d')) where
  sub := by
    obtain ⟨v0, _, o0⟩ := E.slot i d hd
    obtain ⟨u, hu, hm⟩ := o0.mu p hp
    exact E.sub.chg hu hm (E.out i p hp).1
  slot j e h := by
    by_cases q : j = i
    · subst q
      rw [List.getElem?_set_self (List.getElem?_eq_some_iff.mp hd).1] at h
      cases h
      exact ⟨v, hv, by rw [upF_same]; exact ow⟩
    · rw [List.getElem?_set_ne (Ne.symm q)] at h
      obtain ⟨u, h1, h2⟩ := E.slot j e h
      refine ⟨u, h1, ?_⟩
      rw [upF_ne q]
      exact h2.stay (Sub.refl _) fun a w ff ee _ => by rw [upd_ne (fun z => by subst z; exact q (E.sep j i a ff hp))]; exact ee
  only j a h := by
    by_cases q : j = i
    · subst q; exact ⟨d', List.getElem?_set_self (List.getElem?_eq_some_iff.mp hd).1⟩
    · rw [upF_ne q] at h
      obtain ⟨e, h1⟩ := E.only j a h
      exact ⟨e, by rw [List.getElem?_set_ne (Ne.symm q)]; exact h1⟩
  sep j l a h1 h2 := by
    have no : ∀ m, m ≠ i → Fs m a → F' a → False := fun m hm z w => (hF a w).elim (fun y => hm (E.sep m i a z y)) fun y => f.notM a y ⟨m, z⟩
    by_cases q : j = i
    · by_cases q2 : l = i
      · exact q.trans q2.symm
      · subst q; rw [upF_same] at h1; rw [upF_ne q2] at h2; exact (no l q2 h2 h1).elim
    · rw [upF_ne q] at h1
      by_cases q2 : l = i
      · subst q2; rw [upF_same] at h2; exact (no j q h1 h2).elim
      · rw [upF_ne q2] at h2; exact E.sep j l a h1 h2
  out j a h := by
    have there : ∀ b, (∃ u, H b = some u) → ∃ u, (L2.upd H p o) b = some u := fun b ⟨u, hu⟩ => by
      by_cases q : b = p
      · subst q; exact ⟨o, upd_same⟩
      · exact ⟨u, by rw [upd_ne q]; exact hu⟩
    by_cases q : j = i
    · subst q
      rw [upF_same] at h
      rcases hF a h with z | z
      · exact ⟨(E.out j a z).1, there a (E.out j a z).2⟩
      · exact ⟨f.notP a z, there a (f.there a z)⟩
    · rw [upF_ne q] at h
      exact ⟨(E.out j a h).1, there a (E.out j a h).2⟩
  len := by rw [List.length_set]; exact E.len
  lenK := E.lenK
theorem Stp.write {Fs0 : Nat → AS} {P0 H0 : Hp} {i : Nat} {p : Addr} {o : HO} {F' Gy : AS} (s : Stp (All Fs0) P0 H0 (All Fs) P H) (hp : Fs i p) (hF : ∀ a, F' a → Fs i a ∨ Gy a) (f : Fr Gy H0 (All Fs) P H) :
    Stp (All Fs0) P0 H0 (All (upF Fs i F')) P (L2.upd H p o) where
  keep a u h n t := by
    rw [upd_ne (fun z => by
      subst z
      rcases s.newM a ⟨i, hp⟩ with y | y
      · exact n y
      · rw [h] at y; cases y)]
    exact s.keep a u h n t
  grow := s.grow
  newP := s.newP
  newM a h := (all_upF h).elim (s.newM a) fun z => (hF a z).elim (fun y => s.newM a ⟨i, y⟩) fun y => .inr (f.new a y)
  dom a u h := by
    by_cases q : a = p
    · subst q; exact ⟨o, upd_same⟩
    · rw [upd_ne q]; exact s.dom a u h
/-- an owned list's own list, its cell -/
theorem Own.li_at {k : Kd} {F : AS} {v : V} {d : D} (o : Own K mg (.li k) F P H v d) : ∃ (p : Addr) (vs : List V) (ds : List D) (Fl : Nat → AS), v = .ref p ∧ d = .lst ds ∧ H p = some (.lst vs) ∧ vs.length = ds.length ∧
      (∀ (j : Nat) (v : V) (d : D), vs[j]? = some v → ds[j]? = some d → Own K mg k (Fl j) P H v d) ∧ (∀ i j b, Fl i b → Fl j b → i = j) ∧ (∀ j b, Fl j b → b ≠ p ∧ j < ds.length) ∧ (∀ b, F b ↔ b = p ∨ ∃ j, Fl j b) := o
theorem Own.li_repL {F : AS} {p : Addr} {ds : List D} (o : Own K mg (.li .sh) F P H (.ref p) (.lst ds)) : ∃ vs : List V, H p = some (.lst vs) ∧ RepL K mg P vs ds ∧ F p ∧ ∀ b, F b → b = p := by
  obtain ⟨p', vs, ds', Fl, e1, e2, e3, e4, e5, e6, e7, e8⟩ := o
  cases e1
  cases e2
  have no : ∀ j b, ¬ Fl j b := fun j b z => by
    have hj := (e7 j b z).2
    have h1 : ds[j]? = some ds[j] := List.getElem?_eq_getElem hj
    have h2 : vs[j]? = some (vs[j]'(by omega)) := List.getElem?_eq_getElem (by omega)
    exact (e5 j _ _ h2 h1).1 b z
  exact ⟨vs, e3, RepL.of e4 fun j v d h1 h2 => (e5 j v d h1 h2).2, (e8 p).mpr (.inl rfl), fun b h => ((e8 b).mp h).elim id fun ⟨j, z⟩ => (no j b z).elim⟩
theorem own_li {p : Addr} {H' : Hp} {vs : List V} {ds : List D} (h : H' p = some (.lst vs)) (r : RepL K mg P vs ds) : Own K mg (.li .sh) (fun b => b = p) P H' (.ref p) (.lst ds) :=
  ⟨p, vs, ds, fun _ => Non, rfl, rfl, h, r.length, fun j v d h1 h2 => by
    obtain ⟨v', h3, r'⟩ := r.get h2
    rw [h1] at h3; cases h3
    exact Own.sh_of r', fun _ _ _ z => z.elim, fun _ _ z => z.elim, fun b => ⟨fun e => .inl e, fun e => e.elim id fun ⟨_, z⟩ => z.elim⟩⟩
end
/-! ### a slot's value as it is, for a change -/
def slotL (δ : Env) (i : Nat) : Option (List D) := match δ[i]? with
  | some (some (.lst l)) => some l
  | _ => none
theorem slotL_eq {δ : Env} {i : Nat} {l : List D} (h : slotL δ i = some l) : δ[i]? = some (some (.lst l)) := by
  unfold slotL at h
  split at h
  · cases h; assumption
  · cases h
def dApp (i : Nat) (f : DE) : DS := fun δ => match slotL δ i with
  | none => .no
  | some _ => (f δ).stm fun d δ1 => match slotL δ1 i with
    | some l => if l.length < sizeLine then .next (δ1.set i (some (.lst (l ++ [d])))) else .no
    | none => .no
section
variable {X : Cx} {fx : Fx} {kd : Kds} {pos cpos apos p1 : Pos}
/-- x.append(e) -/
theorem vs_append (i : Nat) {k : Kd} {x : Str} {e : Expr} {f : DE} (he : VE X kd fx.W k e f) (hk : (kd.at i).strip = .li k := by rfl) (hN : X.N[i]? = some x := by rfl) (hv : Vis X.env.scope x := by first | exact Or.inl rfl | exact Or.inr (Or.inl rfl) | exact Or.inr (Or.inr rfl))
    (hx : fx.XR kd := by first | trivial | rfl) (hd : (x == ("__debug__" : Str)) = false := by decide) (hcd : (x == ("__classdict__" : Str)) = false := by decide)
    (hbase : attributeBase (.Name x p1) "append" X.env (eval (.Name x p1) X.env) = eval (.Name x p1) X.env := by rfl)
    (hfew : ((backTo cpos (starEach [e] X.env)).all (fun x => !x.1) && (backToKw cpos (keywordEach [] X.env)).all (fun x => x.1.isSome) && decide (([e] : List Expr).length + ([] : List Keyword).length + (if ([] : List Keyword).isEmpty then 0 else 1) < 30)) = true := by rfl)
    (hline : (apos.endLine == cpos.line) = true := by rfl) (hs : starEach [e] X.env = (false, eval e X.env) :: starEach [] X.env := by rfl) (hsw : swapsWith (.Call (.Attribute (.Name x p1) "append" apos) [e] [] cpos) none pos.line X.env = pure false := by rfl) :
    VS X fx kd kd (.Expr (.Call (.Attribute (.Name x p1) "append" apos) [e] [] cpos) pos) (dApp i f) := by
  have hm : MtR X "list.append" rAppend := fun pins s σ H x xs v us Q I r rs q => mt_append pins s σ H x xs v us Q I r rs q
  refine PS.imp (ps_expr (pe_bm (e := e) (es := []) PySem.F.plainAttrs_list PySem.F.slot_list_append PySem.F.type_list_append hm (pe_var hN hv hd hcd) (pa_cons he pa_nil hs) hbase hfew hline hs rfl) hsw) fun D' σ H ⟨Fs, P, δ, E, q⟩ => ?_
  unfold dApp at q
  cases e0 : slotL δ i with
  | none => rw [e0] at q; exact q.elim
  | some l0 =>
    rw [e0] at q
    have ed0 := slotL_eq e0
    obtain ⟨v0, hv0, ow0⟩ := E.slot i _ ed0
    have os0 := ow0.strip
    rw [hk] at os0
    obtain ⟨p, vs0, ds0, Fl0, rfl, e2, hp0, _⟩ := os0.li_at
    refine ⟨_, hv0, .inl ⟨rfl, vs0, SqL.of hp0⟩, Fs, P, δ, E, ?_⟩
    have q1 := stmE (σ := σ) (k := k) hx q
    revert q1
    cases f δ with
    | no => exact fun q => q
    | exn e δ1 => exact fun q => q
    | ok d δ1 =>
      intro q1 v1 Fs1 P1 H1 G1 E1 s1 f1 o1
      obtain ⟨d', δ1', Fs1', P1', G1', E1', s1', f1', o1', _, q2⟩ := q1 v1 Fs1 P1 H1 G1 E1 s1 f1 o1
      cases e3 : slotL δ1' i with
      | none => rw [e3] at q2; exact q2.elim
      | some l =>
        rw [e3] at q2
        have ed := slotL_eq e3
        obtain ⟨v, hv1, ow⟩ := E1'.slot i _ ed
        rw [hv0] at hv1
        cases hv1
        have os := ow.strip
        rw [hk] at os
        obtain ⟨p', vs, ds, Fl, e4, e5, hp, hl, hi, hsp, hb, hF⟩ := os.li_at
        cases e4
        cases e5
        by_cases hz : l.length < sizeLine
        · simp only [if_pos hz] at q2
          have hpF : Fs1' i p := (hF p).mpr (.inl rfl)
          have own2 := own_app hp hl hi hsp hb o1' fun b g => ⟨fun z => f1'.notM b g ⟨i, by rw [z]; exact hpF⟩, fun j z => f1'.notM b g ⟨i, (hF b).mpr (.inr ⟨j, z⟩)⟩⟩
          have hsub : ∀ a, (a = p ∨ (∃ j, Fl j a) ∨ G1' a) → Fs1' i a ∨ G1' a := fun a z => by
            rcases z with z | z | z
            · exact .inl ((hF a).mpr (.inl z))
            · exact .inl ((hF a).mpr (.inr z))
            · exact .inr z
          exact ⟨p, vs, v1, rfl, rfl, hp, by rw [hl]; exact hz, q2 σ _ P1' _ (E1'.write ed hv0 hpF (ow.unstrip (by rw [hk]; exact own2)) hsub f1') (Stp.write s1' hpF hsub f1')⟩
        · simp only [if_neg hz] at q2; exact q2.elim
end
end VL

set_option Elab.async false
set_option linter.all false
set_option maxRecDepth 100000
/-! Layer V: pop, remove, stores to places, dicts, borrowing. -/
namespace VL
open PySem PySem.Spec PyProof.Rows L2
section
variable {K : PySem.W.Frag} {mg : Str → Option Value} {kd : Kds} {W : WX} {Fs : Nat → AS} {P H : Hp} {σ : L2.St} {δ : Env}
/-- an owned slot's list of shared items: what stands there, and how it is changed -/
theorem EnvR.list {i : Nat} {l : List D} (E : EnvR K mg kd Fs P H σ δ) (hk : (kd.at i).strip = .li .sh) (h : slotL δ i = some l) : ∃ (p : Addr) (vs : List V), σ[i]? = some (some (.ref p)) ∧ H p = some (.lst vs) ∧ RepL K mg P vs l ∧
    ∀ (ws : List V) (ds : List D), RepL K mg P ws ds → EnvR K mg kd (upF Fs i fun b => b = p) P (L2.upd H p (.lst ws)) σ (δ.set i (some (.lst ds))) ∧ Stp (All Fs) P H (All (upF Fs i fun b => b = p)) P (L2.upd H p (.lst ws)) := by
  have ed := slotL_eq h
  obtain ⟨v, hv, ow⟩ := E.slot i _ ed
  have os := ow.strip
  rw [hk] at os
  obtain ⟨p, vs0, ds0, _, rfl, e2, _⟩ := os.li_at
  obtain ⟨vs, hp, r, hF, hone⟩ := os.li_repL
  refine ⟨p, vs, hv, hp, r, fun ws ds r' => ?_⟩
  have own2 : Own K mg (.li .sh) (fun b => b = p) P (L2.upd H p (.lst ws)) (.ref p) (.lst ds) := own_li upd_same r'
  have hsub : ∀ a, a = p → Fs i a ∨ Non a := fun a z => .inl (by rw [z]; exact hF)
  exact ⟨E.write ed hv hF (ow.unstrip (by rw [hk]; exact own2)) hsub (Fr.non (H := H)), Stp.write Stp.refl hF hsub (Fr.non (H := H))⟩
end
/-- a method of an owned list that takes shared arguments and gives a shared value -/
def dMet (i : Nat) (op : List D → List D → Option (D × List D)) (f : DA) : DE := fun δ => match slotL δ i with
  | none => .no
  | some _ => (f δ).bind fun ds δ1 => match slotL δ1 i with
    | some l => (match op l ds with
      | some (z, l') => .ok z (δ1.set i (some (.lst l')))
      | none => .no)
    | none => .no
/-- by values: the list's items vs become ws, v comes -/
def MetD (K : PySem.W.Frag) (mg : Str → Option Value) (r : V → List V → Hp → VK → Prop) (op : List D → List D → Option (D × List D)) : Prop :=
  ∀ (P H : Hp) (p : Addr) (vs us : List V) (l ds l' : List D) (z : D) (Q : VK), Lie P H → H p = some (.lst vs) → RepL K mg P vs l → RepL K mg P us ds → op l ds = some (z, l') →
    (∀ (v : V) (ws : List V), Rep K mg P v z → RepL K mg P ws l' → Q v (upd H p (.lst ws))) → r (.ref p) us H Q
theorem met_rd {K : PySem.W.Frag} {mg : Str → Option Value} {kd : Kds} {W : WX} {i : Nat} {r : V → List V → Hp → VK → Prop} {op : List D → List D → Option (D × List D)} (o : MetD K mg r op) (hk : (kd.at i).strip = .li .sh) {f : DA} {σ : L2.St} {H : Hp} {Q : VK}
    (h : rdE K mg kd W .sh (dMet i op f) σ H Q) : tBM K "list" r (tVar i) (rdA K mg kd W f) σ H Q ∧ (f = dNil → tBM0 K "list" r (tVar i) σ H Q) := by
  obtain ⟨Fs, P, δ, E, q⟩ := h
  unfold dMet at q
  cases e0 : slotL δ i with
  | none => rw [e0] at q; exact q.elim
  | some l0 =>
    rw [e0] at q
    obtain ⟨p, vs0, hv, hp0, _, _⟩ := E.list hk e0
    have fin : ∀ (ds : List D) (δ1 : Env) (Fs1 : Nat → AS) (P1 H1 : Hp) (us : List V), EnvR K mg kd Fs1 P1 H1 σ δ1 → RepL K mg P1 us ds → PostE K mg kd W .sh σ Fs1 P1 H1 Q (match slotL δ1 i with
        | some l => (match op l ds with
          | some (z, l') => .ok z (δ1.set i (some (.lst l')))
          | none => .no)
        | none => .no) → r (.ref p) us H1 Q := by
      intro ds δ1 Fs1 P1 H1 us E1 r1 q2
      cases e3 : slotL δ1 i with
      | none => rw [e3] at q2; exact q2.elim
      | some l =>
        rw [e3] at q2
        obtain ⟨p', vs, hv', hp, rl, ch⟩ := E1.list hk e3
        rw [hv] at hv'
        cases hv'
        cases eo : op l ds with
        | none => simp only [eo] at q2; exact q2.elim
        | some zl =>
          obtain ⟨z, l'⟩ := zl
          simp only [eo] at q2
          refine o P1 H1 p vs us l ds l' z Q E1.sub hp rl r1 eo fun v ws rv rw' => ?_
          obtain ⟨E2, S2⟩ := ch ws l' rw'
          exact q2 v _ P1 _ Non E2 S2 Fr.non (Own.sh_of rv)
    refine ⟨⟨_, hv, .inl ⟨rfl, vs0, SqL.of hp0⟩, Fs, P, δ, E, ?_⟩, fun ef => ⟨_, hv, .inl ⟨rfl, vs0, SqL.of hp0⟩, ?_⟩⟩
    · have q1 := bindA q
      revert q1
      cases f δ with
      | no => exact fun q => q
      | exn e δ1 => exact fun q => q
      | ok d δ1 =>
        intro q1 us Fs1 P1 H1 E1 s1 r1
        obtain ⟨ds, δ1', Fs1', P1', E1', s1', r1', q2⟩ := q1 us Fs1 P1 H1 E1 s1 r1
        exact fin ds δ1' Fs1' P1' H1 us E1' r1' q2
    · subst ef
      exact fin [] δ Fs P H [] E .nil q
def popL (l ds : List D) : Option (D × List D) := match ds with
  | [] => (l[l.length - 1]?).map fun z => (z, l.dropLast)
  | _ => none
def popI (l ds : List D) : Option (D × List D) := match ds with
  | [.int i] => if -(2 ^ 63) ≤ i ∧ i < 2 ^ 63 then (seqIndex? i l.length).bind fun k => (l[k]?).map fun z => (z, l.eraseIdx k) else none
  | _ => none
theorem RepL.dropLast {K : PySem.W.Frag} {mg : Str → Option Value} {P : Hp} : ∀ {vs : List V} {ds : List D}, RepL K mg P vs ds → RepL K mg P vs.dropLast ds.dropLast
  | _, _, .nil => .nil
  | _, _, .cons _ .nil => .nil
  | _, _, .cons a (.cons b c) => .cons a (RepL.dropLast (.cons b c))
theorem RepL.eraseIdx {K : PySem.W.Frag} {mg : Str → Option Value} {P : Hp} : ∀ {vs : List V} {ds : List D} (k : Nat), RepL K mg P vs ds → RepL K mg P (vs.eraseIdx k) (ds.eraseIdx k)
  | _, _, _, .nil => .nil
  | _, _, 0, .cons _ b => b
  | _, _, k + 1, .cons a b => .cons a (RepL.eraseIdx k b)
theorem RepL.set {K : PySem.W.Frag} {mg : Str → Option Value} {P : Hp} {v : V} {d : D} (r : Rep K mg P v d) : ∀ {vs : List V} {ds : List D} (k : Nat), RepL K mg P vs ds → RepL K mg P (vs.set k v) (ds.set k d)
  | _, _, _, .nil => .nil
  | _, _, 0, .cons _ b => .cons r b
  | _, _, k + 1, .cons a b => .cons a (RepL.set r k b)
theorem m_pop {K : PySem.W.Frag} {mg : Str → Option Value} : MetD K mg rPop popL := by
  intro P H p vs us l ds l' z Q s hp r1 r2 h c
  cases ds with
  | cons _ _ => cases h
  | nil =>
    cases r2
    unfold popL at h
    simp only at h
    cases e : l[l.length - 1]? with
    | none => rw [e] at h; cases h
    | some z' =>
      rw [e] at h
      cases h
      obtain ⟨v, hv, rv⟩ := r1.get e
      exact ⟨p, vs, v, rfl, rfl, hp, by rw [r1.length]; exact hv, c v _ rv r1.dropLast⟩
theorem m_popAt {K : PySem.W.Frag} {mg : Str → Option Value} : MetD K mg rPopAt popI := by
  intro P H p vs us l ds l' z Q s hp r1 r2 h c
  unfold popI at h
  split at h
  · rename_i i
    by_cases hb : -(2 ^ 63) ≤ i ∧ i < 2 ^ 63
    · rw [if_pos hb] at h
      cases e : seqIndex? i l.length with
      | none => rw [e] at h; cases h
      | some k =>
        rw [e] at h
        simp only [Option.bind_some] at h
        cases e2 : l[k]? with
        | none => rw [e2] at h; cases h
        | some z' =>
          rw [e2] at h
          cases h
          obtain ⟨v, hv, rv⟩ := r1.get e2
          obtain ⟨u, rfl, ru⟩ := ar1 r2
          cases ru
          exact ⟨p, vs, i, k, v, rfl, rfl, hp, hb.1, hb.2, by rw [r1.length]; exact e, hv, c v _ rv (r1.eraseIdx k)⟩
    · rw [if_neg hb] at h; cases h
  · cases h
section
variable {X : Cx} {kd : Kds} {W : WX} {cpos apos p1 : Pos}
/-- x.pop() -/
theorem ve_pop (i : Nat) {x : Str} (hk : (kd.at i).strip = .li .sh := by rfl) (hN : X.N[i]? = some x := by rfl) (hv : Vis X.env.scope x := by first | exact Or.inl rfl | exact Or.inr (Or.inl rfl) | exact Or.inr (Or.inr rfl))
    (hd : (x == ("__debug__" : Str)) = false := by decide) (hcd : (x == ("__classdict__" : Str)) = false := by decide)
    (hbase : attributeBase (.Name x p1) "pop" X.env (eval (.Name x p1) X.env) = eval (.Name x p1) X.env := by rfl)
    (hline : (apos.endLine == cpos.line) = true := by rfl) : VE X kd W .sh (.Call (.Attribute (.Name x p1) "pop" apos) [] [] cpos) (dMet i popL dNil) := by
  have hm : MtR X "list.pop" rPop := fun pins s σ H x xs v us Q I r rs q => mt_pop pins s σ H x xs v us Q I r rs q
  exact PE.imp (pe_bm0 PySem.F.plainAttrs_list PySem.F.slot_list_pop PySem.F.type_list_pop hm (pe_var hN hv hd hcd) hbase hline) fun _ _ _ q => (met_rd m_pop hk q).2 rfl
/-- x.pop(i) -/
theorem ve_popAt (i : Nat) {x : Str} {e : Expr} {f : DA} (he : VA X kd W [e] f) (hk : (kd.at i).strip = .li .sh := by rfl) (hN : X.N[i]? = some x := by rfl) (hv : Vis X.env.scope x := by first | exact Or.inl rfl | exact Or.inr (Or.inl rfl) | exact Or.inr (Or.inr rfl))
    (hd : (x == ("__debug__" : Str)) = false := by decide) (hcd : (x == ("__classdict__" : Str)) = false := by decide)
    (hbase : attributeBase (.Name x p1) "pop" X.env (eval (.Name x p1) X.env) = eval (.Name x p1) X.env := by rfl)
    (hfew : ((backTo cpos (starEach [e] X.env)).all (fun x => !x.1) && (backToKw cpos (keywordEach [] X.env)).all (fun x => x.1.isSome) && decide (([e] : List Expr).length + ([] : List Keyword).length + (if ([] : List Keyword).isEmpty then 0 else 1) < 30)) = true := by rfl)
    (hline : (apos.endLine == cpos.line) = true := by rfl) (hs : starEach [e] X.env = (false, eval e X.env) :: starEach [] X.env := by rfl) : VE X kd W .sh (.Call (.Attribute (.Name x p1) "pop" apos) [e] [] cpos) (dMet i popI f) := by
  have hm : MtR X "list.pop" rPopAt := fun pins s σ H x xs v us Q I r rs q => mt_popAt pins s σ H x xs v us Q I r rs q
  exact PE.imp (pe_bm PySem.F.plainAttrs_list PySem.F.slot_list_pop PySem.F.type_list_pop hm (pe_var hN hv hd hcd) he hbase hfew hline hs rfl) fun _ _ _ q => (met_rd m_popAt hk q).1
end
/-! ### stores: targets that change owned slots -/
inductive URes where
  | ok (δ : Env) | exn (e : D) (δ : Env) | no
section
variable (K : PySem.W.Frag) (mg : Str → Option Value) (kd : Kds) (W : WX)
def PostU (σ : L2.St) (Fs : Nat → AS) (P H : Hp) (Q : L2.St → Hp → Prop) : Res Unit → Prop
  | .ok _ δ' => ∀ (σ' : L2.St) (Fs' : Nat → AS) (P' H' : Hp), EnvR K mg kd Fs' P' H' σ' δ' → Stp (All Fs) P H (All Fs') P' H' → Q σ' H'
  | .exn e δ' => ∀ (cls : Value) (dx : Option Addr) (σ' : L2.St) (Fs' : Nat → AS) (P' H' : Hp), EnvR K mg kd Fs' P' H' σ' δ' → Stp (All Fs) P H (All Fs') P' H' → ExR K mg P' cls dx e → W cls dx σ' H'
  | .no => False
def rdU (s : D → Env → Res Unit) : TG := fun v σ H Q => ∃ (Fs : Nat → AS) (P : Hp) (δ : Env) (d : D), EnvR K mg kd Fs P H σ δ ∧ Rep K mg P v d ∧ PostU K mg kd W σ Fs P H Q (s d δ)
def rdUs (s : List D → Env → Res Unit) : TGs := fun vs σ H Q => ∃ (Fs : Nat → AS) (P : Hp) (δ : Env) (ds : List D), EnvR K mg kd Fs P H σ δ ∧ RepL K mg P vs ds ∧ PostU K mg kd W σ Fs P H Q (s ds δ)
end
abbrev VU (X : Cx) (kd : Kds) (W : WX) (tg : Expr) (s : D → Env → Res Unit) : Prop := PG X tg (rdU X.K X.mg kd W s)
abbrev VUs (X : Cx) (kd : Kds) (W : WX) (tg : List Expr) (s : List D → Env → Res Unit) : Prop := PGs X tg (rdUs X.K X.mg kd W s)
def uV (i : Nat) : D → Env → Res Unit := fun d δ => .ok () (δ.set i (some d))
def uT (n : Nat) (s : List D → Env → Res Unit) : D → Env → Res Unit := fun d δ => match d with
  | .tup ds => if ds.length = n then s ds δ else .no
  | _ => .no
def uN : List D → Env → Res Unit := fun ds δ => match ds with
  | [] => .ok () δ
  | _ => .no
def uC (s : D → Env → Res Unit) (t : List D → Env → Res Unit) : List D → Env → Res Unit := fun ds δ => match ds with
  | d :: r => (s d δ).bind fun _ δ1 => t r δ1
  | [] => .no
/-- x[i] = .. : x an owned list of shared items -/
def uIx (i : Nat) (f : DE) : D → Env → Res Unit := fun d δ => match slotL δ i with
  | none => .no
  | some _ => (f δ).bind fun e δ1 => match slotL δ1 i, e with
    | some l, .int k => (match ixN l.length k with
      | some j => .ok () (δ1.set i (some (.lst (l.set j d))))
      | none => .no)
    | _, _ => .no
section
variable {K : PySem.W.Frag} {mg : Str → Option Value} {kd : Kds} {W : WX} {Fs Fs1 : Nat → AS} {P H P1 H1 : Hp} {σ : L2.St}
theorem PostU.later {Q : L2.St → Hp → Prop} {r : Res Unit} (s : Stp (All Fs) P H (All Fs1) P1 H1) (h : PostU K mg kd W σ Fs P H Q r) : PostU K mg kd W σ Fs1 P1 H1 Q r := by
  cases r with
  | ok d δ' => exact fun σ' Fs' P' H' E s' => h σ' Fs' P' H' E (s.trans s')
  | exn e δ' => exact fun cls dx σ' Fs' P' H' E s' x => h cls dx σ' Fs' P' H' E (s.trans s') x
  | no => exact h
theorem bindEU {k : Kd} {r : Res D} {g : D → Env → Res Unit} {Q : L2.St → Hp → Prop} (h : PostU K mg kd W σ Fs P H Q (r.bind g)) :
    PostE K mg kd W k σ Fs P H (fun x H1 => ∃ (d : D) (δ1 : Env) (Fs1 : Nat → AS) (P1 : Hp) (G : AS), EnvR K mg kd Fs1 P1 H1 σ δ1 ∧ Stp (All Fs) P H (All Fs1) P1 H1 ∧ Fr G H (All Fs1) P1 H1 ∧ Own K mg k G P1 H1 x d ∧ PostU K mg kd W σ Fs1 P1 H1 Q (g d δ1)) r := by
  cases r with
  | ok d δ1 => exact fun v Fs1 P1 H1 G E s f o => ⟨d, δ1, Fs1, P1, G, E, s, f, o, PostU.later s h⟩
  | exn e δ1 => exact fun cls dx Fs' P' H' E s x => h cls dx σ Fs' P' H' E s x
  | no => exact h
end
section
variable {X : Cx} {kd : Kds} {W : WX} {pos p1 : Pos}
theorem vu_name (i : Nat) {x : Str} (hN : X.N.Nodup) (hk : kd.at i = .sh := by rfl) (hl : i < kd.length := by exact Nat.le_of_ble_eq_true rfl) (hi : X.N[i]? = some x := by rfl) (hx : Loc X.env.scope x := by first | exact Or.inl rfl | exact Or.inr rfl)
    (hf : X.fn x = true ∨ X.env.scope.names.lookup x = some .local := by first | exact .inl rfl | exact .inr rfl | assumption) : VU X kd W (.Name x pos) (uV i) :=
  PG.imp (pg_name hN hi hx hf) fun v σ H Q ⟨Fs, P, δ, d, E, r, q⟩ => q _ _ _ _ (E.setV hl hk r) Stp.refl
theorem vus_nil : VUs X kd W [] uN := PGs.imp pgs_nil fun v σ H Q ⟨Fs, P, δ, ds, E, r, q⟩ => by
  cases r with
  | nil => exact ⟨rfl, q σ _ _ _ E Stp.refl⟩
  | cons _ _ => exact q.elim
theorem vus_cons {e : Expr} {es : List Expr} {s : D → Env → Res Unit} {t : List D → Env → Res Unit} (c : PGs X (e :: es) (gCons (rdU X.K X.mg kd W s) (rdUs X.K X.mg kd W t))) (hno : ∀ d δ e' δ', s d δ ≠ .exn e' δ') : VUs X kd W (e :: es) (uC s t) := PGs.imp c fun v σ H Q ⟨Fs, P, δ, ds, E, r, q⟩ => by
  cases r with
  | nil => exact q.elim
  | @cons v d vs ds r1 r2 =>
    refine ⟨_, _, rfl, Fs, P, δ, d, E, r1, ?_⟩
    unfold uC at q
    cases e1 : s d δ with
    | no => simp only [e1] at q; exact q.elim
    | exn e' δ1 => exact absurd e1 (hno d δ e' δ1)
    | ok u δ1 =>
      simp only [e1] at q
      intro σ' Fs' P' H' E' s'
      refine ⟨Fs', P', δ1, ds, E', r2.mono s'.grow, ?_⟩
      have q := PostU.later s' q
      revert q
      show PostU X.K X.mg kd W σ Fs' P' H' Q (t ds δ1) → PostU X.K X.mg kd W σ' Fs' P' H' Q (t ds δ1)
      cases t ds δ1 with
      | no => exact fun q => q
      | exn e δ2 => exact fun q => q
      | ok u δ2 => exact fun q => q
theorem vu_tup {es : List Expr} {k : Nat} {n : Nat} {t : List D → Env → Res Unit} (c : PG X (.Tuple es k pos) (gTup X.K n (rdUs X.K X.mg kd W t))) : VU X kd W (.Tuple es k pos) (uT n t) := PG.imp c fun v σ H Q ⟨Fs, P, δ, d, E, r, q⟩ => by
  unfold uT at q
  cases r with
  | @tup a vs ds h1 l1 =>
    by_cases hn : ds.length = n
    · simp only [if_pos hn] at q
      exact ⟨a, vs, rfl, E.sub.sqt h1, by rw [l1.length]; exact hn, Fs, P, δ, ds, E, l1, q⟩
    · simp only [if_neg hn] at q; exact q.elim
  | _ => exact q.elim
theorem vu_ix (i : Nat) {x : Str} {ix : Expr} {f : DE} (hi : VE X kd W .sh ix f) (hk : (kd.at i).strip = .li .sh := by rfl) (hN : X.N[i]? = some x := by rfl) (hv : Vis X.env.scope x := by first | exact Or.inl rfl | exact Or.inr (Or.inl rfl) | exact Or.inr (Or.inr rfl))
    (hd : (x == ("__debug__" : Str)) = false := by decide) (hcd : (x == ("__classdict__" : Str)) = false := by decide)
    (ha : ∀ v, assign (.Subscript (.Name x p1) ix pos) X.env v = (do
      let ov ← holding [v] (eval (.Name x p1) X.env)
      let iv ← holding [v, ov] (eval ix X.env)
      standAt pos
      holding [v, ov, iv] (setItem ov iv v)
      release [v, ov, iv] []) := by intro _; rfl) : VU X kd W (.Subscript (.Name x p1) ix pos) (uIx i f) :=
  PG.imp (pg_sub (pe_var hN hv hd hcd) hi set_list ha) fun v σ H Q ⟨Fs, P, δ, d, E, r, q⟩ => by
    unfold uIx at q
    cases e0 : slotL δ i with
    | none => rw [e0] at q; exact q.elim
    | some l0 =>
      rw [e0] at q
      obtain ⟨p, vs0, hv0, _⟩ := E.list hk e0
      refine ⟨_, hv0, Fs, P, δ, E, ?_⟩
      have q1 := bindEU (k := .sh) q
      revert q1
      cases f δ with
      | no => exact fun q => q
      | exn e δ1 => exact fun q => q
      | ok e δ1 =>
        intro q1 v1 Fs1 P1 H1 G1 E1 s1 f1 o1
        obtain ⟨e', δ1', Fs1', P1', G1', E1', s1', f1', o1', q2⟩ := q1 v1 Fs1 P1 H1 G1 E1 s1 f1 o1
        cases e3 : slotL δ1' i with
        | none => rw [e3] at q2; exact q2.elim
        | some l =>
          rw [e3] at q2
          obtain ⟨p', vs, hv', hp, rl, ch⟩ := E1'.list hk e3
          rw [hv0] at hv'
          cases hv'
          cases o1'.sh_rep with
          | int k =>
            simp only at q2
            cases ej : ixN l.length k with
            | none => rw [ej] at q2; exact q2.elim
            | some j =>
              rw [ej] at q2
              obtain ⟨E2, S2⟩ := ch (vs.set j v) (l.set j d) (RepL.set (r.mono s1'.grow) j rl)
              exact ⟨p, vs, k, j, rfl, rfl, hp, by rw [rl.length]; exact ej, q2 σ _ P1' _ E2 S2⟩
          | _ => exact q2.elim
/-- target = e -/
def dAsg (f : DE) (s : D → Env → Res Unit) : DS := fun δ => (f δ).stm fun d δ1 => (s d δ1).stm fun _ δ2 => .next δ2
theorem vs_asg {fx : Fx} {e tg : Expr} {f : DE} {s : D → Env → Res Unit} (he : VE X kd fx.W .sh e f) (hg : VU X kd fx.W tg s) (hx : fx.XR kd := by first | trivial | rfl) (hs : swapsWithSole [tg] e pos.line X.env = pure false := by rfl) (hw : swappedStores [tg] e X.env = pure none := by rfl) (h1 : (assignEach [tg] X.env).map (·.2) = [assign tg X.env] := by rfl) :
    VS X fx kd kd (.Assign [tg] e pos) (dAsg f s) := PS.imp (ps_asg he hg hs hw h1) fun D' σ H ⟨Fs, P, δ, E, q⟩ => by
  refine ⟨Fs, P, δ, E, ?_⟩
  have q1 := stmE (σ := σ) (k := .sh) hx q
  revert q1
  cases f δ with
  | no => exact fun q => q
  | exn e δ1 => exact fun q => q
  | ok d δ1 =>
    intro q1 v1 Fs1 P1 H1 G1 E1 s1 f1 o1
    obtain ⟨d', δ1', Fs1', P1', G1', E1', s1', f1', o1', q2, _⟩ := q1 v1 Fs1 P1 H1 G1 E1 s1 f1 o1
    refine ⟨Fs1', P1', δ1', d', E1', o1'.sh_rep, ?_⟩
    revert q2
    cases s d' δ1' with
    | no => exact fun q => q
    | exn e δ2 => exact fun q cls dx σ' Fs' P' H' E' s' x => q kd hx cls dx σ' Fs' P' H' E' s' x
    | ok u δ2 => exact fun q => q
end
/-! ### an expression over owned slots whose value holds none of their cells -/
mutual
def froz : D → Bool
  | .non => true
  | .bl _ => true
  | .int _ => true
  | .str _ => true
  | .tup l => frozL l
  | .lst _ => false
  | .dct _ => false
  | .ins _ _ => false
  | .glb _ => true
  | .frz _ => false
  | .gh _ _ => false
def frozL : List D → Bool
  | [] => true
  | d :: l => froz d && frozL l
end
def frozK : Kd → D → Bool
  | .sh, d => froz d
  | .li .sh, .lst l => frozL l
  | _, _ => false
def dBor (k : Kd) (f : DE) : DE := fun δ => match f δ with
  | .ok d _ => if frozK k d = true then .ok d δ else .no
  | _ => .no
section
variable {K : PySem.W.Frag} {mg : Str → Option Value} {kd : Kds} {W : WX} {Fs : Nat → AS} {P H : Hp} {σ : L2.St} {δ : Env}
open Classical in
noncomputable def cutP (P : Hp) (M : AS) : Hp := fun a => if M a then none else P a
theorem cutP_out {M : AS} {a : Addr} (h : ¬ M a) : cutP P M a = P a := by unfold cutP; rw [if_neg h]
theorem cutP_in {M : AS} {a : Addr} (h : M a) : cutP P M a = none := by unfold cutP; rw [if_pos h]
mutual
theorem Rep.cut {M : AS} (hM : ∀ a xs, M a → ¬ Rd P a (.tup xs)) : ∀ {d : D} {v : V}, froz d = true → Rep K mg P v d → Rep K mg (cutP P M) v d
  | .non, _, _, .non => .non
  | .bl b, _, _, .bl _ => .bl b
  | .int i, _, _, .int _ => .int i
  | .str x, _, _, .str _ => .str x
  | .tup l, _, h, .tup h1 l1 => by
    refine .tup ?_ (RepL.cut hM (by simpa [froz] using h) l1)
    rcases h1 with h1 | h1
    · have nm := fun m => hM _ _ m h1
      rcases h1 with h1 | ⟨o, h1⟩
      · exact .inl (.inl (by rw [cutP_out nm]; exact h1))
      · exact .inl (.inr ⟨o, by rw [cutP_out nm]; exact h1⟩)
    · exact .inr h1
  | .lst _, _, h, _ => by simp [froz] at h
  | .dct _, _, h, _ => by simp [froz] at h
  | .ins _ _, _, h, _ => by simp [froz] at h
  | .glb x, _, _, .glb h r => .glb h r
  | .frz _, _, h, _ => by simp [froz] at h
  | .gh _ _, _, h, _ => by simp [froz] at h
theorem RepL.cut {M : AS} (hM : ∀ a xs, M a → ¬ Rd P a (.tup xs)) : ∀ {l : List D} {vs : List V}, frozL l = true → RepL K mg P vs l → RepL K mg (cutP P M) vs l
  | [], _, _, .nil => .nil
  | d :: l, _, h, .cons r1 r2 => .cons (Rep.cut hM (by simp [frozL] at h; exact h.1) r1) (RepL.cut hM (by simp [frozL] at h; exact h.2) r2)
end
/-- no owned cell is a tuple -/
theorem Own.noTup : ∀ {k : Kd} {F : AS} {v : V} {d : D}, Own K mg k F P H v d → ∀ a xs, F a → ¬ Rd H a (.tup xs)
  | .sh, _, _, _, o, a, _, f => (o.1 a f).elim
  | .li k, _, _, _, ⟨p, vs, ds, Fl, e1, e2, e3, e4, e5, e6, e7, e8⟩, a, xs, f => by
    rcases (e8 a).mp f with z | ⟨j, z⟩
    · subst z
      rintro (h | ⟨o, h⟩) <;> (rw [e3] at h; cases h)
    · have hj := (e7 j a z).2
      exact Own.noTup (e5 j _ _ (List.getElem?_eq_getElem (by omega)) (List.getElem?_eq_getElem hj)) a xs z
  | .dc, _, _, _, ⟨p, kvs, es, e1, e2, e3, e4, e5, e6⟩, a, xs, f => by
    have z := (e6 a).mp f
    subst z
    rintro (h | ⟨o, h⟩) <;> (rw [e3] at h; cases h)
  | .ob, _, _, _, ⟨p, C, dx, c, fs, gs, e1, e2, e3, e4, e5, e6, e7⟩, a, xs, f => by
    have z := (e7 a).mp f
    subst z
    rintro (h | ⟨o, h⟩) <;> (rw [e3] at h; cases h)
  | .pin _ k, _, _, _, ⟨_, o⟩, a, xs, f => Own.noTup (k := k) o a xs f
theorem EnvR.noTup (E : EnvR K mg kd Fs P H σ δ) {a : Addr} {xs : List V} (m : All Fs a) : ¬ Rd H a (.tup xs) := by
  obtain ⟨i, f⟩ := m
  obtain ⟨d, e⟩ := E.only i a f
  obtain ⟨v, _, o⟩ := E.slot i d e
  exact o.noTup a xs f
/-- all slots seen as shared -/
theorem EnvR.seen (E : EnvR K mg kd Fs P H σ δ) : EnvR K mg (List.replicate kd.length .sh) (fun _ => Non) (add P H (All Fs)) H σ δ where
  sub := add_le E.sub (mu_ntb fun a m => E.mu a m)
  slot i d h := by
    obtain ⟨v, h1, o⟩ := E.slot i d h
    refine ⟨v, h1, ?_⟩
    rw [Kds.at_rep]
    exact Own.sh_of ((o.rel fun a f => (E.out i a f).1).mono (add_mono (fun a f => ⟨i, f⟩) E.all_out))
  only _ _ z := z.elim
  sep _ _ _ z := z.elim
  out _ _ z := z.elim
  len := E.len
  lenK := by rw [List.length_replicate]; exact E.lenK
theorem bor_rd {W' : WX} {k : Kd} {f : DE} {Q : VK} (h : rdE K mg kd W k (dBor k f) σ H Q) : rdE K mg (List.replicate kd.length .sh) W' k f σ H Q := by
  obtain ⟨Fs, P, δ, E, q⟩ := h
  refine ⟨_, _, δ, E.seen, ?_⟩
  unfold dBor at q
  cases ef : f δ with
  | no => rw [ef] at q; exact q.elim
  | exn e δ1 => rw [ef] at q; exact q.elim
  | ok d δ1 =>
    rw [ef] at q
    by_cases hz : frozK k d = true
    · simp only [if_pos hz] at q
      intro v Fs' P' H' G E' s' f' o'
      have en : All Fs' = Non := E'.pure_non
      rw [en, all_non] at s'
      have keep : ∀ a o, H a = some o → NoTb o → H' a = some o := fun a o e => s'.keep a o e fun z => z
      have gr : Sub P (cutP P' (All Fs)) := fun a o e => by
        have nm : ¬ All Fs a := fun m => by rw [E.all_out a m] at e; cases e
        rw [cutP_out nm]
        exact s'.grow a o (by rw [add_out nm]; exact e)
      have sb : Lie (cutP P' (All Fs)) H' := fun a o e => by
        by_cases m : All Fs a
        · rw [cutP_in m] at e; cases e
        · rw [cutP_out m] at e; exact E'.sub a o e
      have E2 : EnvR K mg kd Fs (cutP P' (All Fs)) H' σ δ :=
        ⟨sb, fun i e h => (let ⟨u, h1, o⟩ := E.slot i e h; ⟨u, h1, o.stay gr fun a w _ y => keep a w y⟩), E.only, E.sep, fun i a m => ⟨cutP_in ⟨i, m⟩, (let ⟨_, u, hu⟩ := E.out i a m; s'.dom a u hu)⟩, E.len, E.lenK⟩
      have S2 : Stp (All Fs) P H (All Fs) (cutP P' (All Fs)) H' := ⟨fun a o e _ t => keep a o e t, gr, fun a o e => by
        by_cases m : All Fs a
        · exact .inr (.inr m)
        · rw [cutP_out m] at e
          rcases s'.newP a o e with z | z | z
          · rw [add_out m] at z; exact .inl z
          · exact .inr (.inl z)
          · exact z.elim, fun a m => .inl m, s'.dom⟩
      have noT : ∀ a xs, All Fs a → ¬ Rd P' a (.tup xs) := fun a xs m z => by
        obtain ⟨u, hu, mu⟩ := E.mu a m
        have hu' := keep a u hu mu.noTb
        refine E.noTup m (xs := xs) ?_
        rcases z with z | ⟨o, z⟩
        · have := E'.sub.at z; rw [hu'] at this; cases this; exact .inl hu
        · have := E'.sub.at z (by intro q y; unfold TbK at y; injection y with _ y; cases y); rw [hu'] at this; cases this; exact .inr ⟨o, hu⟩
      have F2 : Fr G H (All Fs) (cutP P' (All Fs)) H' := ⟨f'.new, fun a g m => (by obtain ⟨u, hu⟩ := E.all_in a m; rw [f'.new a g] at hu; cases hu), fun a g => (by
        by_cases m : All Fs a
        · exact cutP_in m
        · rw [cutP_out m]; exact f'.notP a g), f'.there⟩
      refine q v Fs _ H' G E2 S2 F2 ?_
      cases k with
      | sh => exact ⟨o'.1, o'.2.cut noT hz⟩
      | li k2 =>
        cases k2 with
        | sh =>
          cases d with
          | lst l =>
            obtain ⟨p, vs, ds, Fl, e1, e2, e3, e4, e5, e6, e7, e8⟩ := o'
            subst e1
            cases e2
            refine ⟨p, vs, l, Fl, rfl, rfl, e3, e4, fun j u z h1 h2 => ⟨(e5 j u z h1 h2).1, ?_⟩, e6, e7, e8⟩
            have hj : ∀ {l : List D} {j : Nat} {z : D}, frozL l = true → l[j]? = some z → froz z = true := by
              intro l
              induction l with
              | nil => intro j z _ h; simp at h
              | cons a r ih =>
                intro j z hf h
                simp [frozL] at hf
                cases j with
                | zero => simp at h; subst h; exact hf.1
                | succ j => exact ih hf.2 (by simpa using h)
            exact (e5 j u z h1 h2).2.cut noT (hj hz h2)
          | _ => cases hz
        | _ => cases hz
      | dc => cases hz
      | ob => cases hz
      | pin a k => cases hz
    · simp only [if_neg hz] at q; exact q.elim
end
theorem ve_bor {X : Cx} {kd : Kds} {W W' : WX} {k : Kd} {e : Expr} {f : DE} (n : Nat) (h : VE X (List.replicate n .sh) W' k e f) (hn : kd.length = n := by rfl) : VE X kd W k e (dBor k f) := by
  subst hn
  exact PE.imp h fun _ _ _ q => bor_rd q
end VL

set_option Elab.async false
set_option linter.all false
set_option maxRecDepth 100000
/-! Layer V: dicts with keys that are ints and texts. -/
namespace VL
open PySem PySem.Spec PyProof.Rows L2
def getKV (es : List (Key × D)) (k : Key) : Option D := (es.find? fun kv => decide (kv.1 = k)).map (·.2)
def putKV (es : List (Key × D)) (k : Key) (v : D) : List (Key × D) :=
  if (es.any fun kv => decide (kv.1 = k)) = true then es.map (fun kv => if kv.1 = k then (kv.1, v) else kv) else es ++ [(k, v)]
def mergeKV (acc es : List (Key × D)) : List (Key × D) := es.foldl (fun acc kv => putKV acc kv.1 kv.2) acc
def keyOf : D → Option Key
  | .int i => some (.inl i)
  | .str x => some (.inr x)
  | _ => none
section
variable {K : PySem.W.Frag} {mg : Str → Option Value} {P : Hp}
/-- entries that stand for entries -/
structure RepE (K : PySem.W.Frag) (mg : Str → Option Value) (P : Hp) (kvs : List (Key × V)) (es : List (Key × D)) : Prop where
  ks : kvs.map (·.1) = es.map (·.1)
  vs : RepL K mg P (kvs.map (·.2)) (es.map (·.2))
theorem RepE.nil : RepE K mg P [] [] := ⟨rfl, .nil⟩
theorem RepE.cons {k : Key} {v : V} {d : D} {kvs : List (Key × V)} {es : List (Key × D)} (r : Rep K mg P v d) (t : RepE K mg P kvs es) : RepE K mg P ((k, v) :: kvs) ((k, d) :: es) :=
  ⟨by simp [t.ks], by simpa using RepL.cons r t.vs⟩
theorem RepE.induct {C : List (Key × V) → List (Key × D) → Prop} (h0 : C [] []) (h1 : ∀ k v d kvs es, Rep K mg P v d → RepE K mg P kvs es → C kvs es → C ((k, v) :: kvs) ((k, d) :: es)) : ∀ {kvs : List (Key × V)} {es : List (Key × D)}, RepE K mg P kvs es → C kvs es
  | [], [], _ => h0
  | [], _ :: _, t => by have := t.ks; simp at this
  | _ :: _, [], t => by have := t.ks; simp at this
  | (k, v) :: kvs, (k', d) :: es, t => by
    have hk := t.ks
    simp at hk
    obtain ⟨rfl, hk⟩ := hk
    have hv := t.vs
    simp at hv
    cases hv with
    | cons a b => exact h1 k v d kvs es a ⟨by simpa using hk, b⟩ (RepE.induct h0 h1 ⟨by simpa using hk, b⟩)
theorem RepE.get {kvs : List (Key × V)} {es : List (Key × D)} (t : RepE K mg P kvs es) (k : Key) : (valV kvs k = none ∧ getKV es k = none) ∨ ∃ v d, valV kvs k = some v ∧ getKV es k = some d ∧ Rep K mg P v d := by
  refine RepE.induct (C := fun kvs es => (valV kvs k = none ∧ getKV es k = none) ∨ ∃ v d, valV kvs k = some v ∧ getKV es k = some d ∧ Rep K mg P v d) (.inl ⟨rfl, rfl⟩) (fun k' v d kvs es r _ ih => ?_) t
  by_cases q : k' = k
  · subst q
    exact .inr ⟨v, d, by simp [valV], by simp [getKV], r⟩
  · have e1 : valV ((k', v) :: kvs) k = valV kvs k := by simp [valV, List.find?_cons, q]
    have e2 : getKV ((k', d) :: es) k = getKV es k := by simp [getKV, List.find?_cons, q]
    rw [e1, e2]; exact ih
theorem RepE.any {kvs : List (Key × V)} {es : List (Key × D)} (t : RepE K mg P kvs es) (k : Key) : (kvs.any fun kv => decide (kv.1 = k)) = (es.any fun kv => decide (kv.1 = k)) :=
  RepE.induct (C := fun kvs es => (kvs.any fun kv => decide (kv.1 = k)) = (es.any fun kv => decide (kv.1 = k))) rfl (fun k' v d kvs es r _ ih => by simp only [List.any_cons, ih]) t
theorem RepE.app {kvs kvs' : List (Key × V)} {es es' : List (Key × D)} (t : RepE K mg P kvs es) (u : RepE K mg P kvs' es') : RepE K mg P (kvs ++ kvs') (es ++ es') :=
  ⟨by rw [List.map_append, List.map_append, t.ks, u.ks], by rw [List.map_append, List.map_append]; exact t.vs.append u.vs⟩
theorem RepE.put {kvs : List (Key × V)} {es : List (Key × D)} (t : RepE K mg P kvs es) (k : Key) {v : V} {d : D} (r : Rep K mg P v d) : RepE K mg P (putK kvs k v) (putKV es k d) := by
  unfold putK putKV
  rw [t.any k]
  split
  · exact RepE.induct (C := fun kvs es => RepE K mg P (kvs.map fun kv => if kv.1 = k then (kv.1, v) else kv) (es.map fun kv => if kv.1 = k then (kv.1, d) else kv)) .nil (fun k' v' d' kvs es r' _ ih => by
      by_cases q : k' = k
      · simp only [List.map_cons, if_pos q]; exact .cons r ih
      · simp only [List.map_cons, if_neg q]; exact .cons r' ih) t
  · exact t.app (.cons r .nil)
theorem keyOf_rep {v : V} {d : D} {k : Key} (r : Rep K mg P v d) (h : keyOf d = some k) : v = kV k := by
  cases r <;> first | (cases h; rfl) | (simp [keyOf] at h)
theorem RepE.len {kvs : List (Key × V)} {es : List (Key × D)} (t : RepE K mg P kvs es) : kvs.length = es.length := by have := congrArg List.length t.ks; simpa using this
theorem Own.dc_at {F : AS} {H : Hp} {v : V} {d : D} (o : Own K mg .dc F P H v d) : ∃ (p : Addr) (kvs : List (Key × V)) (es : List (Key × D)), v = .ref p ∧ d = .dct es ∧ H p = some (.dK kvs) ∧ RepE K mg P kvs es ∧ F p ∧ ∀ b, F b → b = p := by
  obtain ⟨p, kvs, es, e1, e2, e3, e4, e5, e6⟩ := o
  exact ⟨p, kvs, es, e1, e2, e3, ⟨e4, e5⟩, (e6 p).mpr rfl, fun b h => (e6 b).mp h⟩
theorem own_dc {p : Addr} {H' : Hp} {kvs : List (Key × V)} {es : List (Key × D)} (h : H' p = some (.dK kvs)) (r : RepE K mg P kvs es) : Own K mg .dc (fun b => b = p) P H' (.ref p) (.dct es) := ⟨p, kvs, es, rfl, rfl, h, r.ks, r.vs, fun _ => Iff.rfl⟩
end
def slotD (δ : Env) (i : Nat) : Option (List (Key × D)) := match δ[i]? with
  | some (some (.dct l)) => some l
  | _ => none
theorem slotD_eq {δ : Env} {i : Nat} {l : List (Key × D)} (h : slotD δ i = some l) : δ[i]? = some (some (.dct l)) := by
  unfold slotD at h
  split at h
  · cases h; assumption
  · cases h
section
variable {K : PySem.W.Frag} {mg : Str → Option Value} {kd : Kds} {W : WX} {Fs : Nat → AS} {P H : Hp} {σ : L2.St} {δ : Env}
theorem EnvR.dict {i : Nat} {l : List (Key × D)} (E : EnvR K mg kd Fs P H σ δ) (hk : (kd.at i).strip = .dc) (h : slotD δ i = some l) : ∃ (p : Addr) (kvs : List (Key × V)), σ[i]? = some (some (.ref p)) ∧ H p = some (.dK kvs) ∧ RepE K mg P kvs l ∧
    ∀ (ws : List (Key × V)) (es : List (Key × D)), RepE K mg P ws es → EnvR K mg kd (upF Fs i fun b => b = p) P (L2.upd H p (.dK ws)) σ (δ.set i (some (.dct es))) ∧ Stp (All Fs) P H (All (upF Fs i fun b => b = p)) P (L2.upd H p (.dK ws)) := by
  have ed := slotD_eq h
  obtain ⟨v, hv, ow⟩ := E.slot i _ ed
  have os := ow.strip
  rw [hk] at os
  obtain ⟨p, kvs, es, rfl, e2, hp, r, hF, hone⟩ := os.dc_at
  cases e2
  refine ⟨p, kvs, hv, hp, r, fun ws es r' => ?_⟩
  have own2 : Own K mg .dc (fun b => b = p) P (L2.upd H p (.dK ws)) (.ref p) (.dct es) := own_dc upd_same r'
  have hsub : ∀ a, a = p → Fs i a ∨ Non a := fun a z => .inl (by rw [z]; exact hF)
  exact ⟨E.write ed hv hF (ow.unstrip (by rw [hk]; exact own2)) hsub (Fr.non (H := H)), Stp.write Stp.refl hF hsub (Fr.non (H := H))⟩
end
/-! ### d[k] of any dict, k in d -/
def dgetD : D → D → Option D
  | .dct l, k => (keyOf k).bind fun k => getKV l k
  | _, _ => none
/-- x[k] of a slot's own dict -/
def dDGetO (i : Nat) (g : DE) : DE := fun δ => match slotD δ i with
  | none => .no
  | some _ => (g δ).bind fun k δ1 => match slotD δ1 i, keyOf k with
    | some l, some k => (match getKV l k with
      | some z => .ok z δ1
      | none => .no)
    | _, _ => .no
/-- x[k] = e -/
def dDPut (i : Nat) (f : DE) (g : DE) : DS := fun δ => (f δ).stm fun d δ1 => match slotD δ1 i with
  | none => .no
  | some _ => (g δ1).stm fun k δ2 => match slotD δ2 i, keyOf k with
    | some l, some k => if l.length < sizeLine then .next (δ2.set i (some (.dct (putKV l k d)))) else .no
    | _, _ => .no
section
variable {X : Cx} {kd : Kds} {W : WX} {pos p1 : Pos}
theorem ve_dget {a b : Expr} {f g : DE} (hu : X.A.units + 1 < cLine) (ha : VE X kd W .sh a f) (hb : VE X kd W .sh b g) (hs : NoSl b := by exact fun _ _ => rfl) : VE X kd W .sh (.Subscript a b pos) (dBin dgetD f g) :=
  PE.imp (pe_dget hu ha hb hs) fun σ H Q h => by
    have key : OpD X.K X.mg (fun x y H Q => ∃ a v, x = .ref a ∧ DGet H a y (some v) ∧ Q v H) .sh dgetD := by
      intro P H x y d e z Q s r1 r2 h c
      unfold dgetD at h
      cases r1 with
      | @dct a kvs es h1 h2 h3 =>
        simp only at h
        cases ek : keyOf e with
        | none => rw [ek] at h; cases h
        | some k =>
          rw [ek] at h
          simp only [Option.bind_some] at h
          have rE : RepE X.K X.mg P kvs es := ⟨h2, h3⟩
          rcases rE.get k with ⟨_, e2⟩ | ⟨v, d, e1, e2, rv⟩
          · rw [e2] at h; cases h
          · rw [e2] at h
            cases h
            rw [keyOf_rep r2 ek]
            exact ⟨a, v, rfl, by rw [← e1]; exact DGet.k (s.at h1), Cont.val c s rv⟩
      | _ => cases h
    exact bin_rd key h
/-- x[k], x an owned slot -/
theorem ve_dgetO (i : Nat) {x : Str} {b : Expr} {g : DE} (hu : X.A.units + 1 < cLine) (hb : VE X kd W .sh b g) (hk : (kd.at i).strip = .dc := by rfl) (hN : X.N[i]? = some x := by rfl) (hv : Vis X.env.scope x := by first | exact Or.inl rfl | exact Or.inr (Or.inl rfl) | exact Or.inr (Or.inr rfl))
    (hd : (x == ("__debug__" : Str)) = false := by decide) (hcd : (x == ("__classdict__" : Str)) = false := by decide) (hs : NoSl b := by exact fun _ _ => rfl) : VE X kd W .sh (.Subscript (.Name x p1) b pos) (dDGetO i g) :=
  PE.imp (pe_dget hu (pe_var hN hv hd hcd) hb hs) fun σ H Q ⟨Fs, P, δ, E, q⟩ => by
    unfold dDGetO at q
    cases e0 : slotD δ i with
    | none => rw [e0] at q; exact q.elim
    | some l0 =>
      rw [e0] at q
      obtain ⟨p, kvs0, hv0, _⟩ := E.dict hk e0
      refine ⟨_, hv0, Fs, P, δ, E, ?_⟩
      have q1 := bindE (k := .sh) q
      revert q1
      cases g δ with
      | no => exact fun q => q
      | exn e δ1 => exact fun q => q
      | ok e δ1 =>
        intro q1 v1 Fs1 P1 H1 G1 E1 s1 f1 o1
        obtain ⟨e', δ1', Fs1', P1', G1', E1', s1', f1', o1', q2⟩ := q1 v1 Fs1 P1 H1 G1 E1 s1 f1 o1
        cases e3 : slotD δ1' i with
        | none => rw [e3] at q2; exact q2.elim
        | some l =>
          rw [e3] at q2
          obtain ⟨p', kvs, hv', hp, rE, _⟩ := E1'.dict hk e3
          rw [hv0] at hv'
          cases hv'
          cases ek : keyOf e' with
          | none => rw [ek] at q2; exact q2.elim
          | some k =>
            rw [ek] at q2
            simp only at q2
            rcases rE.get k with ⟨_, e2⟩ | ⟨v, d, e1, e2, rv⟩
            · rw [e2] at q2; exact q2.elim
            · rw [e2] at q2
              rw [keyOf_rep o1'.sh_rep ek]
              exact ⟨p, v, rfl, by rw [← e1]; exact DGet.k hp, PostE.pure E1' rv q2⟩
/-- x[k] = e -/
theorem vs_dput (i : Nat) {fx : Fx} {x : Str} {e b : Expr} {f g : DE} (hu : X.A.units + 1 < cLine) (he : VE X kd fx.W .sh e f) (hb : VE X kd fx.W .sh b g) (hk : (kd.at i).strip = .dc := by rfl) (hN : X.N[i]? = some x := by rfl) (hv : Vis X.env.scope x := by first | exact Or.inl rfl | exact Or.inr (Or.inl rfl) | exact Or.inr (Or.inr rfl))
    (hx : fx.XR kd := by first | trivial | rfl) (hd : (x == ("__debug__" : Str)) = false := by decide) (hcd : (x == ("__classdict__" : Str)) = false := by decide) (hs : swapsWith e (some (.Subscript (.Name x p1) b pos)) pos.line X.env = pure false := by rfl) {spos : Pos} (hs2 : swapsWith e (some (.Subscript (.Name x p1) b pos)) spos.line X.env = pure false := by rfl) :
    VS X fx kd kd (.Assign [.Subscript (.Name x p1) b pos] e spos) (dDPut i f g) :=
  PS.imp (ps_dput hu (pe_var hN hv hd hcd) hb he hs2) fun D' σ H ⟨Fs, P, δ, E, q⟩ => by
    refine ⟨Fs, P, δ, E, ?_⟩
    have q1 := stmE (σ := σ) (k := .sh) hx q
    revert q1
    cases f δ with
    | no => exact fun q => q
    | exn e δ1 => exact fun q => q
    | ok d δ1 =>
      intro q1 v1 Fs1 P1 H1 G1 E1 s1 f1 o1
      obtain ⟨d', δ1', Fs1', P1', G1', E1', s1', f1', o1', q2, _⟩ := q1 v1 Fs1 P1 H1 G1 E1 s1 f1 o1
      cases e0 : slotD δ1' i with
      | none => rw [e0] at q2; exact q2.elim
      | some l0 =>
        rw [e0] at q2
        obtain ⟨p, kvs0, hv0, _⟩ := E1'.dict hk e0
        refine ⟨_, hv0, Fs1', P1', δ1', E1', ?_⟩
        have q3 := stmE (σ := σ) (k := .sh) hx q2
        revert q3
        cases g δ1' with
        | no => exact fun q => q
        | exn e δ1 => exact fun q => q
        | ok ky δ2 =>
          intro q3 v2 Fs2 P2 H2 G2 E2 s2 f2 o2
          obtain ⟨ky', δ2', Fs2', P2', G2', E2', s2', f2', o2', q4, _⟩ := q3 v2 Fs2 P2 H2 G2 E2 s2 f2 o2
          cases e3 : slotD δ2' i with
          | none => rw [e3] at q4; exact q4.elim
          | some l =>
            rw [e3] at q4
            obtain ⟨p', kvs, hv', hp, rE, ch⟩ := E2'.dict hk e3
            rw [hv0] at hv'
            cases hv'
            cases ek : keyOf ky' with
            | none => rw [ek] at q4; exact q4.elim
            | some k =>
              rw [ek] at q4
              simp only at q4
              by_cases hz : l.length < sizeLine
              · rw [if_pos hz] at q4
                obtain ⟨E3, S3⟩ := ch _ _ (rE.put k (o1'.sh_rep.mono s2'.grow))
                rw [keyOf_rep o2'.sh_rep ek]
                exact ⟨p, _, rfl, DPut.k hp (by rw [rE.len]; exact hz), q4 σ _ _ _ E3 S3⟩
              · rw [if_neg hz] at q4; exact q4.elim
end
/-! ### {k: v, ..} -/
def dPairs : List (DE × DE) → Env → Res (List (D × D))
  | [], δ => .ok [] δ
  | (f, g) :: r, δ => (f δ).bind fun d δ1 => (g δ1).bind fun e δ2 => (dPairs r δ2).bind fun l δ3 => .ok ((d, e) :: l) δ3
def keysOf : List (D × D) → Option (List (Key × D))
  | [] => some []
  | (k, d) :: r => (keyOf k).bind fun k => (keysOf r).map ((k, d) :: ·)
def dDisp (l : List (DE × DE)) : DE := fun δ => (dPairs l δ).bind fun ps δ1 => match keysOf ps with
  | some es => if es.length ≤ 15 then .ok (.dct (mergeKV [] es)) δ1 else .no
  | none => .no
section
variable {K : PySem.W.Frag} {mg : Str → Option Value} {kd : Kds} {W : WX} {σ : L2.St}
inductive RepP (K : PySem.W.Frag) (mg : Str → Option Value) (P : Hp) : List (V × V) → List (D × D) → Prop
  | nil : RepP K mg P [] []
  | cons {v u : V} {d e : D} {vs : List (V × V)} {ds : List (D × D)} : Rep K mg P v d → Rep K mg P u e → RepP K mg P vs ds → RepP K mg P ((v, u) :: vs) ((d, e) :: ds)
def PostPs (K : PySem.W.Frag) (mg : Str → Option Value) (kd : Kds) (W : WX) (σ : L2.St) (Fs : Nat → AS) (P H : Hp) (Q : List (V × V) → Hp → Prop) : Res (List (D × D)) → Prop
  | .ok ds δ' => ∀ (vs : List (V × V)) (Fs' : Nat → AS) (P' H' : Hp), EnvR K mg kd Fs' P' H' σ δ' → Stp (All Fs) P H (All Fs') P' H' → RepP K mg P' vs ds → Q vs H'
  | .exn e δ' => ∀ (cls : Value) (dx : Option Addr) (Fs' : Nat → AS) (P' H' : Hp), EnvR K mg kd Fs' P' H' σ δ' → Stp (All Fs) P H (All Fs') P' H' → ExR K mg P' cls dx e → W cls dx σ H'
  | .no => False
theorem PostPs.later {Fs Fs1 : Nat → AS} {P H P1 H1 : Hp} {Q : List (V × V) → Hp → Prop} {r : Res (List (D × D))} (s : Stp (All Fs) P H (All Fs1) P1 H1) (h : PostPs K mg kd W σ Fs P H Q r) : PostPs K mg kd W σ Fs1 P1 H1 Q r := by
  cases r with
  | ok d δ' => exact fun v Fs' P' H' E s' o => h v Fs' P' H' E (s.trans s') o
  | exn e δ' => exact fun cls dx Fs' P' H' E s' x => h cls dx Fs' P' H' E (s.trans s') x
  | no => exact h
theorem RepP.mono {P P' : Hp} (s : Sub P P') : ∀ {vs : List (V × V)} {ds : List (D × D)}, RepP K mg P vs ds → RepP K mg P' vs ds
  | _, _, .nil => .nil
  | _, _, .cons a b c => .cons (a.mono s) (b.mono s) (RepP.mono s c)
theorem pairs_rd : ∀ {l : List (DE × DE)} {Fs : Nat → AS} {P H : Hp} {δ : Env} {Q : List (V × V) → Hp → Prop}, EnvR K mg kd Fs P H σ δ → PostPs K mg kd W σ Fs P H Q (dPairs l δ) → tPairs (l.map fun fg => (rdE K mg kd W .sh fg.1, rdE K mg kd W .sh fg.2)) σ H Q
  | [], Fs, P, H, δ, Q, E, q => q [] Fs P H E Stp.refl .nil
  | (f, g) :: r, Fs, P, H, δ, Q, E, q => by
    show rdE K mg kd W .sh f σ H _
    refine ⟨Fs, P, δ, E, ?_⟩
    revert q
    unfold dPairs
    cases f δ with
    | no => exact fun q => q
    | exn e δ1 => exact fun q => q
    | ok d δ1 =>
      intro q v1 Fs1 P1 H1 G1 E1 s1 f1 o1
      have q := PostPs.later s1 q
      refine ⟨Fs1, P1, δ1, E1, ?_⟩
      show PostE K mg kd W .sh σ Fs1 P1 H1 _ (g δ1)
      revert q
      show PostPs K mg kd W σ Fs1 P1 H1 Q ((g δ1).bind fun e δ2 => (dPairs r δ2).bind fun l δ3 => .ok ((d, e) :: l) δ3) → _
      cases g δ1 with
      | no => exact fun q => q
      | exn e δ2 => exact fun q => q
      | ok e δ2 =>
        intro q v2 Fs2 P2 H2 G2 E2 s2 f2 o2
        have q := PostPs.later s2 q
        refine pairs_rd (l := r) (δ := δ2) E2 ?_
        revert q
        show PostPs K mg kd W σ Fs2 P2 H2 Q ((dPairs r δ2).bind fun l δ3 => .ok ((d, e) :: l) δ3) → _
        cases dPairs r δ2 with
        | no => exact fun q => q
        | exn e δ2 => exact fun q => q
        | ok l δ3 => exact fun q vs Fs3 P3 H3 E3 s3 r3 => q _ Fs3 P3 H3 E3 s3 (.cons ((o1.sh_rep.mono s2.grow).mono s3.grow) (o2.sh_rep.mono s3.grow) r3)
theorem keysOf_rep {P : Hp} : ∀ {ds : List (D × D)} {es : List (Key × D)} {vs : List (V × V)}, keysOf ds = some es → RepP K mg P vs ds → ∃ kvs : List (Key × V), vs = kvs.map (fun kv => (kV kv.1, kv.2)) ∧ RepE K mg P kvs es
  | [], _, _, h, .nil => by cases h; exact ⟨[], rfl, .nil⟩
  | (k, d) :: r, es, _, h, .cons a b c => by
    unfold keysOf at h
    cases ek : keyOf k with
    | none => rw [ek] at h; cases h
    | some k' =>
      rw [ek] at h
      simp only [Option.bind_some] at h
      cases er : keysOf r with
      | none => rw [er] at h; cases h
      | some es' =>
        rw [er] at h
        cases h
        obtain ⟨kvs, e, t⟩ := keysOf_rep er c
        exact ⟨(k', _) :: kvs, by rw [keyOf_rep a ek, e]; rfl, .cons b t⟩
theorem RepE.merge {P : Hp} {kvs : List (Key × V)} {es : List (Key × D)} (t : RepE K mg P kvs es) : ∀ {acc : List (Key × V)} {acd : List (Key × D)}, RepE K mg P acc acd → RepE K mg P (mergeK acc kvs) (mergeKV acd es) :=
  RepE.induct (C := fun kvs es => ∀ {acc : List (Key × V)} {acd : List (Key × D)}, RepE K mg P acc acd → RepE K mg P (mergeK acc kvs) (mergeKV acd es)) (fun h => h) (fun k v d kvs es r _ ih acc acd h => ih (h.put k r)) t
theorem disp_rd {l : List (DE × DE)} {H : Hp} {Q : VK} (h : rdE K mg kd W .dc (dDisp l) σ H Q) : tDisp (l.map fun fg => (rdE K mg kd W .sh fg.1, rdE K mg kd W .sh fg.2)) σ H Q := by
  obtain ⟨Fs, P, δ, E, q⟩ := h
  intro p hp
  obtain ⟨a1, a2, a3⟩ := alloc_ow (o := .dK []) E.sub hp
  have E1 := E.grow a1 a2
  have f0 : Fr (fun a => a = p) H (All Fs) P (L2.upd H p (.dK [])) := ⟨a3.new, fun a g m => (by obtain ⟨u, hu⟩ := E.all_in a m; rw [a3.new a g] at hu; cases hu), a3.notP, a3.there⟩
  refine pairs_rd E1 ?_
  revert q
  unfold dDisp
  cases dPairs l δ with
  | no => exact fun q => q
  | exn e δ1 => exact fun q cls dx Fs' P' H' E' s' x => q cls dx Fs' P' H' E' (a1.wid.trans s') x
  | ok ds δ1 =>
    intro q vs Fs1 P1 H1 E1' s1 r1
    have q : PostE K mg kd W .dc σ Fs P H Q (match keysOf ds with
      | some es => if es.length ≤ 15 then .ok (.dct (mergeKV [] es)) δ1 else .no
      | none => .no) := q
    have f1 := f0.stay s1
    have hp1 : H1 p = some (.dK []) := s1.keep p _ upd_same (f0.notM p rfl) (by intro _ z; cases z)
    cases ek : keysOf ds with
    | none => rw [ek] at q; exact q.elim
    | some es =>
      rw [ek] at q
      simp only at q
      by_cases hz : es.length ≤ 15
      · rw [if_pos hz] at q
        obtain ⟨kvs, ev, t⟩ := keysOf_rep ek r1
        refine ⟨hp1, kvs, ev, by rw [t.len]; exact hz, ?_⟩
        have S : Stp (All Fs) P H (All Fs1) P1 H1 := a1.wid.trans s1
        refine q (.ref p) Fs1 P1 _ (fun a => a = p) (E1'.upd (f1.notP p rfl) (f1.notM p rfl) hp1 (.inr (.inl ⟨_, rfl⟩))) ?_ ⟨f1.new, f1.notM, f1.notP, fun a g => ?_⟩ (own_dc upd_same (t.merge .nil))
        · refine ⟨fun a o h n t => ?_, S.grow, S.newP, S.newM, fun a o h => ?_⟩
          · rw [upd_ne (fun z => by subst z; rw [hp] at h; cases h)]; exact S.keep a o h n t
          · by_cases q : a = p
            · subst q; exact ⟨_, upd_same⟩
            · rw [upd_ne q]; exact S.dom a o h
        · by_cases q : a = p
          · subst q; exact ⟨_, upd_same⟩
          · exact absurd g q
      · rw [if_neg hz] at q; exact q.elim
end
theorem ve_disp {X : Cx} {kd : Kds} {W : WX} {pos : Pos} {keys : List (Option Expr)} {values : List Expr} {l : List (DE × DE)} (h : PPs X pos keys values (l.map fun fg => (rdE X.K X.mg kd W .sh fg.1, rdE X.K X.mg kd W .sh fg.2))) (hall : keys.all (·.isSome) = true := by rfl) (hl : keys.length = values.length := by rfl) (h0 : keys ≠ [] := by exact (fun z => by cases z))
    (h15 : keys.length ≤ 15 := by decide) : VE X kd W .dc (.Dict keys values pos) (dDisp l) := PE.imp (pe_disp h hall hl h0 h15) fun _ _ _ q => disp_rd q
theorem vpps_nil {X : Cx} {kd : Kds} {W : WX} {pos : Pos} : PPs X pos [] [] (([] : List (DE × DE)).map fun fg => (rdE X.K X.mg kd W .sh fg.1, rdE X.K X.mg kd W .sh fg.2)) := pps_nil
theorem vpps_cons {X : Cx} {kd : Kds} {W : WX} {pos : Pos} {k v : Expr} {ks : List (Option Expr)} {vs : List Expr} {f g : DE} {l : List (DE × DE)} (hk : VE X kd W .sh k f) (hv : VE X kd W .sh v g) (h : PPs X pos ks vs (l.map fun fg => (rdE X.K X.mg kd W .sh fg.1, rdE X.K X.mg kd W .sh fg.2))) :
    PPs X pos (some k :: ks) (v :: vs) (((f, g) :: l).map fun fg => (rdE X.K X.mg kd W .sh fg.1, rdE X.K X.mg kd W .sh fg.2)) := pps_cons hk hv h
/-- {} -/
def dNewK : DE := fun δ => .ok (.dct []) δ
theorem ve_dnew {X : Cx} {kd : Kds} {W : WX} {pos : Pos} : VE X kd W .dc (.Dict [] [] pos) dNewK := PE.imp pe_dnewK fun σ H Q ⟨Fs, P, δ, E, q⟩ => fun p hp => by
  obtain ⟨a1, a2, a3⟩ := alloc_ow (o := .dK []) E.sub hp
  exact PostE.step E a1 a2 a3 (own_dc upd_same .nil) q
end VL

set_option Elab.async false
set_option linter.all false
set_option maxRecDepth 100000
/-! Layer V: chains, in of tuples and dicts, isinstance, fields, classes made, stores of fields. -/
namespace VL
open PySem PySem.Spec PyProof.Rows L2
section
variable {X : Cx} {kd : Kds} {W : WX} {pos p2 : Pos}
/-! ### chains -/
theorem ve_chain {a b c : Expr} {f g h : DE} {o o' : CmpOp} {r r' : R2} {op op' : D → D → Option D} (ho : OpR X (compareOp o) r) (hd : OpB X.K X.mg r op) (ho' : OpR X (compareOp o') r') (hd' : OpB X.K X.mg r' op') (ha : VE X kd W .sh a f) (hb : VE X kd W .sh b g) (hc : VE X kd W .sh c h)
    (hm : lastMarks [o, o'] [b, c] = false := by with_unfolding_all rfl) : VE X kd W .sh (.Compare a [o, o'] [b, c] pos) (dChain op op' f g h) :=
  PE.imp (pe_chain ho ho' ha hb hc hm) fun _ _ _ q => chain_rd hd hd' q
theorem asB_ok {K : PySem.W.Frag} {mg : Str → Option Value} (P H : Hp) (v : V) (d : D) (b : Bool) (_ : Lie P H) (r : Rep K mg P v d) (e : asB d = some b) : v = .bl b := by cases r <;> first | (cases e; done) | (cases e; rfl)
theorem vt_chain {a b c : Expr} {f g h : DE} {o o' : CmpOp} {r r' : R2} {op op' : D → D → Option D} (ho : OpR X (compareOp o) r) (hd : OpB X.K X.mg r op) (ho' : OpR X (compareOp o') r') (hd' : OpB X.K X.mg r' op') (ha : VE X kd W .sh a f) (hb : VE X kd W .sh b g) (hc : VE X kd W .sh c h)
    (hm : lastMarks [o, o'] [b, c] = false := by with_unfolding_all rfl) : VT X kd W (.Compare a [o, o'] [b, c] pos) (dTst asB (dChain op op' f g h)) :=
  PT.imp (pt_chain ho ho' ha hb hc hm) fun σ H Q q => chain_rd hd hd' (tst_rd (R := fun x _ k => x = .bl k) asB_ok q)
end
section
variable {K : PySem.W.Frag} {mg : Str → Option Value}
/-! ### is None -/
theorem b_isN : OpB K mg (fun x y H Q => y = .non ∧ Q (.bl (decide (x = .non))) H) (isND false) := by
  intro P H x y d e z Q s r1 r2 h c
  unfold isND at h
  cases r2 with
  | non => cases r1 <;> first | (cases h; exact ⟨rfl, c _ (.bl _)⟩) | (cases h)
  | _ => cases r1 <;> cases h
theorem b_notN : OpB K mg (fun x y H Q => y = .non ∧ Q (.bl (!decide (x = .non))) H) (isND true) := by
  intro P H x y d e z Q s r1 r2 h c
  unfold isND at h
  cases r2 with
  | non => cases r1 <;> first | (cases h; exact ⟨rfl, c _ (.bl _)⟩) | (cases h)
  | _ => cases r1 <;> cases h
/-! ### in, of lists and tuples of data -/
def seqPy : Bool → List PyData → PyData
  | true, l => .tuple l
  | false, l => .list l
def rInT (K : PySem.W.Frag) : R2 := fun x y H Q => ∃ d t ds, Dp K H x d ∧ Dp K H y (seqPy t ds) ∧ SeqAt.shaped d = true ∧ SeqAt.shaped (seqPy t ds) = true ∧ Q (.bl (ds.any fun z => PyData.eqv z d)) H
def rNotInT (K : PySem.W.Frag) : R2 := fun x y H Q => ∃ d t ds, Dp K H x d ∧ Dp K H y (seqPy t ds) ∧ SeqAt.shaped d = true ∧ SeqAt.shaped (seqPy t ds) = true ∧ Q (.bl (!ds.any fun z => PyData.eqv z d)) H
theorem op_inT {X : Cx} (hu : X.A.units + 65 < cLine) : OpR X (compareOp .In) (rInT X.K) := by
  intro pins s σ H x y v u Q I rx ry h
  obtain ⟨d, t, ds, hd, he, sd, se, q⟩ := h
  obtain ⟨as, r1⟩ := Dp.reads I d x v hd rx
  cases t with
  | false =>
    obtain ⟨bs, r2⟩ := Dp.reads I (.list ds) y u he ry
    exact SeqAt.in_list_reads r2 r1 (SeqAt.canLay_of_shaped se) (SeqAt.canLay_of_shaped sd) (room_in_shaped sd hu) ⟨.bl _, H, I, rfl, q⟩
  | true =>
    obtain ⟨bs, r2⟩ := Dp.reads I (.tuple ds) y u he ry
    exact SeqAt.in_tuple_reads r2 r1 (SeqAt.canLay_of_shaped se) (SeqAt.canLay_of_shaped sd) (room_in_shaped sd hu) ⟨.bl _, H, I, rfl, q⟩
theorem op_notInT {X : Cx} (hu : X.A.units + 65 < cLine) : OpR X (compareOp .NotIn) (rNotInT X.K) := by
  intro pins s σ H x y v u Q I rx ry h
  obtain ⟨d, t, ds, hd, he, sd, se, q⟩ := h
  obtain ⟨as, r1⟩ := Dp.reads I d x v hd rx
  cases t with
  | false =>
    obtain ⟨bs, r2⟩ := Dp.reads I (.list ds) y u he ry
    exact SeqAt.notIn_list_reads r2 r1 (SeqAt.canLay_of_shaped se) (SeqAt.canLay_of_shaped sd) (room_in_shaped sd hu) ⟨.bl _, H, I, rfl, q⟩
  | true =>
    obtain ⟨bs, r2⟩ := Dp.reads I (.tuple ds) y u he ry
    exact SeqAt.notIn_tuple_reads r2 r1 (SeqAt.canLay_of_shaped se) (SeqAt.canLay_of_shaped sd) (room_in_shaped sd hu) ⟨.bl _, H, I, rfl, q⟩
def inTD (neg : Bool) (d e : D) : Option D := match e with
  | .lst l => if okD d = true ∧ okD (.lst l) = true then some (.bl (if neg then !(l.any fun z => eqv z d) else l.any fun z => eqv z d)) else none
  | .tup l => if okD d = true ∧ okD (.tup l) = true then some (.bl (if neg then !(l.any fun z => eqv z d) else l.any fun z => eqv z d)) else none
  | _ => none
theorem b_inT : OpB K mg (rInT K) (inTD false) := by
  intro P H x y d e z Q s r1 r2 h c
  unfold inTD at h
  cases r2 with
  | @lst a vs l h1 l1 =>
    by_cases q : okD d = true ∧ okD (.lst l) = true
    · simp only [if_pos q] at h
      cases h
      have e2 : Dp K H (.ref a) (.list (toPyL l)) := by have := dp_of s (plain_of q.2) (.lst h1 l1 : Rep K mg P (.ref a) (.lst l)); simpa [toPy] using this
      have e3 : SeqAt.shaped (.list (toPyL l)) = true := by have := shaped_of q.2; simpa [toPy] using this
      refine ⟨toPy d, false, toPyL l, dp_of s (plain_of q.1) r1, e2, shaped_of q.1, e3, ?_⟩
      rw [any_py]
      exact c _ (.bl _)
    · simp only [if_neg q] at h; cases h
  | @tup a vs l h1 l1 =>
    by_cases q : okD d = true ∧ okD (.tup l) = true
    · simp only [if_pos q] at h
      cases h
      have e2 : Dp K H (.ref a) (.tuple (toPyL l)) := by have := dp_of s (plain_of q.2) (.tup h1 l1 : Rep K mg P (.ref a) (.tup l)); simpa [toPy] using this
      have e3 : SeqAt.shaped (.tuple (toPyL l)) = true := by have := shaped_of q.2; simpa [toPy] using this
      refine ⟨toPy d, true, toPyL l, dp_of s (plain_of q.1) r1, e2, shaped_of q.1, e3, ?_⟩
      rw [any_py]
      exact c _ (.bl _)
    · simp only [if_neg q] at h; cases h
  | _ => cases h
theorem b_notinT : OpB K mg (rNotInT K) (inTD true) := by
  intro P H x y d e z Q s r1 r2 h c
  unfold inTD at h
  cases r2 with
  | @lst a vs l h1 l1 =>
    by_cases q : okD d = true ∧ okD (.lst l) = true
    · simp only [if_pos q] at h
      cases h
      have e2 : Dp K H (.ref a) (.list (toPyL l)) := by have := dp_of s (plain_of q.2) (.lst h1 l1 : Rep K mg P (.ref a) (.lst l)); simpa [toPy] using this
      have e3 : SeqAt.shaped (.list (toPyL l)) = true := by have := shaped_of q.2; simpa [toPy] using this
      refine ⟨toPy d, false, toPyL l, dp_of s (plain_of q.1) r1, e2, shaped_of q.1, e3, ?_⟩
      rw [any_py]
      exact c _ (.bl _)
    · simp only [if_neg q] at h; cases h
  | @tup a vs l h1 l1 =>
    by_cases q : okD d = true ∧ okD (.tup l) = true
    · simp only [if_pos q] at h
      cases h
      have e2 : Dp K H (.ref a) (.tuple (toPyL l)) := by have := dp_of s (plain_of q.2) (.tup h1 l1 : Rep K mg P (.ref a) (.tup l)); simpa [toPy] using this
      have e3 : SeqAt.shaped (.tuple (toPyL l)) = true := by have := shaped_of q.2; simpa [toPy] using this
      refine ⟨toPy d, true, toPyL l, dp_of s (plain_of q.1) r1, e2, shaped_of q.1, e3, ?_⟩
      rw [any_py]
      exact c _ (.bl _)
    · simp only [if_neg q] at h; cases h
  | _ => cases h
/-! ### isinstance -/
def tyB : D → Option String
  | .non => some "NoneType" | .bl _ => some "bool" | .int _ => some "int" | .str _ => some "str" | .tup _ => some "tuple" | .lst _ => some "list" | .frz _ => some "list" | .dct _ => some "dict"
  | _ => none
def kB (a b : String) : Bool := a == b || (a == "bool" && b == "int")
def tyNames : List String := ["NoneType", "bool", "int", "str", "tuple", "list", "dict"]
theorem tyB_mem {d : D} {a : String} (h : tyB d = some a) : a ∈ tyNames := by
  cases d <;> first | (cases h; done) | (cases h; decide)
theorem kitB_all : (tyNames.all fun a => ["bool", "int", "str", "tuple", "list", "dict", "set", "float"].all fun b => kitB a b == some (kB a b)) = true := by decide +kernel
def isiB (l : List String) (tab : List (Str × Bool)) (d : D) : Option Bool := match d with
  | .ins c _ => tab.lookup c
  | d => (tyB d).map fun a => l.any fun b => kB a b
theorem tyX_of {P H : Hp} (s : Lie P H) {v : V} {d : D} {a : String} (r : Rep K mg P v d) (h : tyB d = some a) : TyX K H v (.type a) := by
  cases r with
  | non => cases h; exact .base .non
  | bl b => cases h; exact .base (.bl b)
  | int i => cases h; exact .base (.int i)
  | str x => cases h; exact .base (.str x)
  | tup hs l =>
    cases h
    rcases s.sqt hs with (q | ⟨o, q⟩) | q
    · exact .base (.tup q)
    · exact .fTuple q
    · obtain ⟨o, its, n, q1, q2, _⟩ := q
      exact .kTuple q1 q2
  | lst hs l => cases h; exact .base (.lst (s.at hs))
  | frz hs l =>
    cases h
    rcases s.sql hs with (q | ⟨o, q⟩) | q
    · exact .base (.lst q)
    · exact .base (.frz q)
    · obtain ⟨o, its, n, q1, q2, _⟩ := q
      exact .kList q1 q2
  | dct hs e l => cases h; exact .base (.dK (s.at hs))
  | ins _ _ _ _ => cases h
  | glb _ _ => cases h
  | gh0 _ => cases h
  | ghx _ _ _ => cases h
  | ght _ => cases h

/-- an own class whose instances are looked at by isinstance -/
structure InsTy (K : PySem.W.Frag) (C : Addr) : Prop where
  cl : Cls K C
  ha : PySem.W.findIn K (.ref C) "__class__" = some (some (.builtin "object.__class__"))
  hn : PySem.W.specialIn K (.builtin "object.__class__") "__get__" = some (some (.builtin "getset_descriptor.__get__"))
  htk : PySem.W.takesIn K (.builtin "object.__class__") = some true
  hm : PySem.W.mroIn K C (.type "object") = some true
structure IsiOk (K : PySem.W.Frag) (mg : Str → Option Value) (us : List Value) (l : List String) (tab : List (Str × Bool)) : Prop where
  b : ∀ a ∈ tyNames, PySem.W.kitAny K (.type a) us = some (l.any fun b => kB a b)
  o : ∀ c b, tab.lookup c = some b → ∀ C, mg c = some (.ref C) → InsTy K C ∧ PySem.W.kitAny K (.ref C) us = some b
theorem IsiOk.get {us : List Value} {l : List String} {tab : List (Str × Bool)} (I : IsiOk K mg us l tab) {P : Hp} {v : V} {d : D} {b : Bool} (r : Rep K mg P v d) (h : isiB l tab d = some b) : ∃ t, (∀ H, Lie P H → TyX K H v t) ∧ PySem.W.kitAny K t us = some b := by
  cases d with
  | ins c gs =>
    have h' : tab.lookup c = some b := h
    cases r with
    | ins h1 h2 h3 h4 =>
      obtain ⟨i1, i2⟩ := I.o c b h' _ h2
      exact ⟨_, fun H s => .base (.ins (s.at h1) i1.cl i1.ha i1.hn i1.htk i1.hm), i2⟩
  | glb x => cases h
  | gh _ _ => cases h
  | non => cases h; exact ⟨_, fun H s => tyX_of s r rfl, I.b _ (by decide)⟩
  | bl x => cases h; exact ⟨_, fun H s => tyX_of s r rfl, I.b _ (by decide)⟩
  | int x => cases h; exact ⟨_, fun H s => tyX_of s r rfl, I.b _ (by decide)⟩
  | str x => cases h; exact ⟨_, fun H s => tyX_of s r rfl, I.b _ (by decide)⟩
  | tup x => cases h; exact ⟨_, fun H s => tyX_of s r rfl, I.b _ (by decide)⟩
  | lst x => cases h; exact ⟨_, fun H s => tyX_of s r rfl, I.b _ (by decide)⟩
  | frz x => cases h; exact ⟨_, fun H s => tyX_of s r rfl, I.b _ (by decide)⟩
  | dct x => cases h; exact ⟨_, fun H s => tyX_of s r rfl, I.b _ (by decide)⟩
def bTys : List String := ["bool", "int", "str", "tuple", "list", "dict", "set", "float"]
theorem kit_all {a b : String} (ha : a ∈ tyNames) (hb : b ∈ bTys) : PySem.W.kitOne K (.type a) (.type b) = some (kB a b) := by
  have h := kitB_all
  rw [List.all_eq_true] at h
  have h1 := h a ha
  rw [List.all_eq_true] at h1
  have h2 := h1 b hb
  exact kit_ty (by simpa using h2)
theorem kitAny_of {t : Value} {k : String → Bool} : ∀ {l : List String}, (∀ b ∈ l, PySem.W.kitOne K t (.type b) = some (k b)) → PySem.W.kitAny K t (l.map Value.type) = some (l.any k)
  | [], _ => rfl
  | b :: l, h => by
    refine kitAny_cons (h b (List.mem_cons_self ..)) (fun e => ?_) fun e => ?_
    · rw [kitAny_of (k := k) fun c hc => h c (List.mem_cons_of_mem _ hc), List.any_cons, e]; rfl
    · rw [List.any_cons, e]; rfl
/-- built-in classes -/
theorem isi_builtin (l : List String) (hl : ∀ b ∈ l, b ∈ bTys) : IsiOk K mg (l.map Value.type) l [] :=
  ⟨fun a ha => kitAny_of fun b hb => kit_all ha (hl b hb), fun c b h => by cases h⟩
end
section
variable {X : Cx} {kd : Kds} {W : WX} {pos p pt : Pos}
def dIsi (l : List String) (tab : List (Str × Bool)) (f : DE) : DE := dUn (fun d => (isiB l tab d).map D.bl) f
theorem isi_rd {K : PySem.W.Frag} {mg : Str → Option Value} {us : List Value} {l : List String} {tab : List (Str × Bool)} (I : IsiOk K mg us l tab) {f : DE} {σ : L2.St} {H : Hp} {Q : VK} (h : rdE K mg kd W .sh (dIsi l tab f) σ H Q) :
    rdE K mg kd W .sh f σ H fun v H1 => ∃ (t : Value) (b : Bool), PySem.W.kitAny K t us = some b ∧ ∀ H2, Same H1 H2 → TyX K H2 v t ∧ Q (.bl b) H2 := by
  obtain ⟨Fs, P, δ, E, q⟩ := h
  refine ⟨Fs, P, δ, E, ?_⟩
  have q1 := bindE (k := .sh) q
  revert q1
  cases f δ with
  | no => exact fun q => q
  | exn e δ1 => exact fun q => q
  | ok d δ1 =>
    intro q1 v1 Fs1 P1 H1 G1 E1 s1 f1 o1
    obtain ⟨d', δ1', Fs1', P1', G1', E1', s1', f1', o1', q2⟩ := q1 v1 Fs1 P1 H1 G1 E1 s1 f1 o1
    unfold lift at q2
    cases ez : isiB l tab d' with
    | none => simp only [ez, Option.map_none] at q2; exact q2.elim
    | some b =>
      simp only [ez, Option.map_some] at q2
      obtain ⟨t, h1, h2⟩ := I.get o1'.sh_rep ez
      refine ⟨t, b, h2, fun H2 hs => ?_⟩
      have sub2 : Lie P1' H2 := E1'.sub.ext hs
      exact ⟨h1 H2 sub2, PostE.step (P' := P1') (H' := H2) (G := Non) E1' ⟨fun a o e _ _ => hs a o e, Sub.refl _, fun a o e => .inl e, fun _ z => z.elim, fun a o e => ⟨o, hs a o e⟩⟩ sub2 Fr.non (Own.sh_of (.bl b)) q2⟩
/-- isinstance(e, T) -/
theorem ve_isi {a T : Expr} {f : DE} {c : V} {u : Value} {l : List String} {tab : List (Str × Bool)} (I : IsiOk X.K X.mg [u] l tab) (k : ClsV c u) (ha : VE X kd W .sh a f) (hT : PE X T (tC c)) (hm : X.mg "isinstance" = none) (hg : Gl X "isinstance" := by rfl)
    (he : starEach [a, T] X.env = (false, eval a X.env) :: starEach [T] X.env := by rfl) (he2 : starEach [T] X.env = (false, eval T X.env) :: starEach [] X.env := by rfl) (hpl : (backTo pos (starEach [T] X.env)).any (·.1) = false := by rfl) :
    VE X kd W .sh (.Call (.Name "isinstance" p) [a, T] [] pos) (dIsi l tab f) := by
  refine PE.imp (pe_callB call_isi hg hm (by decide +kernel) (pa_cons ha (pa_cons hT pa_nil he2) he) (by decide) (by decide) he hpl) fun σ H Q h => ?_
  obtain ⟨Fs, P, δ, E, q⟩ := isi_rd I h
  refine ⟨Fs, P, δ, E, ?_⟩
  revert q
  cases f δ with
  | no => exact fun q => q
  | exn e δ1 => exact fun q => q
  | ok d δ1 =>
    intro q v Fs' P' H' G E' s f o
    obtain ⟨t, b, h2, q2⟩ := q v Fs' P' H' G E' s f o
    obtain ⟨h1, q3⟩ := q2 _ fun _ _ e => e
    refine ⟨v, c, t, u, b, rfl, k, h1, ?_, q3⟩
    unfold PySem.W.kitAny at h2
    revert h2
    cases PySem.W.kitOne X.K t u with
    | none => intro h2; cases h2
    | some y => cases y <;> (intro h2; cases h2; rfl)
/-- isinstance(e, (T, ..)) -/
theorem ve_isiT {a : Expr} {Ts : List Expr} {x1} {f : DE} {cs : List V} {us : List Value} {l : List String} {tab : List (Str × Bool)} (I : IsiOk X.K X.mg us l tab) (k : Paired ClsV cs us) (ha : VE X kd W .sh a f) (hT : PA X Ts fun σ H Q => Q cs H) (hm : X.mg "isinstance" = none) (hg : Gl X "isinstance" := by rfl) (hl : cs.length ≤ sizeLine := by decide)
    (he : starEach [a, .Tuple Ts x1 pt] X.env = (false, eval a X.env) :: starEach [.Tuple Ts x1 pt] X.env := by rfl) (he2 : starEach [.Tuple Ts x1 pt] X.env = (false, eval (.Tuple Ts x1 pt) X.env) :: starEach [] X.env := by rfl) (hpl : (backTo pos (starEach [.Tuple Ts x1 pt] X.env)).any (·.1) = false := by rfl) :
    VE X kd W .sh (.Call (.Name "isinstance" p) [a, .Tuple Ts x1 pt] [] pos) (dIsi l tab f) := by
  refine PE.imp (pe_callB call_isiT hg hm (by decide +kernel) (pa_cons ha (pa_cons (pe_tup hT) pa_nil he2) he) (by decide) (by decide) he hpl) fun σ H Q h => ?_
  obtain ⟨Fs, P, δ, E, q⟩ := isi_rd I h
  refine ⟨Fs, P, δ, E, ?_⟩
  revert q
  cases f δ with
  | no => exact fun q => q
  | exn e δ1 => exact fun q => q
  | ok d δ1 =>
    intro q v Fs' P' H' G E' s f o
    obtain ⟨t, b, h2, q2⟩ := q v Fs' P' H' G E' s f o
    refine ⟨hl, fun p hp => ?_⟩
    obtain ⟨h1, q3⟩ := q2 (upd H' p (.tup cs)) fun a o e => by rw [upd_ne (ne_of_none e hp)]; exact e
    exact ⟨v, p, cs, t, us, b, rfl, upd_same, k, h1, h2, q3⟩
end
end VL

set_option Elab.async false
set_option linter.all false
set_option maxRecDepth 100000
/-! Layer V: fields, classes made, stores of fields. -/
namespace VL
open PySem PySem.Spec PyProof.Rows L2
/-! ### fields -/
structure RepF (K : PySem.W.Frag) (mg : Str → Option Value) (P : Hp) (fs : List (Str × V)) (gs : List (Str × D)) : Prop where
  ks : fs.map (·.1) = gs.map (·.1)
  vs : RepL K mg P (fs.map (·.2)) (gs.map (·.2))
def putFD (f : Str) (d : D) : List (Str × D) → List (Str × D)
  | [] => [(f, d)]
  | (g, x) :: r => if g = f then (g, d) :: r else (g, x) :: putFD f d r
section
variable {K : PySem.W.Frag} {mg : Str → Option Value} {P : Hp}
theorem RepF.get {f : Str} {d : D} : ∀ {fs : List (Str × V)} {gs : List (Str × D)}, RepF K mg P fs gs → gs.lookup f = some d → ∃ v, fs.lookup f = some v ∧ Rep K mg P v d
  | [], [], _, h => by cases h
  | [], (g, x) :: r, t, _ => by have := t.ks; simp at this
  | (a, v) :: q, [], t, _ => by have := t.ks; simp at this
  | (a, v) :: q, (g, x) :: r, t, h => by
    have h1 := t.ks
    simp only [List.map_cons, List.cons.injEq] at h1
    obtain ⟨h1, h2⟩ := h1
    have h3 := t.vs
    simp only [List.map_cons] at h3
    cases h3 with
    | cons ra rb =>
      subst h1
      rw [List.lookup_cons] at h ⊢
      by_cases e : f == a
      · rw [e] at h ⊢
        cases h
        exact ⟨v, rfl, ra⟩
      · simp only [e] at h ⊢
        exact RepF.get ⟨h2, rb⟩ h
theorem RepF.put {f : Str} {d : D} {v : V} (rv : Rep K mg P v d) : ∀ {fs : List (Str × V)} {gs : List (Str × D)}, RepF K mg P fs gs → RepF K mg P (putF f v fs) (putFD f d gs)
  | [], [], _ => ⟨rfl, .cons rv .nil⟩
  | [], (g, x) :: r, t => by have := t.ks; simp at this
  | (a, w) :: q, [], t => by have := t.ks; simp at this
  | (a, w) :: q, (g, x) :: r, t => by
    have h1 := t.ks
    simp only [List.map_cons, List.cons.injEq] at h1
    obtain ⟨h1, h2⟩ := h1
    have h3 := t.vs
    simp only [List.map_cons] at h3
    cases h3 with
    | cons ra rb =>
      subst h1
      have ih := RepF.put (f := f) rv (fs := q) (gs := r) ⟨h2, rb⟩
      unfold putF putFD
      by_cases e : a = f
      · rw [if_pos e, if_pos e]
        exact ⟨by simp [h2], .cons rv rb⟩
      · rw [if_neg e, if_neg e]
        exact ⟨by simp [ih.ks], .cons ra ih.vs⟩
theorem RepF.len {fs : List (Str × V)} {gs : List (Str × D)} (t : RepF K mg P fs gs) : fs.length = gs.length := by have := congrArg List.length t.ks; simpa using this
end
/-- what a class must have whose instances' field is read or stored -/
def ClsF (K : PySem.W.Frag) (mg : Str → Option Value) (c f : Str) : Prop := ∀ C, mg c = some (.ref C) → Cls K C ∧ NoAttr K C f
/-- e.f, of instances of the classes cs -/
def fldD (cs : List Str) (f : Str) : D → Option D
  | .ins c gs => if c ∈ cs then gs.lookup f else none
  | _ => none
def slotO (δ : Env) (i : Nat) (cs : List Str) : Option (Str × List (Str × D)) := match δ[i]? with
  | some (some (.ins c l)) => if c ∈ cs then some (c, l) else none
  | _ => none
theorem slotO_eq {δ : Env} {i : Nat} {cs : List Str} {c : Str} {l : List (Str × D)} (h : slotO δ i cs = some (c, l)) : δ[i]? = some (some (.ins c l)) ∧ c ∈ cs := by
  unfold slotO at h
  split at h
  · rename_i e
    split at h
    · rename_i hc
      cases h
      exact ⟨e, hc⟩
    · cases h
  · cases h
/-- x.f, x an owned slot -/
def dFldO (i : Nat) (cs : List Str) (f : Str) : DE := fun δ => match slotO δ i cs with
  | some (_, l) => (match l.lookup f with
    | some z => .ok z δ
    | none => .no)
  | none => .no
/-- x.f = e, x an owned slot -/
def dFPut (i : Nat) (cs : List Str) (f : Str) (g : DE) : DS := fun δ => (g δ).stm fun d δ1 => match slotO δ1 i cs with
  | some (c, l) => if l.length < 1000 then .next (δ1.set i (some (.ins c (putFD f d l)))) else .no
  | none => .no
section
variable {K : PySem.W.Frag} {mg : Str → Option Value} {kd : Kds} {W : WX} {Fs : Nat → AS} {P H : Hp} {σ : L2.St} {δ : Env}
theorem Own.ob_at {F : AS} {v : V} {d : D} (o : Own K mg .ob F P H v d) : ∃ (p C dx : Addr) (c : Str) (fs : List (Str × V)) (gs : List (Str × D)), v = .ref p ∧ d = .ins c gs ∧ H p = some (.ins C dx fs) ∧ mg c = some (.ref C) ∧ RepF K mg P fs gs ∧ F p ∧ ∀ b, F b → b = p := by
  obtain ⟨p, C, dx, c, fs, gs, e1, e2, e3, e4, e5, e6, e7⟩ := o
  exact ⟨p, C, dx, c, fs, gs, e1, e2, e3, e4, ⟨e5, e6⟩, (e7 p).mpr rfl, fun b h => (e7 b).mp h⟩
theorem own_ob {p C dx : Addr} {c : Str} {H' : Hp} {fs : List (Str × V)} {gs : List (Str × D)} (h : H' p = some (.ins C dx fs)) (hc : mg c = some (.ref C)) (r : RepF K mg P fs gs) : Own K mg .ob (fun b => b = p) P H' (.ref p) (.ins c gs) :=
  ⟨p, C, dx, c, fs, gs, rfl, rfl, h, hc, r.ks, r.vs, fun _ => Iff.rfl⟩
theorem EnvR.inst {i : Nat} {cs : List Str} {c : Str} {l : List (Str × D)} (E : EnvR K mg kd Fs P H σ δ) (hk : (kd.at i).strip = .ob) (h : slotO δ i cs = some (c, l)) : ∃ (p C dx : Addr) (fs : List (Str × V)), σ[i]? = some (some (.ref p)) ∧ H p = some (.ins C dx fs) ∧ mg c = some (.ref C) ∧ RepF K mg P fs l ∧
    ∀ (ws : List (Str × V)) (es : List (Str × D)), RepF K mg P ws es → EnvR K mg kd (upF Fs i fun b => b = p) P (L2.upd H p (.ins C dx ws)) σ (δ.set i (some (.ins c es))) ∧ Stp (All Fs) P H (All (upF Fs i fun b => b = p)) P (L2.upd H p (.ins C dx ws)) := by
  obtain ⟨ed, _⟩ := slotO_eq h
  obtain ⟨v, hv, ow⟩ := E.slot i _ ed
  have os := ow.strip
  rw [hk] at os
  obtain ⟨p, C, dx, c', fs, gs, rfl, e2, hp, hc, r, hF, hone⟩ := os.ob_at
  cases e2
  refine ⟨p, C, dx, fs, hv, hp, hc, r, fun ws es r' => ?_⟩
  have own2 : Own K mg .ob (fun b => b = p) P (L2.upd H p (.ins C dx ws)) (.ref p) (.ins c es) := own_ob upd_same hc r'
  have hsub : ∀ a, a = p → Fs i a ∨ Non a := fun a z => .inl (by rw [z]; exact hF)
  exact ⟨E.write ed hv hF (ow.unstrip (by rw [hk]; exact own2)) hsub (Fr.non (H := H)), Stp.write Stp.refl hF hsub (Fr.non (H := H))⟩
end
section
variable {X : Cx} {kd : Kds} {W : WX} {pos p1 : Pos}
/-- e.f -/
theorem ve_fld (cs : List Str) {a : Expr} {f : Str} {g : DE} (hc : ∀ c ∈ cs, ClsF X.K X.mg c f) (ha : VE X kd W .sh a g) (hb : attributeBase a f X.env (eval a X.env) = eval a X.env := by rfl) : VE X kd W .sh (.Attribute a f pos) (dUn (fldD cs f) g) :=
  PE.imp (pe_fld ha hb) fun σ H Q ⟨Fs, P, δ, E, q⟩ => by
    refine ⟨Fs, P, δ, E, ?_⟩
    have q1 := bindE (k := .sh) q
    revert q1
    cases g δ with
    | no => exact fun q => q
    | exn e δ1 => exact fun q => q
    | ok d δ1 =>
      intro q1 v1 Fs1 P1 H1 G1 E1 s1 f1 o1
      obtain ⟨d', δ1', Fs1', P1', G1', E1', s1', f1', o1', q2⟩ := q1 v1 Fs1 P1 H1 G1 E1 s1 f1 o1
      unfold lift at q2
      cases o1'.sh_rep with
      | @ins a C dx c fs gs h1 h2 h3 h4 =>
        have r : RepF X.K X.mg P1' fs gs := ⟨h3, h4⟩
        have e0 : fldD cs f (.ins c gs) = if c ∈ cs then gs.lookup f else none := rfl
        rw [e0] at q2
        by_cases hm : c ∈ cs
        · rw [if_pos hm] at q2
          cases el : gs.lookup f with
          | none => rw [el] at q2; exact q2.elim
          | some z =>
            rw [el] at q2
            obtain ⟨v, hv, rv⟩ := r.get el
            obtain ⟨k1, k2⟩ := hc c hm C h2
            exact ⟨a, C, dx, fs, v, rfl, E1'.sub.at h1, k1, k2, hv, PostE.pure E1' rv q2⟩
        · rw [if_neg hm] at q2; exact q2.elim
      | _ => exact q2.elim
/-- x.f of an owned slot -/
theorem ve_fldO (i : Nat) (cs : List Str) {x f : Str} (hc : ∀ c ∈ cs, ClsF X.K X.mg c f) (hk : (kd.at i).strip = .ob := by rfl) (hN : X.N[i]? = some x := by rfl) (hv : Vis X.env.scope x := by first | exact Or.inl rfl | exact Or.inr (Or.inl rfl) | exact Or.inr (Or.inr rfl))
    (hd : (x == ("__debug__" : Str)) = false := by decide) (hcd : (x == ("__classdict__" : Str)) = false := by decide) (hb : attributeBase (.Name x p1) f X.env (eval (.Name x p1) X.env) = eval (.Name x p1) X.env := by rfl) : VE X kd W .sh (.Attribute (.Name x p1) f pos) (dFldO i cs f) :=
  PE.imp (pe_fld (pe_var hN hv hd hcd) hb) fun σ H Q ⟨Fs, P, δ, E, q⟩ => by
    unfold dFldO at q
    cases e0 : slotO δ i cs with
    | none => rw [e0] at q; exact q.elim
    | some cl =>
      obtain ⟨c, l⟩ := cl
      rw [e0] at q
      obtain ⟨p, C, dx, fs, hv0, hp, hmg, r, _⟩ := E.inst hk e0
      simp only at q
      cases el : l.lookup f with
      | none => rw [el] at q; exact q.elim
      | some z =>
        rw [el] at q
        obtain ⟨v, hv, rv⟩ := r.get el
        obtain ⟨k1, k2⟩ := hc c (slotO_eq e0).2 C hmg
        exact ⟨_, hv0, p, C, dx, fs, v, rfl, hp, k1, k2, hv, PostE.pure E rv q⟩
/-- x.f = e -/
theorem vs_fput (i : Nat) (cs : List Str) {fx : Fx} {x f : Str} {e : Expr} {g : DE} {spos : Pos} (hc : ∀ c ∈ cs, ClsF X.K X.mg c f) (he : VE X kd fx.W .sh e g) (hk : (kd.at i).strip = .ob := by rfl) (hN : X.N[i]? = some x := by rfl) (hv : Vis X.env.scope x := by first | exact Or.inl rfl | exact Or.inr (Or.inl rfl) | exact Or.inr (Or.inr rfl))
    (hx : fx.XR kd := by first | trivial | rfl) (hd : (x == ("__debug__" : Str)) = false := by decide) (hcd : (x == ("__classdict__" : Str)) = false := by decide) (hs : swapsWith e (some (.Attribute (.Name x p1) f pos)) spos.line X.env = pure false := by rfl) :
    VS X fx kd kd (.Assign [.Attribute (.Name x p1) f pos] e spos) (dFPut i cs f g) :=
  PS.imp (ps_fld (pe_var hN hv hd hcd) he hs) fun D' σ H ⟨Fs, P, δ, E, q⟩ => by
    refine ⟨Fs, P, δ, E, ?_⟩
    have q1 := stmE (σ := σ) (k := .sh) hx q
    revert q1
    cases g δ with
    | no => exact fun q => q
    | exn e δ1 => exact fun q => q
    | ok d δ1 =>
      intro q1 v1 Fs1 P1 H1 G1 E1 s1 f1 o1
      obtain ⟨d', δ1', Fs1', P1', G1', E1', s1', f1', o1', q2, _⟩ := q1 v1 Fs1 P1 H1 G1 E1 s1 f1 o1
      cases e0 : slotO δ1' i cs with
      | none => rw [e0] at q2; exact q2.elim
      | some cl =>
        obtain ⟨c, l⟩ := cl
        rw [e0] at q2
        simp only at q2
        obtain ⟨p, C, dx, fs, hv0, hp, hmg, r, ch⟩ := E1'.inst hk e0
        obtain ⟨k1, k2⟩ := hc c (slotO_eq e0).2 C hmg
        by_cases hz : l.length < 1000
        · rw [if_pos hz] at q2
          obtain ⟨E3, S3⟩ := ch _ _ (r.put (f := f) o1'.sh_rep)
          exact ⟨_, hv0, p, C, dx, fs, rfl, hp, k1, k2, by rw [r.len]; exact hz, q2 σ _ _ _ E3 S3⟩
        · rw [if_neg hz] at q2; exact q2.elim
end
/-! ### C(..) -/
section
variable {X : Cx} {k : Nat} {f C : Addr} {fd : FuncData} {ps : List Str} {sp : Sp} {E : L2.St → XK} {x : Str} {p pos : Pos} {e : Expr} {es : List Expr} {t : TA}
/-- an instance made where what __init__ raises may be caught -/
theorem run_makeS {pins : List (Addr × Obj)} {σ : L2.St} {H : Hp} {s : Shared} {Q : VK} {us : List Value} {vs : List V} (M : Mk X.K C f) (F : FnOk X.prog X.w X.K X.mg X.base (L2.CX X.prog X.w) k f fd ps sp) (hr : Room (k + 1) X.A) (hb : Binds X.K fd ps [])
    (hx : PassesAt (L2.CX X.prog X.w) X σ (E σ)) (I : Inv X pins σ H s) (r : Vals vs us)
    (h : ∀ x dx, H x = none → H dx = none → dx ≠ x → sp (.ref x :: vs) (upd (upd H dx (.own x)) x (.ins C dx [])) (fun v H2 => v = .non ∧ Q (.ref x) H2) (E σ)) :
    wpAny (model X.prog X.w) X.A (call (.ref C) us) (EP X pins σ Q) X.xe s := by
  have hq := h (s.heap.objs.size + 1) s.heap.objs.size (I.hok.fresh (Nat.le_succ _)) (I.hok.fresh (Nat.le_refl _)) (Nat.ne_of_lt (Nat.lt_succ_self _))
  have I2 := Inv.made (C := C) I
  have r2 : Vals (V.ref (s.heap.objs.size + 1) :: vs) (Value.ref (s.heap.objs.size + 1) :: us) := .cons rfl r
  have hl : (Value.ref (s.heap.objs.size + 1) :: us).length = ps.length := by rw [← F.len _ _ _ _ hq]; exact r2.length.symm
  have b := hb _ (Value.ref (s.heap.objs.size + 1) :: us) I2.kIn (by rw [List.append_nil]; exact hl)
  rw [List.append_nil] at b
  have run := F.run _ X.stack _ _ ⟨Value.ref (s.heap.objs.size + 1) :: us, []⟩ _ _ _ (E σ) (hr.make C us []) (I2.env0.make C us []) b r2 hq
  refine wpAny_call (make_map (f := f) I.kIn M.makes M.init (beq_iff_eq.mp M.fn) (codeAny_mono run fun r s' hq' => ?_))
  cases r with
  | error e => exact hx pins _ _ e s' I2 hq'
  | ok fl =>
    cases fl with
    | ret u =>
      obtain ⟨v, H', I3, rv, ev, q3⟩ := I2.after hq'
      subst ev
      exact ⟨rv, ⟨V.ref (s.heap.objs.size + 1), H', I3, rfl, q3⟩⟩
    | next => exact False.elim hq'
    | brk => exact False.elim hq'
    | cont => exact False.elim hq'
def tMakeS (C : Addr) (sp : Sp) (E : L2.St → XK) (t : TA) : TE := fun σ H Q => t σ H fun vs H1 => ∀ x dx, H1 x = none → H1 dx = none → dx ≠ x →
  sp (.ref x :: vs) (upd (upd H1 dx (.own x)) x (.ins C dx [])) (fun v H2 => v = .non ∧ Q (.ref x) H2) (E σ)
theorem pe_makeS (M : Mk X.K C f) (F : FnOk X.prog X.w X.K X.mg X.base (L2.CX X.prog X.w) k f fd ps sp) (hr : Room (k + 1) X.A) (hg : Gl X x) (hm : X.mg x = some (.ref C)) (hb : Binds X.K fd ps []) (hx : ∀ σ, PassesAt (L2.CX X.prog X.w) X σ (E σ))
    (ha : PA X (e :: es) t) (hdb : (x == ("__debug__" : Str)) = false := by decide) (he : starEach (e :: es) X.env = (false, eval e X.env) :: starEach es X.env := by rfl) (hpl : (backTo pos (starEach es X.env)).any (·.1) = false := by rfl) :
    PE X (.Call (.Name x p) (e :: es) [] pos) (tMakeS C sp E t) := by
  refine ⟨fun pins s σ H Q I h => ?_⟩
  refine wpAny_Call_Name_kw (ld_glob I hg hm ?_ hdb)
  refine PySem.W.callWith_K (h₀ := X.base) I.ok.mod.kin M.kp (thn (ha.run pos pins s σ H _ I h) fun us s1 ⟨vs, H1, I1, r, q⟩ => ⟨I1.kIn, ?_⟩) he hpl
  exact run_makeS M F hr hb (hx σ) I1 r q
end
/-- a class whose instances are made: what the text must have of it -/
structure VCl (P : Program) (w : World) (K : PySem.W.Frag) (mg : Str → Option Value) (base : Heap) (lvl : Nat) (c : Str) (n : Nat) (fn : List D → FRes) : Prop where
  ex : ∃ (C f : Addr), mg c = some (.ref C) ∧ Mk K C f ∧ VFnA P w K mg base lvl f (.ob :: List.replicate n .sh) .sh fn
def dMake (c : Str) (n : Nat) (fn : List D → FRes) (g : DA) : DE := fun δ => (g δ).bind fun ds δ1 => if ds.length = n then (match fn (.ins c [] :: ds) with
  | .ok .non (some p :: _) => .ok p δ1
  | .exn e => .exn e δ1
  | _ => .no) else .no
theorem make_rd {K : PySem.W.Frag} {mg : Str → Option Value} {kd : Kds} {W : WX} {n : Nat} {fn : List D → FRes} {g : DA} {c : Str} {C : Addr} (hC : mg c = some (.ref C)) {σ : L2.St} {H : Hp} {Q : VK} (h : rdE K mg kd W .ob (dMake c n fn g) σ H Q) :
    tMakeS C (spV K mg (.ob :: List.replicate n .sh) .sh fn) (WE W) (rdA K mg kd W g) σ H Q := by
  obtain ⟨Fs, P, δ, E, q⟩ := h
  refine ⟨Fs, P, δ, E, ?_⟩
  have q1 := bindA q
  revert q1
  cases g δ with
  | no => exact fun q => q
  | exn e δ1 => exact fun q => q
  | ok d δ1 =>
    intro q1 v1 Fs1 P1 H1 E1 s1 o1 x dx hx hdx hne
    obtain ⟨ds, δ1', Fs1', P1', E1', s1', r1', q2⟩ := q1 v1 Fs1 P1 H1 E1 s1 o1
    by_cases hn : ds.length = n
    · rw [if_pos hn] at q2
      subst hn
      have pn : ∀ a, H1 a = none → P1' a = none := fun a e => E1'.sub.free e
      have keep : ∀ a o, H1 a = some o → (upd (upd H1 dx (.own x)) x (.ins C dx [])) a = some o := fun a o e => by rw [upd_ne (ne_of_none e hx), upd_ne (ne_of_none e hdx)]; exact e
      have E2 : EnvR K mg (.ob :: List.replicate ds.length .sh) (fun i => if i = 0 then (fun a => a = x) else Non) P1' (upd (upd H1 dx (.own x)) x (.ins C dx [])) ((V.ref x :: v1).map some) ((D.ins c [] :: ds).map some) := by
        refine ⟨E1'.sub.ext keep, fun i d h => ?_, fun i a h => ?_, fun i l a h1 h2 => ?_, fun i a h => ?_, by simp [r1'.length], by simp [r1'.length]⟩
        · cases i with
          | zero =>
            simp only [List.map_cons, List.getElem?_cons_zero, Option.some.injEq] at h
            subst h
            exact ⟨_, rfl, own_ob upd_same hC ⟨rfl, .nil⟩⟩
          | succ i =>
            have h' : (ds.map some)[i]? = some (some d) := by simpa using h
            obtain ⟨v, h1, h2⟩ := r1'.get (getMapSome h')
            refine ⟨v, by simpa using mapSomeGet h1, ?_⟩
            rw [(show Kds.at (.ob :: List.replicate ds.length .sh) (i + 1) = Kds.at (List.replicate ds.length .sh) i from rfl), Kds.at_rep, if_neg (Nat.succ_ne_zero i)]
            exact Own.sh_of h2
        · cases i with
          | zero => exact ⟨_, rfl⟩
          | succ i => exact (by simpa using h : Non a).elim
        · cases i with
          | succ i => exact (by simpa using h1 : Non a).elim
          | zero =>
            cases l with
            | zero => rfl
            | succ l => exact (by simpa using h2 : Non a).elim
        · cases i with
          | zero =>
            have e : a = x := h
            subst e
            exact ⟨pn _ hx, _, upd_same⟩
          | succ i => exact (by simpa using h : Non a).elim
      have comp : ∀ {F : AS} {P' H' : Hp}, Stp (fun a => a = x) P1' (upd (upd H1 dx (.own x)) x (.ins C dx [])) F P' H' → Stp Non P1' H1 Non P' H' := fun s =>
        ⟨fun a o e _ t => s.keep a o (keep a o e) (ne_of_none e hx) t, s.grow, fun a o e => by
          rcases s.newP a o e with z | z | z
          · exact .inl z
          · right; left
            cases y : H1 a with
            | none => rfl
            | some u => rw [keep a u y] at z; cases z
          · right; left; rw [show a = x from z]; exact hx, fun _ z => z.elim, fun a o e => s.dom a o (keep a o e)⟩
      refine ⟨_, P1', D.ins c [] :: ds, by simp [r1'.length], E2, ?_⟩
      cases ef : fn (.ins c [] :: ds) with
      | no => rw [ef] at q2; exact q2.elim
      | exn e =>
        rw [ef] at q2
        intro cls dx' P' H' hs s ex
        rw [all_IO] at s
        exact q2 cls dx' Fs1' P' H' (E1'.grow (comp s) hs) (comp s).wid ex
      | ok d outs =>
        rw [ef] at q2
        intro v Fs' P' H' G E' s f o
        rw [E'.io_all, all_IO] at s
        cases d with
        | non =>
          cases outs with
          | nil => exact q2.elim
          | cons o3 outs =>
            cases o3 with
            | none => exact q2.elim
            | some p' =>
              simp only at q2
              refine ⟨by cases o.2; rfl, ?_⟩
              obtain ⟨v0', hv0, ow⟩ := E'.slot 0 p' rfl
              cases (show some (some (V.ref x)) = some (some v0') from hv0)
              refine PostE.step E1' (comp s) E'.sub (G := Fs' 0) ⟨fun a g => ?_, fun _ _ z => z, fun a g => (E'.out 0 a g).1, fun a g => (E'.out 0 a g).2⟩ ow q2
              rcases s.newM a g with z | z
              · rw [show a = x from z]; exact hx
              · cases y : H1 a with
                | none => rfl
                | some u => rw [keep a u y] at z; cases z
        | _ => exact q2.elim
    · rw [if_neg hn] at q2; exact q2.elim
theorem ve_make {X : Cx} {kd : Kds} {W : WX} {lvl n : Nat} {c : Str} {fn : List D → FRes} {e : Expr} {es : List Expr} {g : DA} {p pos : Pos} (V : VCl X.prog X.w X.K X.mg X.base lvl c n fn) (hr : Room (lvl + 1) X.A) (tk : Takes X W) (ha : VA X kd W (e :: es) g) (hg : Gl X c := by rfl) (hdb : (c == ("__debug__" : Str)) = false := by decide)
    (he : starEach (e :: es) X.env = (false, eval e X.env) :: starEach es X.env := by rfl) (hpl : (backTo pos (starEach es X.env)).any (·.1) = false := by rfl) : VE X kd W .ob (.Call (.Name c p) (e :: es) [] pos) (dMake c n fn g) := by
  obtain ⟨C, f, hC, M, V⟩ := V.ex
  obtain ⟨fd, ps, hk, hb, F⟩ := V.ex
  exact PE.imp (pe_makeS M F hr hg hC hb (fun σ => passAt tk σ) ha hdb he hpl) fun _ _ _ h => make_rd hC h
end VL

set_option Elab.async false
set_option linter.all false
set_option maxRecDepth 100000
/-! Layer V: several values of kinds under way (a, b = e1, e2); two clauses in a comprehension. -/
namespace VL
open PySem PySem.Spec PyProof.Rows L2
/-- values under way, each with its cells -/
structure Way (K : PySem.W.Frag) (mg : Str → Option Value) (ks : List Kd) (Gs : Nat → AS) (H0 : Hp) (M : AS) (P H : Hp) (vs : List V) (ds : List D) : Prop where
  len : vs.length = ds.length
  own : ∀ (j : Nat) (k : Kd) (v : V) (d : D), ks[j]? = some k → vs[j]? = some v → ds[j]? = some d → Own K mg k (Gs j) P H v d
  fr : ∀ j, Fr (Gs j) H0 M P H
  sep : ∀ i j a, Gs i a → Gs j a → i = j
  klen : ks.length = ds.length
section
variable (K : PySem.W.Frag) (mg : Str → Option Value) (kd : Kds) (W : WX)
def PostK (ks : List Kd) (σ : L2.St) (Fs : Nat → AS) (P H : Hp) (Q : List V → Hp → Prop) : Res (List D) → Prop
  | .ok ds δ' => ∀ (vs : List V) (Gs : Nat → AS) (Fs' : Nat → AS) (P' H' : Hp), EnvR K mg kd Fs' P' H' σ δ' → Stp (All Fs) P H (All Fs') P' H' → Way K mg ks Gs H (All Fs') P' H' vs ds → Q vs H'
  | .exn e δ' => ∀ (cls : Value) (dx : Option Addr) (Fs' : Nat → AS) (P' H' : Hp), EnvR K mg kd Fs' P' H' σ δ' → Stp (All Fs) P H (All Fs') P' H' → ExR K mg P' cls dx e → W cls dx σ H'
  | .no => False
def rdK (ks : List Kd) (f : DA) : TA := fun σ H Q => ∃ (Fs : Nat → AS) (P : Hp) (δ : Env), EnvR K mg kd Fs P H σ δ ∧ PostK K mg kd W ks σ Fs P H Q (f δ)
end
abbrev VK (X : Cx) (kd : Kds) (W : WX) (ks : List Kd) (es : List Expr) (f : DA) : Prop := PA X es (rdK X.K X.mg kd W ks f)
section
variable {K : PySem.W.Frag} {mg : Str → Option Value} {kd : Kds} {W : WX} {σ : L2.St} {Fs Fs1 : Nat → AS} {P H P1 H1 : Hp}
theorem Way.back {ks : List Kd} {Gs : Nat → AS} {H0 H1 : Hp} {M : AS} {vs : List V} {ds : List D} (w : Way K mg ks Gs H1 M P H vs ds) (h : ∀ a o, H0 a = some o → ∃ o', H1 a = some o') : Way K mg ks Gs H0 M P H vs ds := ⟨w.len, w.own, fun j => (w.fr j).back h, w.sep, w.klen⟩
theorem PostK.later {ks : List Kd} {Q : List V → Hp → Prop} {r : Res (List D)} (s : Stp (All Fs) P H (All Fs1) P1 H1) (h : PostK K mg kd W ks σ Fs P H Q r) : PostK K mg kd W ks σ Fs1 P1 H1 Q r := by
  cases r with
  | ok d δ' => exact fun vs Gs Fs' P' H' E s' o => h vs Gs Fs' P' H' E (s.trans s') (o.back s.dom)
  | exn e δ' => exact fun cls dx Fs' P' H' E s' x => h cls dx Fs' P' H' E (s.trans s') x
  | no => exact h
theorem consK_rd {k : Kd} {ks : List Kd} {f : DE} {g : DA} {σ : L2.St} {H : Hp} {Q : List V → Hp → Prop} (h : rdK K mg kd W (k :: ks) (dCons f g) σ H Q) : tCons (rdE K mg kd W k f) (rdK K mg kd W ks g) σ H Q := by
  obtain ⟨Fs, P, δ, E, q⟩ := h
  refine ⟨Fs, P, δ, E, ?_⟩
  unfold dCons at q
  revert q
  cases f δ with
  | no => exact fun q => q
  | exn e δ1 => exact fun q => q
  | ok d δ1 =>
    intro q v1 Fs1 P1 H1 G1 E1 s1 f1 o1
    refine ⟨Fs1, P1, δ1, E1, ?_⟩
    have q : PostK K mg kd W (k :: ks) σ Fs P H Q ((g δ1).bind fun ds δ2 => .ok (d :: ds) δ2) := q
    revert q
    cases hg : g δ1 with
    | no => exact fun q => q
    | exn e δ2 => exact fun q cls dx Fs' P' H' E' s' x => q cls dx Fs' P' H' E' (s1.trans s') x
    | ok ds δ2 =>
      intro q vs Gs Fs2 P2 H2 E2 s2 w
      refine q (v1 :: vs) (fun j => match j with | 0 => G1 | j + 1 => Gs j) Fs2 P2 H2 E2 (s1.trans s2) ⟨by simp [w.len], fun j k' v d' h1 h2 h3 => ?_, fun j => ?_, fun i j a h1 h2 => ?_, by simp [w.klen]⟩
      · cases j with
        | zero => simp at h1 h2 h3; subst h1 h2 h3; exact o1.over f1 s2
        | succ j => exact w.own j k' v d' (by simpa using h1) (by simpa using h2) (by simpa using h3)
      · cases j with
        | zero => exact f1.stay s2
        | succ j => exact (w.fr j).back s1.dom
      · cases i with
        | zero =>
          cases j with
          | zero => rfl
          | succ j => obtain ⟨o, e⟩ := f1.there a h1; rw [(w.fr j).new a h2] at e; cases e
        | succ i =>
          cases j with
          | zero => obtain ⟨o, e⟩ := f1.there a h2; rw [(w.fr i).new a h1] at e; cases e
          | succ j => rw [w.sep i j a h1 h2]
end
section
variable {X : Cx} {kd : Kds} {W : WX} {pos : Pos}
theorem vk_nil : VK X kd W [] [] dNil := PA.imp pa_nil fun σ H Q ⟨Fs, P, δ, E, q⟩ => q [] (fun _ => Non) Fs P H E Stp.refl ⟨rfl, fun j k v d h => by simp at h, fun _ => Fr.non, fun _ _ _ z => z.elim, rfl⟩
theorem vk_cons {k : Kd} {ks : List Kd} {e : Expr} {es : List Expr} {f : DE} {g : DA} (ha : VE X kd W k e f) (hr : VK X kd W ks es g) (hs : starEach (e :: es) X.env = (false, eval e X.env) :: starEach es X.env := by rfl) : VK X kd W (k :: ks) (e :: es) (dCons f g) :=
  PA.imp (pa_cons ha hr hs) fun _ _ _ h => consK_rd h
end
/-! ### a, b = e1, e2 -/
def dPar2 (i j : Nat) (g : DA) : DS := fun δ => (g δ).stm fun ds δ1 => match ds with
  | [d, e] => .next ((δ1.set i (some d)).set j (some e))
  | _ => .no
def dPar3 (i j l : Nat) (g : DA) : DS := fun δ => (g δ).stm fun ds δ1 => match ds with
  | [d, e, f] => .next (((δ1.set i (some d)).set j (some e)).set l (some f))
  | _ => .no
section
variable {X : Cx} {fx : Fx} {kd : Kds} {pos : Pos}
theorem Fr.setF {K : PySem.W.Frag} {mg : Str → Option Value} {G1 G2 : AS} {H0 P H : Hp} {Fs : Nat → AS} {i : Nat} (f : Fr G2 H0 (All Fs) P H) (no : ∀ a, G1 a → G2 a → False) : Fr G2 H0 (All (upF Fs i G1)) P H :=
  ⟨f.new, fun a g m => (all_upF m).elim (f.notM a g) fun z => no a z g, f.notP, f.there⟩
theorem par2_rd {K : PySem.W.Frag} {mg : Str → Option Value} {i j : Nat} {k1 k2 : Kd} {g : DA} {D' : L2.Ends} {σ : L2.St} {H : Hp} (hi : i < kd.length) (hj : j < kd.length) (hx : fx.XR kd) (q : rdS K mg fx ((kd.set i k1).set j k2) kd (dPar2 i j g) D' σ H) : tPar i j (rdK K mg kd fx.W [k1, k2] g) D' σ H := by
  obtain ⟨Fs, P, δ, E, q⟩ := q
  refine ⟨Fs, P, δ, E, ?_⟩
  unfold dPar2 at q
  revert q
  cases g δ with
  | no => exact fun q => q
  | exn e δ1 => exact fun q cls dx Fs' P' H' E' s' x => q kd hx cls dx σ Fs' P' H' E' s' x
  | ok ds δ1 =>
    intro q vs Gs Fs1 P1 H1 E1 s1 w
    obtain ⟨d, e, rfl⟩ : ∃ d e, ds = [d, e] := by
      have := w.klen
      match ds, this with
      | [d, e], _ => exact ⟨d, e, rfl⟩
    obtain ⟨v, u, rfl⟩ : ∃ d e, vs = [d, e] := by
      have := w.len
      match vs, this with
      | [d, e], _ => exact ⟨d, e, rfl⟩
    refine ⟨v, u, rfl, ?_⟩
    have o1 := w.own 0 k1 v d rfl rfl rfl
    have o2 := w.own 1 k2 u e rfl rfl rfl
    have E2 := E1.set hi (w.fr 0) o1
    have f2 : Fr (Gs 1) H (All (upF Fs1 i (Gs 0))) P1 H1 := Fr.setF (K := K) (mg := mg) (w.fr 1) fun a h1 h2 => by have := w.sep 0 1 a h1 h2; cases this
    have E3 := E2.set (by rw [List.length_set]; exact hj) f2 o2
    exact q _ _ _ _ E3 ((s1.set (w.fr 0)).set f2)
theorem par3_rd {K : PySem.W.Frag} {mg : Str → Option Value} {i j l : Nat} {k1 k2 k3 : Kd} {g : DA} {D' : L2.Ends} {σ : L2.St} {H : Hp} (hi : i < kd.length) (hj : j < kd.length) (hl : l < kd.length) (hx : fx.XR kd) (q : rdS K mg fx (((kd.set i k1).set j k2).set l k3) kd (dPar3 i j l g) D' σ H) : tPar3 i j l (rdK K mg kd fx.W [k1, k2, k3] g) D' σ H := by
  obtain ⟨Fs, P, δ, E, q⟩ := q
  refine ⟨Fs, P, δ, E, ?_⟩
  unfold dPar3 at q
  revert q
  cases g δ with
  | no => exact fun q => q
  | exn e δ1 => exact fun q cls dx Fs' P' H' E' s' x => q kd hx cls dx σ Fs' P' H' E' s' x
  | ok ds δ1 =>
    intro q vs Gs Fs1 P1 H1 E1 s1 w
    obtain ⟨d, e, f, rfl⟩ : ∃ d e f, ds = [d, e, f] := by
      have := w.klen
      match ds, this with
      | [d, e, f], _ => exact ⟨d, e, f, rfl⟩
    obtain ⟨v, u, z, rfl⟩ : ∃ d e f, vs = [d, e, f] := by
      have := w.len
      match vs, this with
      | [d, e, f], _ => exact ⟨d, e, f, rfl⟩
    refine ⟨v, u, z, rfl, ?_⟩
    have o1 := w.own 0 k1 v d rfl rfl rfl
    have o2 := w.own 1 k2 u e rfl rfl rfl
    have o3 := w.own 2 k3 z f rfl rfl rfl
    have E2 := E1.set hi (w.fr 0) o1
    have f2 : Fr (Gs 1) H (All (upF Fs1 i (Gs 0))) P1 H1 := Fr.setF (K := K) (mg := mg) (w.fr 1) fun a h1 h2 => by have := w.sep 0 1 a h1 h2; cases this
    have E3 := E2.set (by rw [List.length_set]; exact hj) f2 o2
    have f3 : Fr (Gs 2) H (All (upF (upF Fs1 i (Gs 0)) j (Gs 1))) P1 H1 := Fr.setF (K := K) (mg := mg) (Fr.setF (K := K) (mg := mg) (w.fr 2) fun a h1 h2 => by have := w.sep 0 2 a h1 h2; cases this) fun a h1 h2 => by have := w.sep 1 2 a h1 h2; cases this
    have E4 := E3.set (by rw [List.length_set, List.length_set]; exact hl) f3 o3
    exact q _ _ _ _ E4 (((s1.set (w.fr 0)).set f2).set f3)
theorem vs_par2 (i j : Nat) {k1 k2 : Kd} {x y : Str} {a b : Expr} {g : DA} {px py pt : Pos} {kt c2 pt2} (hN : X.N.Nodup) (ha : VK X kd fx.W [k1, k2] [a, b] g) (hc : X.calm = true := by rfl) (hi : X.N[i]? = some x := by rfl) (hj : X.N[j]? = some y := by rfl) (hij : i ≠ j := by decide)
    (hx : X.env.scope.names.lookup x = some .local := by rfl) (hy : X.env.scope.names.lookup y = some .local := by rfl) (hli : i < kd.length := by exact Nat.le_of_ble_eq_true rfl) (hlj : j < kd.length := by exact Nat.le_of_ble_eq_true rfl) (hxr : fx.XR kd := by first | trivial | rfl)
    (hw : swappedStores [.Tuple [.Name x px, .Name y py] kt pt] (.Tuple [a, b] c2 pt2) X.env = pure (some [x, y]) := by rfl)
    (hs : swapsWithSole [.Tuple [.Name x px, .Name y py] kt pt] (.Tuple [a, b] c2 pt2) pos.line X.env = pure false := by rfl) :
    VS X fx kd ((kd.set i k1).set j k2) (.Assign [.Tuple [.Name x px, .Name y py] kt pt] (.Tuple [a, b] c2 pt2) pos) (dPar2 i j g) :=
  PS.imp (ps_par hc hN hi hj hij hx hy ha hw hs) fun _ _ _ q => par2_rd hli hlj hxr q
theorem vs_par3 (i j l : Nat) {k1 k2 k3 : Kd} {x y z : Str} {a b c : Expr} {g : DA} {px py pz pt : Pos} {kt c2 pt2} (hN : X.N.Nodup) (ha : VK X kd fx.W [k1, k2, k3] [a, b, c] g) (hc : X.calm = true := by rfl) (hi : X.N[i]? = some x := by rfl) (hj : X.N[j]? = some y := by rfl) (hl : X.N[l]? = some z := by rfl) (hij : i ≠ j := by decide) (hil : i ≠ l := by decide) (hjl : j ≠ l := by decide)
    (hx : X.env.scope.names.lookup x = some .local := by rfl) (hy : X.env.scope.names.lookup y = some .local := by rfl) (hz : X.env.scope.names.lookup z = some .local := by rfl) (hli : i < kd.length := by exact Nat.le_of_ble_eq_true rfl) (hlj : j < kd.length := by exact Nat.le_of_ble_eq_true rfl) (hll : l < kd.length := by exact Nat.le_of_ble_eq_true rfl) (hxr : fx.XR kd := by first | trivial | rfl)
    (hw : swappedStores [.Tuple [.Name x px, .Name y py, .Name z pz] kt pt] (.Tuple [a, b, c] c2 pt2) X.env = pure (some [x, y, z]) := by rfl)
    (hs : swapsWithSole [.Tuple [.Name x px, .Name y py, .Name z pz] kt pt] (.Tuple [a, b, c] c2 pt2) pos.line X.env = pure false := by rfl) :
    VS X fx kd (((kd.set i k1).set j k2).set l k3) (.Assign [.Tuple [.Name x px, .Name y py, .Name z pz] kt pt] (.Tuple [a, b, c] c2 pt2) pos) (dPar3 i j l g) :=
  PS.imp (ps_par3 hc hN hi hj hl hij hil hjl hx hy hz ha hw hs) fun _ _ _ q => par3_rd hli hlj hll hxr q
end
/-! ### [e for x in xs for y in ys] -/
def lcD2 (vs : List Nat) (s : D → Env → Option Env) (t : DT) (g1 : DA) (vs1 : List Nat) (s1 : D → Env → Option Env) (t1 : DT) (f : DE) : List D → List D → Env → Res (List D)
  | [], acc, δ => .ok acc δ
  | d :: ds, acc, δ => match s d δ with
    | none => .no
    | some δ1 => match t δ1 with
      | .ok b δ2 => if b = true then (match g1 δ2 with
          | .ok ys δ3 => (match lcD vs1 s1 t1 f ys acc (wipeD δ3 vs1) with
            | .ok acc' δ4 => lcD2 vs s t g1 vs1 s1 t1 f ds acc' (wipeD δ4 vs)
            | _ => .no)
          | _ => .no) else lcD2 vs s t g1 vs1 s1 t1 f ds acc (wipeD δ2 vs)
      | _ => .no
def dLc2 (vs : List Nat) (g : DA) (s : D → Env → Option Env) (t : DT) (g1 : DA) (vs1 : List Nat) (s1 : D → Env → Option Env) (t1 : DT) (f : DE) : DE := fun δ => (g δ).bind fun xs δ1 => match lcD2 vs s t g1 vs1 s1 t1 f xs [] (wipeD δ1 vs) with
  | .ok l δ2 => .ok (.lst l) (backD δ1 δ2 vs)
  | _ => .no
theorem wipe_wipe_sub {τ : L2.St} {vs1 vs : List Nat} (h : ∀ i ∈ vs1, i ∈ vs) : L2.wipe (L2.wipe τ vs1) vs = L2.wipe τ vs := by
  refine List.ext_getElem? fun j => ?_
  by_cases q : j ∈ vs
  · by_cases hl : j < τ.length
    · rw [wipe_in q (by rw [L2.wipe_length]; exact hl), wipe_in q hl]
    · rw [List.getElem?_eq_none (by rw [L2.wipe_length, L2.wipe_length]; omega), List.getElem?_eq_none (by rw [L2.wipe_length]; omega)]
  · rw [L2.wipe_out q, L2.wipe_out q, L2.wipe_out fun z => q (h j z)]
theorem lc2_rd {K : PySem.W.Frag} {mg : Str → Option Value} {kd : Kds} {W : WX} {vs vs1 : List Nat} {g g1 : DA} {s s1 : D → Env → Option Env} {t t1 : DT} {f : DE} {k : Kd} (hv : ∀ i ∈ vs1, i ∈ vs) (hk : ∀ i ∈ vs, kd.at i = .sh) {σ : L2.St} {H : Hp} {Q : L2.VK} (h : rdE K mg kd W (.li k) (dLc2 vs g s t g1 vs1 s1 t1 f) σ H Q) :
    tLc2 (rdI K mg kd W g) (rdG K mg kd vs s) (rdT K mg kd W0 t) (rdI K mg kd W0 g1) (rdG K mg kd vs1 s1) (rdT K mg kd W0 t1) (rdE K mg kd W0 k f) vs vs1 σ H Q := by
  have hk1 : ∀ i ∈ vs1, kd.at i = .sh := fun i m => hk i (hv i m)
  obtain ⟨Fs, P, δ, E, q⟩ := h
  refine ⟨Fs, P, δ, E, bindEL q fun xs δ1 J Fs1 P1 H1 E1 s1' hI q1 p hp => ?_⟩
  have E1w := E1.wipe hk
  cases el : lcD2 vs s t g1 vs1 s1 t1 f xs [] (wipeD δ1 vs) with
  | no => rw [el] at q1; exact q1.elim
  | exn e δ2 => rw [el] at q1; exact q1.elim
  | ok l δe =>
    rw [el] at q1
    obtain ⟨a1, a2, a3⟩ := alloc_ow (o := .lst []) E1.sub hp
    have E2w := E1w.grow a1 a2
    have A0 : Acc K mg k (fun a => a = p) H1 (All Fs1) P1 (upd H1 p (.lst [])) p [] := by
      refine ⟨⟨p, [], [], fun _ => Non, rfl, rfl, upd_same, rfl, fun j v d z => by simp at z, fun _ _ _ z => z.elim, fun _ _ z => z.elim, fun b => ⟨fun e => .inl e, fun e => e.elim id fun ⟨_, z⟩ => z.elim⟩⟩, a3.new, fun a g m => ?_, a3.notP, a3.there⟩
      obtain ⟨u, hu⟩ := E1.all_in a m
      rw [a3.new a g] at hu; cases hu
    have S0 : Stp (All Fs1) P1 H1 (All Fs1) P1 (upd H1 p (.lst [])) := a1.wid
    -- the state between turns, at the slots τ
    let St : L2.St → Env → List D → Hp → Prop := fun τ δ' acc H => ∃ (Fs' : Nat → AS) (P' : Hp) (G : AS), EnvR K mg kd Fs' P' H τ δ' ∧ Stp (All Fs1) P1 H1 (All Fs') P' H ∧ Acc K mg k G H1 (All Fs') P' H p acc
    let Pv : Nat → Hp → Prop := fun i H => ∃ (δ' : Env) (acc : List D), St (L2.wipe σ vs) δ' acc H ∧ lcD2 vs s t g1 vs1 s1 t1 f (xs.drop i) acc δ' = .ok l δe
    refine ⟨fun i m H => m = xs.length - i ∧ i ≤ xs.length ∧ Pv i H, ⟨xs.length, by simp, Nat.zero_le _, wipeD δ1 vs, [], ⟨Fs1, P1, _, E2w, S0, A0⟩, el⟩, ?_⟩
    rintro i m H2 ⟨rfl, hi, δ2, acc, ⟨Fs2, P2, G2, E2, S2, A2⟩, e2⟩
    obtain ⟨h1, h2⟩ := hI i P2 H2 S2.grow E2.sub
    by_cases hlt : i < xs.length
    · right
      obtain ⟨hgo, hy⟩ := h1 _ (List.getElem?_eq_getElem hlt)
      refine ⟨hgo, Pv (i + 1), fun H' p' => ⟨xs.length - (i + 1), by omega, rfl, hlt, p'⟩, fun x H' y => ?_⟩
      obtain ⟨P3, st, sub3, r3⟩ := hy x H' y
      have E3 := E2.grow st sub3
      have S3 : Stp (All Fs1) P1 H1 (All Fs2) P3 H' := S2.trans st.wid
      have A3 := A2.over (M2 := All Fs2) st.wid
      refine ⟨Fs2, P3, δ2, xs[i], E3, r3, ?_⟩
      rw [List.drop_eq_getElem_cons hlt] at e2
      unfold lcD2 at e2
      cases es : s xs[i] δ2 with
      | none => rw [es] at e2; cases e2
      | some δ3 =>
        rw [es] at e2
        simp only at e2
        intro σ3 E4 w4
        refine ⟨by rw [w4]; exact wipe_wipe σ vs, Fs2, P3, δ3, E4, ?_⟩
        cases et : t δ3 with
        | no => rw [et] at e2; cases e2
        | exn e δ4 => rw [et] at e2; cases e2
        | ok b δ4 =>
          rw [et] at e2
          simp only at e2
          intro Fs5 P5 H5 E5 S5
          have A5 := A3.over S5
          have wσ : L2.wipe σ3 vs = L2.wipe σ vs := by rw [w4]; exact wipe_wipe σ vs
          cases b with
          | false =>
            rw [if_neg Bool.false_ne_true] at e2 ⊢
            have E6 := E5.wipe hk
            rw [wσ] at E6
            exact ⟨_, acc, ⟨Fs5, P5, _, E6, S3.trans S5, A5⟩, e2⟩
          | true =>
            rw [if_pos rfl] at e2 ⊢
            refine ⟨Fs5, P5, δ4, E5, ?_⟩
            cases eg : g1 δ4 with
            | no => rw [eg] at e2; cases e2
            | exn e δ5 => rw [eg] at e2; cases e2
            | ok ys δ5 =>
              rw [eg] at e2
              simp only at e2
              intro J1 Fs6 P6 H6 E6 S6 hI1
              have A6 := A5.over S6
              have S06 := (S3.trans S5).trans S6
              cases ei : lcD vs1 s1 t1 f ys acc (wipeD δ5 vs1) with
              | no => rw [ei] at e2; cases e2
              | exn e δ6 => rw [ei] at e2; cases e2
              | ok acc' δ6 =>
                rw [ei] at e2
                simp only at e2
                have E6w := E6.wipe hk1
                let Pi : Nat → Hp → Prop := fun j H => ∃ (δ' : Env) (ac : List D), St (L2.wipe σ3 vs1) δ' ac H ∧ (∀ a o, P6 a = some o → ∃ P', Sub P6 P' ∧ P' a = some o) ∧ (∃ (Fs' : Nat → AS) (P' : Hp) (G : AS), Sub P6 P' ∧ EnvR K mg kd Fs' P' H (L2.wipe σ3 vs1) δ' ∧ Stp (All Fs1) P1 H1 (All Fs') P' H ∧ Acc K mg k G H1 (All Fs') P' H p ac) ∧ lcD vs1 s1 t1 f (ys.drop j) ac δ' = .ok acc' δ6
                have mk : ∀ {j : Nat} {H : Hp} {δ' : Env} {ac : List D} {Fs' : Nat → AS} {P' : Hp} {G : AS}, Sub P6 P' → EnvR K mg kd Fs' P' H (L2.wipe σ3 vs1) δ' → Stp (All Fs1) P1 H1 (All Fs') P' H → Acc K mg k G H1 (All Fs') P' H p ac → lcD vs1 s1 t1 f (ys.drop j) ac δ' = .ok acc' δ6 → Pi j H := fun a b c d e =>
                  ⟨_, _, ⟨_, _, _, b, c, d⟩, fun x o z => ⟨_, a, a x o z⟩, ⟨_, _, _, a, b, c, d⟩, e⟩
                refine ⟨fun j n H => n = ys.length - j ∧ j ≤ ys.length ∧ Pi j H, ⟨ys.length, by simp, Nat.zero_le _, mk (Sub.refl _) E6w S06 A6 ei⟩, ?_⟩
                rintro j n H7 ⟨rfl, hj, δ7, ac, _, _, ⟨Fs7, P7, G7, sub67, E7, S7, A7⟩, e7⟩
                obtain ⟨g1', g2'⟩ := hI1 j P7 H7 sub67 E7.sub
                by_cases hlt2 : j < ys.length
                · right
                  obtain ⟨hgo2, hy2⟩ := g1' _ (List.getElem?_eq_getElem hlt2)
                  refine ⟨hgo2, Pi (j + 1), fun H' p' => ⟨ys.length - (j + 1), by omega, rfl, hlt2, p'⟩, fun x2 H8 y2 => ?_⟩
                  obtain ⟨P8, st8, sub8, r8⟩ := hy2 x2 H8 y2
                  have E8 := E7.grow st8 sub8
                  have S8 : Stp (All Fs1) P1 H1 (All Fs7) P8 H8 := S7.trans st8.wid
                  have A8 := A7.over (M2 := All Fs7) st8.wid
                  have sub68 : Sub P6 P8 := sub67.trans st8.grow
                  refine ⟨Fs7, P8, δ7, ys[j], E8, r8, ?_⟩
                  rw [List.drop_eq_getElem_cons hlt2] at e7
                  unfold lcD at e7
                  cases es2 : s1 ys[j] δ7 with
                  | none => rw [es2] at e7; cases e7
                  | some δ8 =>
                    rw [es2] at e7
                    simp only at e7
                    intro σ9 E9 w9
                    refine ⟨by rw [w9]; exact wipe_wipe σ3 vs1, Fs7, P8, δ8, E9, ?_⟩
                    cases et2 : t1 δ8 with
                    | no => rw [et2] at e7; cases e7
                    | exn e δ9 => rw [et2] at e7; cases e7
                    | ok b2 δ9 =>
                      rw [et2] at e7
                      simp only at e7
                      intro Fs10 P10 H10 E10 S10
                      have A10 := A8.over S10
                      have wσ2 : L2.wipe σ9 vs1 = L2.wipe σ3 vs1 := by rw [w9]; exact wipe_wipe σ3 vs1
                      cases b2 with
                      | false =>
                        rw [if_neg Bool.false_ne_true] at e7 ⊢
                        have E11 := E10.wipe hk1
                        rw [wσ2] at E11
                        exact mk (sub68.trans S10.grow) E11 (S8.trans S10) A10 e7
                      | true =>
                        rw [if_pos rfl] at e7 ⊢
                        refine ⟨Fs10, P10, δ9, E10, ?_⟩
                        cases ef : f δ9 with
                        | no => rw [ef] at e7; cases e7
                        | exn e δ10 => rw [ef] at e7; cases e7
                        | ok z δ10 =>
                          rw [ef] at e7
                          simp only at e7
                          intro v11 Fs11 P11 H11 Gy E11 S11 f11 o11
                          have A11 := A10.over S11
                          obtain ⟨ws, hw, hl, E12, G', A12, _⟩ := A11.app E11 A10.fr.there o11 f11 (S8.trans S10).dom
                          by_cases hsz : ac.length < sizeLine
                          · rw [if_pos hsz] at e7
                            refine ⟨ws, hw, by rw [hl]; exact hsz, ?_⟩
                            have E13 := E12.wipe hk1
                            rw [wσ2] at E13
                            have hpn : H1 p = none := hp
                            have S := (S8.trans S10).trans S11
                            refine mk (((sub68.trans S10.grow).trans S11.grow)) E13 ⟨fun a o h n t => ?_, S.grow, S.newP, S.newM, fun a o h => ?_⟩ A12 e7
                            · rw [upd_ne (fun z => by subst z; rw [hpn] at h; cases h)]; exact S.keep a o h n t
                            · by_cases q : a = p
                              · subst q; exact ⟨_, upd_same⟩
                              · rw [upd_ne q]; exact S.dom a o h
                          · rw [if_neg hsz] at e7; cases e7
                · left
                  have e : j = ys.length := by omega
                  subst e
                  rw [List.drop_length] at e7
                  unfold lcD at e7
                  cases e7
                  refine ⟨g2' (Nat.le_refl _), ?_⟩
                  have E14 := E7.wipe hk
                  rw [wipe_wipe_sub hv, wσ] at E14
                  exact ⟨_, _, ⟨Fs7, P7, _, E14, S7, A7⟩, e2⟩
    · left
      have e : i = xs.length := by omega
      subst e
      rw [List.drop_length] at e2
      unfold lcD2 at e2
      cases e2
      refine ⟨h2 (Nat.le_refl _), ?_⟩
      exact q1 _ Fs2 P2 H2 G2 (EnvR.unwipe E1 E2 S2.grow hk) S2 A2.fr A2.own
theorem ve_lc2 {X : Cx} {kd : Kds} {W : WX} {k : Kd} {elt tg iter tg1 iter1 : Expr} {ifs ifs1 : List Expr} {scope : Scope} {pos : Pos} {g g1 : DA} {s s1 : D → Env → Option Env} {t t1 : DT} {f : DE} (own : List (Str × Nat)) (vs1 : List Nat) (hN : X.N.Nodup) (hi : VI X kd W tg iter g) (ok : BlkOk X.N X.env.scope scope own)
    (hg : ∀ (s0 : Shared) (H : Hp) (C : Addr) (cl : List (Str × Addr)) (fp : List Addr), VG (X.blk s0 H scope (compEnvC scope cl C X.env) fp) kd (own.map (·.2)) tg s)
    (ht : ∀ (s0 : Shared) (H : Hp) (C : Addr) (cl : List (Str × Addr)) (fp : List Addr), PTs (X.blk s0 H scope (compEnvC scope cl C X.env) fp) ifs (rdT X.K X.mg kd W0 t))
    (hi1 : ∀ (s0 : Shared) (H : Hp) (C : Addr) (cl : List (Str × Addr)) (fp : List Addr), VI (X.blk s0 H scope (compEnvC scope cl C X.env) fp) kd W0 tg1 iter1 g1)
    (hg1 : ∀ (s0 : Shared) (H : Hp) (C : Addr) (cl : List (Str × Addr)) (fp : List Addr), VG (X.blk s0 H scope (compEnvC scope cl C X.env) fp) kd vs1 tg1 s1)
    (ht1 : ∀ (s0 : Shared) (H : Hp) (C : Addr) (cl : List (Str × Addr)) (fp : List Addr), PTs (X.blk s0 H scope (compEnvC scope cl C X.env) fp) ifs1 (rdT X.K X.mg kd W0 t1))
    (he : ∀ (s0 : Shared) (H : Hp) (C : Addr) (cl : List (Str × Addr)) (fp : List Addr), VE (X.blk s0 H scope (compEnvC scope cl C X.env) fp) kd W0 k elt f)
    (hv : ∀ i ∈ vs1, i ∈ own.map (·.2) := by decide) (hk : ∀ i ∈ own.map (·.2), kd.at i = .sh := by repeat (first | exact allNil | refine allCons rfl ?_)) (hc : X.calm = true := by rfl) (hs : ∀ x, foldedSetIterable iter X.env x = pure x := by intro _; rfl) (hs1 : ∀ env x, foldedSetIterable iter1 env x = pure x := by intro _ _; rfl) :
    VE X kd W (.li k) (.ListComp elt [⟨tg, iter, ifs, 0⟩, ⟨tg1, iter1, ifs1, 0⟩] scope pos) (dLc2 (own.map (·.2)) g s t g1 vs1 s1 t1 f) := PE.imp (pe_lc2 hc hN hi ok hv hg ht hi1 hg1 ht1 he hs hs1) fun _ _ _ h => lc2_rd hv hk h
theorem vs_setLc2 {X : Cx} {fx : Fx} {kd : Kds} (i : Nat) {y : Str} {py : Pos} {k : Kd} {elt tg iter tg1 iter1 : Expr} {ifs ifs1 : List Expr} {scope : Scope} {pos spos : Pos} {g g1 : DA} {s s1 : D → Env → Option Env} {t t1 : DT} {f : DE} (own : List (Str × Nat)) (vs1 : List Nat) (hN : X.N.Nodup)
    (hsw : swapsWith (.ListComp elt [⟨tg, iter, ifs, 0⟩, ⟨tg1, iter1, ifs1, 0⟩] scope pos) (some (.Name y py)) spos.line X.env = pure true) (hi : VI X kd fx.W tg iter g) (ok : BlkOk X.N X.env.scope scope own)
    (hg : ∀ (s0 : Shared) (H : Hp) (C : Addr) (cl : List (Str × Addr)) (fp : List Addr), VG (X.blk s0 H scope (compEnvC scope cl C X.env) fp) kd (own.map (·.2)) tg s)
    (ht : ∀ (s0 : Shared) (H : Hp) (C : Addr) (cl : List (Str × Addr)) (fp : List Addr), PTs (X.blk s0 H scope (compEnvC scope cl C X.env) fp) ifs (rdT X.K X.mg kd W0 t))
    (hi1 : ∀ (s0 : Shared) (H : Hp) (C : Addr) (cl : List (Str × Addr)) (fp : List Addr), VI (X.blk s0 H scope (compEnvC scope cl C X.env) fp) kd W0 tg1 iter1 g1)
    (hg1 : ∀ (s0 : Shared) (H : Hp) (C : Addr) (cl : List (Str × Addr)) (fp : List Addr), VG (X.blk s0 H scope (compEnvC scope cl C X.env) fp) kd vs1 tg1 s1)
    (ht1 : ∀ (s0 : Shared) (H : Hp) (C : Addr) (cl : List (Str × Addr)) (fp : List Addr), PTs (X.blk s0 H scope (compEnvC scope cl C X.env) fp) ifs1 (rdT X.K X.mg kd W0 t1))
    (he : ∀ (s0 : Shared) (H : Hp) (C : Addr) (cl : List (Str × Addr)) (fp : List Addr), VE (X.blk s0 H scope (compEnvC scope cl C X.env) fp) kd W0 k elt f)
    (hv : ∀ i ∈ vs1, i ∈ own.map (·.2) := by decide) (hk : ∀ i ∈ own.map (·.2), kd.at i = .sh := by repeat (first | exact allNil | refine allCons rfl ?_)) (hy : X.N[i]? = some y := by rfl) (hyl : X.env.scope.names.lookup y = some .local := by rfl) (hl : i < kd.length := by exact Nat.le_of_ble_eq_true rfl) (hxr : fx.XR kd := by first | trivial | rfl) (hc : X.calm = true := by rfl) (hs : ∀ x, foldedSetIterable iter X.env x = pure x := by intro _; rfl) (hs1 : ∀ env x, foldedSetIterable iter1 env x = pure x := by intro _ _; rfl) :
    VS X fx kd (kd.set i (.li k)) (.Assign [.Name y py] (.ListComp elt [⟨tg, iter, ifs, 0⟩, ⟨tg1, iter1, ifs1, 0⟩] scope pos) spos) (dSet i (dLc2 (own.map (·.2)) g s t g1 vs1 s1 t1 f)) :=
  PS.imp (ps_setLc2 (te := rdE X.K X.mg kd W0 k f) hc hN hy hyl hsw hi ok hv hg ht hi1 hg1 ht1 he hs hs1) fun D' σ H q => by
    have q := set_rd hl hxr q
    exact lc2_rd hv hk q
end VL

set_option Elab.async false
set_option linter.all false
set_option maxRecDepth 100000
/-! Layer V: list + list, list * int, list(range(..)), stores at depth two. -/
namespace VL
open PySem PySem.Spec PyProof.Rows L2
section
variable {K : PySem.W.Frag} {mg : Str → Option Value}
theorem d_cat : OpD K mg rCat (.li .sh) catD := by
  intro P H x y d e z Q s r1 r2 h c
  unfold catD at h
  cases r1 with
  | @lst a vs l h1 l1 =>
    cases r2 with
    | @lst b ws m h2 l2 =>
      by_cases q : l.length + m.length ≤ sizeLine
      · simp only [if_pos q] at h
        cases h
        exact ⟨a, b, vs, ws, rfl, rfl, s.at h1, s.at h2, by rw [l1.length, l2.length]; exact q, fun p hp => Cont.lst c s (l1.append l2) hp⟩
      · simp only [if_neg q] at h; cases h
    | _ => cases h
  | _ => cases r2 <;> cases h
/-- + of ints, texts, tuples, lists -/
def add4D (d e : D) : Option D := match d, e with
  | .lst a, .lst b => catD (.lst a) (.lst b)
  | d, e => addD d e
theorem op_add4 {X : Cx} : OpR X (binaryOp .Add) (fun x y H Q => rAdd3 X.K x y H Q ∨ rCat x y H Q) := op_add3.or op_cat
theorem d_add4 : OpD K mg (fun x y H Q => rAdd3 K x y H Q ∨ rCat x y H Q) .sh add4D := by
  intro P H x y d e z Q s r1 r2 h c
  unfold add4D at h
  split at h
  · rename_i a b
    refine .inr (d_cat P H x y _ _ z Q s r1 r2 h fun v P' H' G st sb f o => ?_)
    exact c v (add P' H' G) H' Non (⟨st.keep, st.grow.trans (add_sub f.notP), fun a o e => by
      by_cases g : G a
      · exact .inr (.inl (f.new a g))
      · rw [add_out g] at e; exact st.newP a o e, fun _ z => z.elim, st.dom⟩) (add_le sb (mu_ntb o.mu)) Fr.non (Own.sh_of (o.rel f.notP))
  · exact .inl (d_add P H x y d e z Q s r1 r2 h c)
def repD : D → D → Option D
  | .lst a, .int k => if -(2 ^ 63) ≤ k ∧ k < 2 ^ 63 ∧ a.length * k.toNat ≤ sizeLine then some (.lst (List.replicate k.toNat a).flatten) else none
  | _, _ => none
theorem RepL.rep {P : Hp} {vs : List V} {ds : List D} (r : RepL K mg P vs ds) : ∀ n : Nat, RepL K mg P (List.replicate n vs).flatten (List.replicate n ds).flatten
  | 0 => .nil
  | n + 1 => by
    rw [List.replicate_succ, List.replicate_succ, List.flatten_cons, List.flatten_cons]
    exact r.append (RepL.rep r n)
theorem d_rep : OpD K mg rRep (.li .sh) repD := by
  intro P H x y d e z Q s r1 r2 h c
  unfold repD at h
  cases r1 with
  | @lst a vs l h1 l1 =>
    cases r2 with
    | int k =>
      by_cases q : -(2 ^ 63) ≤ k ∧ k < 2 ^ 63 ∧ l.length * k.toNat ≤ sizeLine
      · simp only [if_pos q] at h
        cases h
        exact ⟨a, k, vs, rfl, rfl, s.at h1, q.1, q.2.1, by rw [l1.length]; exact q.2.2, fun p hp => Cont.lst c s (l1.rep _) hp⟩
      · simp only [if_neg q] at h; cases h
    | _ => cases h
  | _ => cases r2 <;> cases h
end
/-! ### list(range(..)) -/
def rgOkB (a b : Int) : Bool := decide (-(2 ^ 62) ≤ a ∧ a < 2 ^ 62 ∧ -(2 ^ 62) ≤ b ∧ b < 2 ^ 62 ∧ (b - a).toNat ≤ 2 ^ 24)
def dLRg1 (f : DE) : DE := fun δ => (f δ).bind fun d δ1 => match d with
  | .int b => if rgOkB 0 b then .ok (.lst (rangeD 0 b)) δ1 else .no
  | _ => .no
theorem rgV_rep {K : PySem.W.Frag} {mg : Str → Option Value} {P : Hp} (a b : Int) : RepL K mg P (rgV a b) (rangeD a b) := by
  unfold rgV rangeD
  refine RepL.of (by simp) fun j v d h1 h2 => ?_
  rw [List.getElem?_map] at h1 h2
  cases e : (List.range (b - a).toNat)[j]? with
  | none => rw [e] at h1; cases h1
  | some i => rw [e] at h1 h2; cases h1; cases h2; exact .int _
section
variable {X : Cx} {kd : Kds} {W : WX} {pos p p2 pos2 : Pos}
theorem ve_listRg1 {a : Expr} {f : DE} (ha : VE X kd W .sh a f) (hm : X.mg "list" = none) (hm2 : X.mg "range" = none) (hc : X.calm = true := by rfl) (hg : Gl X "list" := by rfl) (hg2 : Gl X "range" := by rfl)
    (na : starEach [a] X.env = (false, eval a X.env) :: starEach [] X.env := by rfl) (nb : starEach [.Call (.Name "range" p2) [a] [] pos2] X.env = (false, eval (.Call (.Name "range" p2) [a] [] pos2) X.env) :: starEach [] X.env := by rfl) :
    VE X kd W (.li .sh) (.Call (.Name "list" p) [.Call (.Name "range" p2) [a] [] pos2] [] pos) (dLRg1 f) :=
  PE.imp (pe_listRg hc hg hm (prg_1 hg2 hm2 ha na) nb) fun σ H Q ⟨Fs, P, δ, E, q⟩ => by
    refine ⟨Fs, P, δ, E, ?_⟩
    have q1 := bindE (k := .sh) q
    revert q1
    cases f δ with
    | no => exact fun q => q
    | exn e δ1 => exact fun q => q
    | ok d δ1 =>
      intro q1 v1 Fs1 P1 H1 G1 E1 s1 f1 o1
      obtain ⟨d', δ1', Fs1', P1', G1', E1', s1', f1', o1', q2⟩ := q1 v1 Fs1 P1 H1 G1 E1 s1 f1 o1
      cases o1'.sh_rep with
      | int b =>
        simp only at q2
        by_cases hb : rgOkB 0 b = true
        · rw [if_pos hb] at q2
          unfold rgOkB at hb
          have hb := of_decide_eq_true hb
          refine ⟨b, rfl, hb, fun p hp => ?_⟩
          obtain ⟨h1, h2, h3⟩ := alloc_ow (o := .lst (rgV 0 b)) E1'.sub hp
          exact PostE.step E1' h1 h2 h3 (own_new (rgV_rep 0 b)) q2
        · rw [if_neg hb] at q2; exact q2.elim
      | _ => exact q2.elim
end
/-! ### an expression that does not look at slot i -/
def dHide (i : Nat) (f : DE) : DE := fun δ => match δ[i]? with
  | some (some v) => (match f (δ.set i none) with
    | .ok d δ' => if (δ'[i]?).join.isNone then .ok d (δ'.set i (some v)) else .no
    | .exn e δ' => if (δ'[i]?).join.isNone then .exn e (δ'.set i (some v)) else .no
    | .no => .no)
  | _ => .no
section
variable {K : PySem.W.Frag} {mg : Str → Option Value} {kd : Kds} {W : WX} {Fs : Nat → AS} {P H : Hp} {σ : L2.St} {δ : Env}
theorem all_forget {i : Nat} {a : Addr} : All (upF Fs i Non) a → All Fs a ∧ ∃ j, j ≠ i ∧ Fs j a := fun ⟨j, h⟩ => by
  by_cases q : j = i
  · subst q; rw [upF_same] at h; exact h.elim
  · rw [upF_ne q] at h; exact ⟨⟨j, h⟩, j, q, h⟩
/-- slot i again, its cells untouched -/
theorem EnvR.again {i : Nat} {d : D} {Fs2 : Nat → AS} {P2 H2 : Hp} {δ2 : Env} (E : EnvR K mg kd Fs P H σ δ) (hd : δ[i]? = some (some d)) (s : Stp (All (upF Fs i Non)) P H (All Fs2) P2 H2) (E2 : EnvR K mg kd Fs2 P2 H2 σ δ2) (hn : (δ2[i]?).join.isNone) :
    EnvR K mg kd (upF Fs2 i (Fs i)) P2 H2 σ (δ2.set i (some d)) ∧ Stp (All Fs) P H (All (upF Fs2 i (Fs i))) P2 H2 := by
  have no2 : ∀ a, ¬ Fs2 i a := fun a h => by
    obtain ⟨d', e⟩ := E2.only i a h
    rw [e] at hn; cases hn
  have hid : i < δ.length := (List.getElem?_eq_some_iff.mp hd).1
  have hl : i < δ2.length := by rw [E2.len, ← E.len]; exact hid
  have nM : ∀ a, Fs i a → ¬ All (upF Fs i Non) a := fun a h m => by
    obtain ⟨_, j, hj, m⟩ := all_forget m
    exact hj (E.sep j i a m h)
  have n2 : ∀ a, Fs i a → ¬ All Fs2 a := fun a h m => by
    rcases s.newM a m with z | z
    · exact nM a h z
    · obtain ⟨_, o, e⟩ := E.out i a h; rw [z] at e; cases e
  have kp : ∀ a o, Fs i a → H a = some o → NoTb o → H2 a = some o := fun a o h e => s.keep a o e (nM a h)
  obtain ⟨v, hv, ow⟩ := E.slot i d hd
  refine ⟨⟨E2.sub, fun j e h => ?_, fun j a h => ?_, fun j l a h1 h2 => ?_, fun j a h => ?_, by rw [List.length_set]; exact E2.len, E2.lenK⟩, ⟨fun a o e n => s.keep a o e (fun m => n (all_forget m).1), s.grow, fun a o e => (s.newP a o e).imp id fun z => z.imp id fun m => (all_forget m).1, fun a h => ?_, s.dom⟩⟩
  · by_cases q : j = i
    · subst q
      rw [List.getElem?_set_self hl] at h
      cases h
      exact ⟨v, hv, by rw [upF_same]; exact ow.stay s.grow kp⟩
    · rw [List.getElem?_set_ne (Ne.symm q)] at h
      obtain ⟨u, h1, h2⟩ := E2.slot j e h
      exact ⟨u, h1, by rw [upF_ne q]; exact h2⟩
  · by_cases q : j = i
    · subst q; exact ⟨d, List.getElem?_set_self hl⟩
    · rw [upF_ne q] at h
      obtain ⟨e, h1⟩ := E2.only j a h
      exact ⟨e, by rw [List.getElem?_set_ne (Ne.symm q)]; exact h1⟩
  · by_cases q : j = i
    · by_cases q2 : l = i
      · exact q.trans q2.symm
      · subst q; rw [upF_same] at h1; rw [upF_ne q2] at h2; exact (n2 a h1 ⟨l, h2⟩).elim
    · rw [upF_ne q] at h1
      by_cases q2 : l = i
      · subst q2; rw [upF_same] at h2; exact (n2 a h2 ⟨j, h1⟩).elim
      · rw [upF_ne q2] at h2; exact E2.sep j l a h1 h2
  · by_cases q : j = i
    · subst q
      rw [upF_same] at h
      obtain ⟨p0, o, e⟩ := E.out j a h
      refine ⟨?_, s.dom a o e⟩
      cases z : P2 a with
      | none => rfl
      | some u =>
        rcases s.newP a u z with y | y | y
        · rw [p0] at y; cases y
        · rw [e] at y; cases y
        · exact (nM a h y).elim
    · rw [upF_ne q] at h; exact E2.out j a h
  · rcases all_upF h with z | z
    · exact (s.newM a z).imp (fun m => (all_forget m).1) id
    · exact .inl ⟨i, z⟩
theorem forget_stp {i : Nat} : Stp (All Fs) P H (All (upF Fs i Non)) P H := ⟨fun _ _ h _ _ => h, Sub.refl _, fun a o h => .inl h, fun a h => .inl (all_forget h).1, fun a o h => ⟨o, h⟩⟩
end
/-! ### x[i][j] = .. of an owned list of owned lists -/
def uIx2 (i : Nat) (f g : DE) : D → Env → Res Unit := fun d δ => match slotL δ i with
  | none => .no
  | some _ => (f δ).bind fun e δ1 => match slotL δ1 i, e with
    | some l, .int k => (match ixN l.length k with
      | some j => (dHide i g δ1).bind fun e2 δ2 => match l[j]?, e2 with
        | some (.lst m), .int k2 => (match ixN m.length k2 with
          | some j2 => .ok () (δ2.set i (some (.lst (l.set j (.lst (m.set j2 d))))))
          | none => .no)
        | _, _ => .no
      | none => .no)
    | _, _ => .no
section
variable {X : Cx} {kd : Kds} {W : WX} {pos p1 p2 : Pos}
/-- an inner list of an owned list of lists -/
theorem EnvR.list2 {K : PySem.W.Frag} {mg : Str → Option Value} {kd : Kds} {Fs : Nat → AS} {P H : Hp} {σ : L2.St} {δ : Env} {i : Nat} {l : List D} (E : EnvR K mg kd Fs P H σ δ) (hk : (kd.at i).strip = .li (.li .sh)) (h : slotL δ i = some l) : ∃ (p : Addr) (vs : List V), σ[i]? = some (some (.ref p)) ∧ H p = some (.lst vs) ∧ vs.length = l.length ∧
    ∀ (j : Nat) (m : List D), l[j]? = some (.lst m) → ∃ (q : Addr) (ws : List V), vs[j]? = some (.ref q) ∧ H q = some (.lst ws) ∧ RepL K mg P ws m ∧ Fs i q ∧
      ∀ (us : List V) (n : List D), RepL K mg P us n → ∃ F', EnvR K mg kd (upF Fs i F') P (L2.upd H q (.lst us)) σ (δ.set i (some (.lst (l.set j (.lst n))))) ∧ Stp (All Fs) P H (All (upF Fs i F')) P (L2.upd H q (.lst us)) := by
  have ed := slotL_eq h
  obtain ⟨v, hv, ow⟩ := E.slot i _ ed
  have os := ow.strip
  rw [hk] at os
  obtain ⟨p, vs, ds, Fl, rfl, e2, hp, hl, hi, hsp, hb, hF⟩ := os.li_at
  cases e2
  refine ⟨p, vs, hv, hp, hl, fun j m hj => ?_⟩
  have hjl : j < l.length := (List.getElem?_eq_some_iff.mp hj).1
  have hvj : vs[j]? = some (vs[j]'(by omega)) := List.getElem?_eq_getElem (by omega)
  have oj := hi j _ _ hvj hj
  obtain ⟨q, ws, ds', Fl', e3, e4, hq, _⟩ := oj.li_at
  cases e4
  rw [e3] at oj hvj
  obtain ⟨ws', hq', rl, hFq, hone⟩ := oj.li_repL
  have hFiq : Fs i q := (hF q).mpr (.inr ⟨j, hFq⟩)
  refine ⟨q, ws', hvj, hq', rl, hFiq, fun us n rn => ?_⟩
  have qp : q ≠ p := (hb j q hFq).1
  have own2 : Own K mg (.li (.li .sh)) (Fs i) P (L2.upd H q (.lst us)) (.ref p) (.lst (l.set j (.lst n))) := by
    refine ⟨p, vs, l.set j (.lst n), Fl, rfl, rfl, by rw [upd_ne (Ne.symm qp)]; exact hp, by rw [List.length_set]; exact hl, fun a v d h1 h2 => ?_, hsp, fun a b h1 => by rw [List.length_set]; exact hb a b h1, hF⟩
    by_cases z : a = j
    · subst z
      rw [List.getElem?_set_self hjl] at h2
      cases h2
      rw [hvj] at h1
      cases h1
      obtain ⟨a1, a2, a3, a4, a5, a6, a7, a8, a9, a10, a11, a12⟩ := own_li (K := K) (mg := mg) (P := P) (p := q) (H' := L2.upd H q (.lst us)) (upd_same) rn
      refine ⟨q, us, n, fun _ => Non, rfl, rfl, upd_same, rn.length, fun c v d h1 h2 => ?_, fun _ _ _ z => z.elim, fun _ _ z => z.elim, fun b => ⟨fun e => .inl (hone b e), fun e => e.elim (fun e => by rw [e]; exact hFq) fun ⟨_, z⟩ => z.elim⟩⟩
      obtain ⟨v', h3, r'⟩ := rn.get h2
      rw [h1] at h3; cases h3
      exact Own.sh_of r'
    · rw [List.getElem?_set_ne (Ne.symm z)] at h2
      exact (hi a v d h1 h2).stay (Sub.refl _) fun b o fb e _ => by rw [upd_ne (fun y => by subst y; exact z (hsp a j b fb hFq))]; exact e
  exact ⟨Fs i, E.write ed hv hFiq (ow.unstrip (by rw [hk]; exact own2)) (fun a z => .inl z) (Fr.non (H := H)), Stp.write Stp.refl hFiq (fun a z => .inl z) (Fr.non (H := H))⟩
theorem vu_ix2 (i : Nat) {x : Str} {ia ib : Expr} {f g : DE} (ha : VE X kd W .sh ia f) (hb : VE X kd W .sh ib g) (hk : (kd.at i).strip = .li (.li .sh) := by rfl) (hN : X.N[i]? = some x := by rfl) (hv : Vis X.env.scope x := by first | exact Or.inl rfl | exact Or.inr (Or.inl rfl) | exact Or.inr (Or.inr rfl))
    (hd : (x == ("__debug__" : Str)) = false := by decide) (hcd : (x == ("__classdict__" : Str)) = false := by decide) (hs : PlainIx ia := by exact fun _ _ => rfl)
    (he : ∀ v, assign (.Subscript (.Subscript (.Name x p1) ia p2) ib pos) X.env v = (do
      let ov ← holding [v] (eval (.Subscript (.Name x p1) ia p2) X.env)
      let iv ← holding [v, ov] (eval ib X.env)
      standAt pos
      holding [v, ov, iv] (setItem ov iv v)
      release [v, ov, iv] []) := by intro _; rfl) : VU X kd W (.Subscript (.Subscript (.Name x p1) ia p2) ib pos) (uIx2 i f g) :=
  PG.imp (pg_sub (pe_ix ix_seq (pe_var hN hv hd hcd) ha hs) hb set_list he) fun v σ H Q ⟨Fs, P, δ, d, E, r, q⟩ => by
    unfold uIx2 at q
    cases e0 : slotL δ i with
    | none => rw [e0] at q; exact q.elim
    | some l0 =>
      rw [e0] at q
      obtain ⟨p, vs0, hv0, _⟩ := E.list2 hk e0
      refine ⟨_, hv0, Fs, P, δ, E, ?_⟩
      have q1 := bindEU (k := .sh) q
      revert q1
      cases f δ with
      | no => exact fun q => q
      | exn e δ1 => exact fun q => q
      | ok e δ1 =>
        intro q1 v1 Fs1 P1 H1 G1 E1 s1 f1 o1
        obtain ⟨e', δ1', Fs1', P1', G1', E1', s1', f1', o1', q2⟩ := q1 v1 Fs1 P1 H1 G1 E1 s1 f1 o1
        cases e3 : slotL δ1' i with
        | none => rw [e3] at q2; exact q2.elim
        | some l =>
          rw [e3] at q2
          obtain ⟨p', vs, hv', hp, hl, inner⟩ := E1'.list2 hk e3
          rw [hv0] at hv'
          cases hv'
          cases o1'.sh_rep with
          | int k =>
            simp only at q2
            cases ej : ixN l.length k with
            | none => rw [ej] at q2; exact q2.elim
            | some j =>
              rw [ej] at q2
              simp only at q2
              have hjl : j < l.length := (ixN_seq ej).2.1
              have hvj : vs[j]? = some (vs[j]'(by omega)) := List.getElem?_eq_getElem (by omega)
              have e9 : ixN vs.length k = some j := by rw [hl]; exact ej
              have e10 : atI vs k = some (vs[j]'(by omega)) := by unfold atI; rw [e9]; exact hvj
              refine .inl ⟨p, vs, k, vs[j]'(by omega), rfl, rfl, SqL.of hp, e10, ?_⟩
              have ed := slotL_eq e3
              have E2 := E1'.forget i
              refine ⟨_, P1', δ1'.set i none, E2, ?_⟩
              unfold dHide at q2
              rw [ed] at q2
              simp only at q2
              revert q2
              cases eg : g (δ1'.set i none) with
              | no => exact fun q => q
              | exn e δ2 =>
                intro q2 cls dx Fs' P' H' E' s' x
                simp only at q2
                by_cases hn : (δ2[i]?).join.isNone = true
                · rw [if_pos hn] at q2
                  obtain ⟨E3, S3⟩ := E1'.again ed s' E' hn
                  exact q2 cls dx σ _ P' H' E3 S3 x
                · rw [if_neg hn] at q2; exact q2.elim
              | ok e2 δ2 =>
                intro q2 v2 Fs' P' H' G2 E' s' f2 o2
                simp only at q2
                by_cases hn : (δ2[i]?).join.isNone = true
                · rw [if_pos hn] at q2
                  obtain ⟨E3, S3⟩ := E1'.again ed s' E' hn
                  have q3 : PostU X.K X.mg kd W σ Fs1' P1' H1 Q ((fun (a : Option D) (b : D) => match a, b with
                    | some (.lst m), .int k2 => (match ixN m.length k2 with
                      | some j2 => (Res.ok () ((δ2.set i (some (.lst l))).set i (some (.lst (l.set j (.lst (m.set j2 d)))))) : Res Unit)
                      | none => .no)
                    | _, _ => .no) l[j]? e2) := q2
                  clear q2 eg
                  cases em : l[j]? with
                  | none => rw [em] at q3; exact q3.elim
                  | some z =>
                    rw [em] at q3
                    cases z with
                    | lst m =>
                      cases o2.sh_rep with
                      | int k2 =>
                        simp only at q3
                        cases ej2 : ixN m.length k2 with
                        | none => rw [ej2] at q3; exact q3.elim
                        | some j2 =>
                          rw [ej2] at q3
                          simp only at q3
                          have e5 : slotL (δ2.set i (some (.lst l))) i = some l := by
                            unfold slotL
                            rw [List.getElem?_set_self (by rw [E'.len, ← E1'.len]; exact (List.getElem?_eq_some_iff.mp ed).1)]
                          obtain ⟨p2, vs2, hv2, hp2, hl2, inner2⟩ := E3.list2 hk e5
                          rw [hv0] at hv2
                          cases hv2
                          obtain ⟨q0, ws, h1, h2, h3, h4, h5⟩ := inner2 j m em
                          -- the outer list is as it was
                          obtain ⟨q0', ws', g1, g2, g3, g4, g5⟩ := inner j m em
                          have same : H' p = some (.lst vs) := by
                            refine s'.keep p _ hp (fun mm => ?_) (by intro _ z; cases z)
                            obtain ⟨_, j', hj', mm⟩ := all_forget mm
                            obtain ⟨v5, hv5, ow5⟩ := E1'.slot i _ ed
                            rw [hv0] at hv5
                            cases hv5
                            have os5 := ow5.strip
                            rw [hk] at os5
                            obtain ⟨p5, vs5, ds5, Fl5, e51, e52, hp5, hl5, hi5, hsp5, hb5, hF5⟩ := os5.li_at
                            cases e51
                            exact hj' (E1'.sep j' i p mm ((hF5 p).mpr (.inl rfl)))
                          rw [same] at hp2
                          cases hp2
                          have e6 : vs[j]'(by omega) = .ref q0 := by rw [hvj] at h1; exact Option.some.inj h1
                          rw [e6]
                          obtain ⟨F', E4, S4⟩ := h5 (ws.set j2 v) (m.set j2 d) (RepL.set ((r.mono s1'.grow).mono s'.grow) j2 h3)
                          exact ⟨q0, ws, k2, j2, rfl, rfl, h2, by rw [h3.length]; exact ej2, q3 σ _ P' _ E4 (S3.trans S4)⟩
                      | _ => exact q3.elim
                    | _ => exact q3.elim
                · rw [if_neg hn] at q2; exact q2.elim
          | _ => exact q2.elim
end
end VL

set_option Elab.async false
set_option linter.all false
set_option maxRecDepth 100000
/-! Layer V: built-in functions in short, kinds adjusted. -/
namespace VL
open PySem PySem.Spec PyProof.Rows L2
theorem vs_to {X : Cx} {fx : Fx} {kd kd1 : Kds} {st : Stmt} {g : DS} (kd' : Kds) (h : VS X fx kd kd1 st g) (e : kd1 = kd' := by rfl) : VS X fx kd kd' st g := e ▸ h
theorem vss_fr {X : Cx} {fx : Fx} {kd kd' : Kds} {st : List Stmt} {g : DS} (kd0 : Kds) (h : VSs X fx kd0 kd' st g) (e : kd0 = kd := by rfl) : VSs X fx kd kd' st g := e ▸ h
theorem vss_relT (i : Nat) (kd1 : Kds) {X : Cx} {fx : Fx} {kd kd' : Kds} {st : List Stmt} {g : DS} (h : VSs X fx kd1 kd' st g) (e : kd.set i .sh = kd1 := by rfl) (hi : i < kd.length := by exact Nat.le_of_ble_eq_true rfl) : VSs X fx kd kd' st g := vss_rel i (e ▸ h) hi
section
variable {X : Cx} {kd : Kds} {W : WX} {pos p : Pos} {a b : Expr} {f g : DE}
abbrev S1 (X : Cx) (a : Expr) : Prop := starEach [a] X.env = (false, eval a X.env) :: starEach [] X.env
abbrev S2 (X : Cx) (a b : Expr) : Prop := starEach [a, b] X.env = (false, eval a X.env) :: starEach [b] X.env
theorem va1 (ha : VE X kd W .sh a f) (h1 : S1 X a := by rfl) : VA X kd W [a] (dCons f dNil) := va_cons ha va_nil h1
theorem va2 (ha : VE X kd W .sh a f) (hb : VE X kd W .sh b g) (h1 : S2 X a b := by rfl) (h2 : S1 X b := by rfl) : VA X kd W [a, b] (dCons f (dCons g dNil)) := va_cons ha (va1 hb h2) h1
theorem ve_len (ha : VE X kd W .sh a f) (hm : X.mg "len" = none) (hg : Gl X "len" := by rfl) (h1 : S1 X a := by rfl) : VE X kd W .sh (.Call (.Name "len" p) [a] [] pos) (dAr lenD (dCons f dNil)) := ve_callB call_len4 a_len hm PySem.boot_len (va1 ha h1) hg (by decide) (by decide) h1 rfl
theorem ve_all (ha : VE X kd W .sh a f) (hm : X.mg "all" = none) (hc : X.calm = true := by rfl) (hg : Gl X "all" := by rfl) (h1 : S1 X a := by rfl) : VE X kd W .sh (.Call (.Name "all" p) [a] [] pos) (dAr allD (dCons f dNil)) := ve_callB (cr_all hc) a_all hm (by decide +kernel) (va1 ha h1) hg (by decide) (by decide) h1 rfl
theorem ve_any (ha : VE X kd W .sh a f) (hm : X.mg "any" = none) (hc : X.calm = true := by rfl) (hg : Gl X "any" := by rfl) (h1 : S1 X a := by rfl) : VE X kd W .sh (.Call (.Name "any" p) [a] [] pos) (dAr anyD (dCons f dNil)) := ve_callB (cr_any hc) a_any hm (by decide +kernel) (va1 ha h1) hg (by decide) (by decide) h1 rfl
theorem ve_abs (ha : VE X kd W .sh a f) (hm : X.mg "abs" = none) (hg : Gl X "abs" := by rfl) (h1 : S1 X a := by rfl) : VE X kd W .sh (.Call (.Name "abs" p) [a] [] pos) (dAr absD (dCons f dNil)) := ve_callB call_abs a_abs hm (by decide +kernel) (va1 ha h1) hg (by decide) (by decide) h1 rfl
theorem ve_max2 (ha : VE X kd W .sh a f) (hb : VE X kd W .sh b g) (hm : X.mg "max" = none) (hc : X.calm = true := by rfl) (hg : Gl X "max" := by rfl) (h1 : S2 X a b := by rfl) (h2 : S1 X b := by rfl) (hpl : (backTo pos (starEach [b] X.env)).any (·.1) = false := by rfl) : VE X kd W .sh (.Call (.Name "max" p) [a, b] [] pos) (dAr max2D (dCons f (dCons g dNil))) := ve_callB (call_max2 hc) a_max2 hm (by decide +kernel) (va2 ha hb h1 h2) hg (by decide) (by decide) h1 hpl
theorem ve_min2 (ha : VE X kd W .sh a f) (hb : VE X kd W .sh b g) (hm : X.mg "min" = none) (hc : X.calm = true := by rfl) (hg : Gl X "min" := by rfl) (h1 : S2 X a b := by rfl) (h2 : S1 X b := by rfl) (hpl : (backTo pos (starEach [b] X.env)).any (·.1) = false := by rfl) : VE X kd W .sh (.Call (.Name "min" p) [a, b] [] pos) (dAr min2D (dCons f (dCons g dNil))) := ve_callB (call_min2 hc) a_min2 hm (by decide +kernel) (va2 ha hb h1 h2) hg (by decide) (by decide) h1 hpl
theorem ve_intOf (ha : VE X kd W .sh a f) (hm : X.mg "int" = none) (hg : Gl X "int" := by rfl) (h1 : S1 X a := by rfl) : VE X kd W .sh (.Call (.Name "int" p) [a] [] pos) (dAr intD (dCons f dNil)) := ve_callTy call_int1 a_int hm boot_int (va1 ha h1) hg (by decide) (by decide) h1 rfl
theorem ve_tupleOf (ha : VE X kd W .sh a f) (hm : X.mg "tuple" = none) (hg : Gl X "tuple" := by rfl) (h1 : S1 X a := by rfl) : VE X kd W .sh (.Call (.Name "tuple" p) [a] [] pos) (dAr tupOf (dCons f dNil)) := ve_callTy call_tuple_of a_tupOf hm boot_tuple (va1 ha h1) hg (by decide) (by decide) h1 rfl
theorem ve_listOf (ha : VE X kd W .sh a f) (hm : X.mg "list" = none) (hg : Gl X "list" := by rfl) (h1 : S1 X a := by rfl) : VE X kd W (.li .sh) (.Call (.Name "list" p) [a] [] pos) (dAr lstOf (dCons f dNil)) := ve_callTy call_list_of a_lstOf hm boot_list (va1 ha h1) hg (by decide) (by decide) h1 rfl
/-- bool(e) -/
def boolD : List D → Option D
  | [.int i] => some (.bl (i != 0))
  | [.bl b] => some (.bl b)
  | _ => none
theorem a_bool {K : PySem.W.Frag} {mg : Str → Option Value} : ArD K mg (fun xs H Q => (∃ i, xs = [.int i] ∧ Q (.bl (i != 0)) H) ∨ ∃ k, xs = [.bl k] ∧ Q (.bl k) H) .sh boolD := by
  intro P H vs ds z Q s r h c
  unfold boolD at h
  split at h
  · obtain ⟨v, rfl, r1⟩ := ar1 r
    cases r1
    cases h
    exact .inl ⟨_, rfl, Cont.val c s (.bl _)⟩
  · obtain ⟨v, rfl, r1⟩ := ar1 r
    cases r1
    cases h
    exact .inr ⟨_, rfl, Cont.val c s (.bl _)⟩
  · cases h
theorem ve_bool (ha : VE X kd W .sh a f) (hm : X.mg "bool" = none) (hg : Gl X "bool" := by rfl) (h1 : S1 X a := by rfl) : VE X kd W .sh (.Call (.Name "bool" p) [a] [] pos) (dAr boolD (dCons f dNil)) := ve_callTy call_bool1 a_bool hm boot_bool (va1 ha h1) hg (by decide) (by decide) h1 rfl
end
end VL

set_option Elab.async false
set_option linter.all false
set_option maxRecDepth 100000
/-! Layer V: what the printed walks lean on. -/
namespace VL
open PySem PySem.Spec PyProof.Rows L2
theorem _root_.L2.Room.units1 {k : Nat} {A : Around} (r : Room k A) : A.units + 65 < cLine := by have := r.un; omega
theorem _root_.L2.Room.units2 {k : Nat} {A : Around} (r : Room k A) : A.units + 70 < cLine := by have := r.un; omega
theorem cell_dc {K : PySem.W.Frag} {mg : Str → Option Value} (F : AS) (P H : Hp) (v : V) (d : D) (o : Own K mg .dc F P H v d) : ∃ a, v = .ref a ∧ ∀ b, F b ↔ b = a := by
  obtain ⟨p, kvs, es, e1, e2, e3, e4, e5, e6⟩ := o
  exact ⟨p, e1, e6⟩
theorem cell_ob {K : PySem.W.Frag} {mg : Str → Option Value} (F : AS) (P H : Hp) (v : V) (d : D) (o : Own K mg .ob F P H v d) : ∃ a, v = .ref a ∧ ∀ b, F b ↔ b = a := by
  obtain ⟨p, C, dx, c, fs, gs, e1, e2, e3, e4, e5, e6, e7⟩ := o
  exact ⟨p, e1, e7⟩
/-- a store that raises nothing -/
def NoExn {α : Type} (r : Res α) : Prop := ∀ e δ, r ≠ .exn e δ
/-- a class of the text whose instances are made -/
def VMk (K : PySem.W.Frag) (mg : Str → Option Value) (c : Str) (st : Stmt) (ps : List Str) : Prop := ∃ (C f : Addr) (fd : FuncData), mg c = some (.ref C) ∧ Mk K C f ∧ Fun K "__init__" (c ++ ".__init__") st f fd ∧ Binds K fd ps []
theorem pe_btN {X : Cx} {x : Str} {id : String} {pos : Pos} (hm : X.mg x = none) (hv : bootBuiltins x = some (.type id)) (hg : Gl X x := by rfl) (hn : x ≠ "__name__" := by decide) (hd : (x == ("__debug__" : Str)) = false := by decide) : PE X (.Name x pos) (tC (.ty id)) :=
  pe_bltn hg hm hv (v := .ty id) rfl hn hd
end VL

set_option Elab.async false
set_option linter.all false
set_option maxRecDepth 100000
/-! Layer V: list.count and list.index of data, slices of any sequence, the pair of statements that picks a line and its place. -/
namespace VL
open PySem PySem.Spec PyProof.Rows L2
section
variable {X : Cx}
def rCountD (K : PySem.W.Frag) : V → List V → Hp → L2.VK → Prop := fun x xs H Q => ∃ (a : Addr) (y : V) (d : PyData) (ds : List PyData), x = V.ref a ∧ xs = [y] ∧ Dp K H (V.ref a) (.list ds) ∧ Dp K H y d ∧ SeqAt.shaped (.list ds) = true ∧ SeqAt.shaped d = true ∧ Q (.int (ds.countP (fun z => PyData.eqv z d) : Nat)) H
theorem mt_countD (hu : X.A.units + 65 < cLine) : MtR X "list.count" (rCountD X.K) := by
  intro pins s σ H x xs v us Q I rx rxs h
  obtain ⟨a, y, d, ds, rfl, rfl, hl, hy, sl, sd, q⟩ := h
  cases rx
  cases rxs with
  | cons ry rt =>
    rename_i uy ut
    cases rt
    obtain ⟨bs, r1⟩ := Dp.reads I d y uy hy ry
    have hxs : PyData.canLayAll0 ds = true := SeqAt.canLay_of_shaped sl
    have hroom : X.A.units + 1 + min (PyData.depthAll ds) d.depth < cLine := room_in_shaped sd hu
    cases hl with
    | lst hs ha =>
      obtain ⟨its, rv, ⟨⟨cls, dd, data, sls⟩, n, ho, hc, hdn, hdt⟩, hlen⟩ := I.list hs
      simp only at hc hdt
      subst hc hdt
      obtain ⟨as, h4⟩ := Dp.readsAll I ds _ its ha rv
      have hmap : its.map (SeqAt.readOf s.heap) = ds := SeqAt.readsAll_map ds its as hxs h4
      refine call_meets PySem.F.slot_list_count ⟨_, ho, rfl⟩ PySem.F.entry_list_count (PySem.F.args_list_count_2 _ _)
        (SeqAt.list_countAt a its.toArray n dd sls uy (fun u => PyData.eqv (SeqAt.readOf s.heap u) d)) ⟨ho, SeqAt.items_eqAt (vs := its.toArray) (show ReadsAll s.heap its.toArray.toList ds as from h4) r1 hxs (SeqAt.canLay_of_shaped sd) hroom, ?_⟩
      have ec : its.toArray.toList.countP (fun u => PyData.eqv (SeqAt.readOf s.heap u) d) = ds.countP (fun z => PyData.eqv z d) := by
        rw [← hmap, List.countP_map]
        rfl
      refine ⟨.int (ds.countP (fun z => PyData.eqv z d) : Nat), H, I.tok _, ⟨s.toks, ?_⟩, q⟩
      show Value.int ((its.toArray.toList.countP (fun u => PyData.eqv (SeqAt.readOf s.heap u) d) : Nat) : Int) s.toks = _
      rw [ec]
end
/-! ### on the data's side -/
theorem toPyL_length : ∀ l : List D, (toPyL l).length = l.length
  | [] => rfl
  | _ :: l => by simp [toPyL, toPyL_length l]
theorem toPyL_get : ∀ (l : List D) (j : Nat), (toPyL l)[j]? = (l[j]?).map toPy
  | [], j => by simp [toPyL]
  | x :: l, 0 => by simp [toPyL]
  | x :: l, j + 1 => by simp [toPyL, toPyL_get l j]
theorem count_py (d : D) : ∀ l : List D, (toPyL l).countP (fun z => PyData.eqv z (toPy d)) = l.countP fun z => eqv z d
  | [] => rfl
  | x :: l => by simp only [toPyL, List.countP_cons, count_py d l, eqv]
/-- the first place of an equal one -/
def firstAt (l : List D) (d : D) : Nat := l.findIdx fun z => eqv z d
/-- line = rows[f]; place = rows.index(line) if rows.count(line) == 1 else g -/
def dLine1 (iR iL : Nat) (f : DE) (k : List D → Nat → D → DS) : DS := fun δ => match slotL δ iR with
  | none => .no
  | some _ => (f δ).stm fun e δ1 => match slotL δ1 iR, e with
    | some l, .int i => (match ixN l.length i with
      | some j => (match l[j]? with
        | some z => if okD (.lst l) = true ∧ okD z = true then k l j z (δ1.set iL none) else .no
        | none => .no)
      | none => .no)
    | _, _ => .no
def dLine (iR iL iP : Nat) (f g : DE) : DS := dLine1 iR iL f fun l _ z δ => if l.countP (fun y => eqv y z) = 1 then .next (δ.set iP (some (.int (firstAt l z : Nat)))) else (g δ).stm fun d δ2 => .next (δ2.set iP (some d))
section
variable {K : PySem.W.Frag} {mg : Str → Option Value} {kd : Kds} {Fs : Nat → AS} {P H : Hp} {σ : L2.St} {δ : Env}
/-- a slot with any value that is not told -/
theorem EnvR.blind {i : Nat} {v : V} (E : EnvR K mg kd Fs P H σ δ) (hk : kd.at i = .sh) (hl : i < kd.length) : EnvR K mg kd Fs P H (σ.set i (some v)) (δ.set i none) := by
  have E1 := E.wipe1 hk
  refine ⟨E1.sub, fun j d h => ?_, E1.only, E1.sep, E1.out, by rw [List.length_set, List.length_set]; exact E.len, by rw [List.length_set]; exact E.lenK⟩
  obtain ⟨u, h1, h2⟩ := E1.slot j d h
  have q : j ≠ i := fun z => by
    subst z
    by_cases hl' : j < δ.length
    · rw [List.getElem?_set_self hl'] at h; cases h
    · rw [List.getElem?_eq_none (by rw [List.length_set]; omega)] at h; cases h
  refine ⟨u, ?_, h2⟩
  rw [List.getElem?_set_ne (Ne.symm q)] at h1 ⊢
  exact h1
end
section
variable {X : Cx} {fx : Fx} {kd : Kds}
theorem rep_of_slot {K : PySem.W.Frag} {mg : Str → Option Value} {kd : Kds} {Fs : Nat → AS} {P H : Hp} {σ : L2.St} {δ : Env} {i : Nat} {d : D} (E : EnvR K mg kd Fs P H σ δ) (h : δ[i]? = some (some d)) : ∃ (v : V) (P' : Hp), σ[i]? = some (some v) ∧ Lie P' H ∧ Rep K mg P' v d := by
  obtain ⟨v, h1, h2⟩ := E.slot i d h
  exact ⟨v, add P H (Fs i), h1, add_le E.sub (fun a o f => mu_ntb (fun a m => E.mu a m) a o ⟨i, f⟩), h2.rel fun a f => (E.out i a f).1⟩
theorem vss_line (iR iL iP : Nat) {xR xL xP : Str} {e1 e2 : Expr} {f g : DE} {p1 p2 p3 p4 p5 p6 p7 p8 p9 p10 p11 p12 s1 s2 : Pos} {j1} {kd' : Kds} {rest : List Stmt} {h : DS} (hu : X.A.units + 65 < cLine) (hN : X.N.Nodup) (hf : VE X kd fx.W .sh e1 f) (hg : VE X kd fx.W .sh e2 g)
    (hrest : VSs X fx kd kd' rest h) (hkR : kd.at iR = .li (.li .sh) := by rfl) (hkL : kd.at iL = .sh := by rfl) (hkP : kd.at iP = .sh := by rfl) (hlL : iL < kd.length := by exact Nat.le_of_ble_eq_true rfl) (hlP : iP < kd.length := by exact Nat.le_of_ble_eq_true rfl) (hRL : iR ≠ iL := by decide) (hNR : X.N[iR]? = some xR := by rfl) (hNL : X.N[iL]? = some xL := by rfl) (hNP : X.N[iP]? = some xP := by rfl)
    (hvR : Vis X.env.scope xR := by first | exact Or.inl rfl | exact Or.inr (Or.inl rfl) | exact Or.inr (Or.inr rfl)) (hvL : Loc X.env.scope xL := by first | exact Or.inl rfl | exact Or.inr rfl) (hvP : Loc X.env.scope xP := by first | exact Or.inl rfl | exact Or.inr rfl)
    (hd : (xR == ("__debug__" : Str)) = false := by decide) (hcd : (xR == ("__classdict__" : Str)) = false := by decide) (hdL : (xL == ("__debug__" : Str)) = false := by decide) (hcdL : (xL == ("__classdict__" : Str)) = false := by decide) (hix : PlainIx e1 := by exact fun _ _ => rfl)
    (hb1 : attributeBase (.Name xR p3) "count" X.env (eval (.Name xR p3) X.env) = eval (.Name xR p3) X.env := by rfl) (hb2 : attributeBase (.Name xR p4) "index" X.env (eval (.Name xR p4) X.env) = eval (.Name xR p4) X.env := by rfl)
    (hfew1 : ((backTo p5 (starEach [.Name xL p6] X.env)).all (fun x => !x.1) && (backToKw p5 (keywordEach [] X.env)).all (fun x => x.1.isSome) && decide (([.Name xL p6] : List Expr).length + ([] : List Keyword).length + (if ([] : List Keyword).isEmpty then 0 else 1) < 30)) = true := by rfl)
    (hfew2 : ((backTo p7 (starEach [.Name xL p8] X.env)).all (fun x => !x.1) && (backToKw p7 (keywordEach [] X.env)).all (fun x => x.1.isSome) && decide (([.Name xL p8] : List Expr).length + ([] : List Keyword).length + (if ([] : List Keyword).isEmpty then 0 else 1) < 30)) = true := by rfl)
    (hline1 : (p9.endLine == p5.line) = true := by rfl) (hline2 : (p10.endLine == p7.line) = true := by rfl) (hs1 : starEach [.Name xL p6] X.env = (false, eval (.Name xL p6) X.env) :: starEach [] X.env := by rfl) (hs2 : starEach [.Name xL p8] X.env = (false, eval (.Name xL p8) X.env) :: starEach [] X.env := by rfl)
    (hsw1 : swapsWith (.Subscript (.Name xR p1) e1 p2) (some (.Name xL p11)) s1.line X.env = pure false := by rfl) (hfL : X.fn xL = true ∨ X.env.scope.names.lookup xL = some .local := by first | exact .inl rfl | exact .inr rfl | assumption)
    {pc pi pt : Pos} (hsw2 : swapsWith (.IfExp (.Compare (.Call (.Attribute (.Name xR p3) "count" p9) [.Name xL p6] [] p5) [.Eq] [.Constant (.int 1) j1 pc] pt) (.Call (.Attribute (.Name xR p4) "index" p10) [.Name xL p8] [] p7) e2 pi) (some (.Name xP p12)) s2.line X.env = pure false := by rfl) (hfP : X.fn xP = true ∨ X.env.scope.names.lookup xP = some .local := by first | exact .inl rfl | exact .inr rfl | assumption) (hx : fx.XR kd := by first | trivial | rfl) :
    VSs X fx kd kd' (.Assign [.Name xL p11] (.Subscript (.Name xR p1) e1 p2) s1 :: .Assign [.Name xP p12] (.IfExp (.Compare (.Call (.Attribute (.Name xR p3) "count" p9) [.Name xL p6] [] p5) [.Eq] [.Constant (.int 1) j1 pc] pt) (.Call (.Attribute (.Name xR p4) "index" p10) [.Name xL p8] [] p7) e2 pi) s2 :: rest)
      (dSeq (dLine iR iL iP f g) h) := by
  have hvL' : Vis X.env.scope xL := by rcases hvL with z | z; exact .inl z; exact .inr (.inl z)
  have mc := mt_countD (X := X) hu
  have mi := mt_indexD (X := X) hu
  have A := ps_set (pos := s1) (pos' := p11) hN hNL hvL (pe_ix (pos := p2) ix_seq (pe_var (pos := p1) hNR hvR hd hcd) hf hix) hsw1 hfL
  have C := pe_bm (cpos := p5) (apos := p9) (e := .Name xL p6) (es := []) PySem.F.plainAttrs_list PySem.F.slot_list_count PySem.F.type_list_count mc (pe_var (pos := p3) hNR hvR hd hcd) (pa_cons (pe_var (pos := p6) hNL hvL' hdL hcdL) pa_nil hs1) hb1 hfew1 hline1 hs1 rfl
  have I := pe_bm (cpos := p7) (apos := p10) (e := .Name xL p8) (es := []) PySem.F.plainAttrs_list PySem.F.slot_list_index PySem.F.type_list_index mi (pe_var (pos := p4) hNR hvR hd hcd) (pa_cons (pe_var (pos := p8) hNL hvL' hdL hcdL) pa_nil hs2) hb2 hfew2 hline2 hs2 rfl
  have T := pt_cmpR (pos := pt) (op_eq (X := X)) C (pe_int (i := 1) (j := j1) (pos := pc)) rfl
  have B := ps_set (pos := s2) (pos' := p12) hN hNP hvP (pe_ifExp (pos := pi) T I hg) hsw2 hfP
  refine PSs.imp (pss_cons A (pss_cons B hrest)) fun D' σ H ⟨Fs, P, δ, E, q⟩ => ?_
  -- line = rows[..]
  unfold dSeq dLine dLine1 at q
  cases e0 : slotL δ iR with
  | none => rw [e0] at q; exact q.elim
  | some l0 =>
  rw [e0] at q
  obtain ⟨p, vs0, hv0, _⟩ := E.list2 (by rw [hkR]; rfl) e0
  refine ⟨_, hv0, Fs, P, δ, E, ?_⟩
  cases ef : f δ with
  | no => rw [ef] at q; exact q.elim
  | exn e δ1 =>
    rw [ef] at q
    exact fun cls dx Fs' P' H' E' s' x => q kd hx cls dx σ Fs' P' H' E' s' x
  | ok e δ1 =>
  rw [ef] at q
  intro v1 Fs1 P1 H1 G1 E1 s1 f1 o1
  have q := PostS.later s1 q
  simp only [Res.stm] at q
  cases e3 : slotL δ1 iR with
  | none => rw [e3] at q; exact q.elim
  | some l =>
  rw [e3] at q
  cases o1.sh_rep with
  | int k =>
    simp only at q
    cases ej : ixN l.length k with
    | none => rw [ej] at q; exact q.elim
    | some j =>
    rw [ej] at q
    simp only at q
    cases em : l[j]? with
    | none => rw [em] at q; exact q.elim
    | some z =>
    rw [em] at q
    simp only at q
    by_cases hok : okD (.lst l) = true ∧ okD z = true
    · rw [if_pos hok] at q
      have ed := slotL_eq e3
      obtain ⟨vr, P2, hvr, sub2, rep2⟩ := rep_of_slot E1 ed
      rw [hv0] at hvr
      cases hvr
      cases rep2 with
      | @lst _ vs _ hp rl =>
        obtain ⟨y, hy, ry⟩ := rl.get em
        have e9 : ixN vs.length k = some j := by rw [rl.length]; exact ej
        have e10 : atI vs k = some y := by unfold atI; rw [e9]; exact hy
        refine .inl ⟨p, vs, k, y, rfl, rfl, SqL.of (sub2.at hp), e10, ?_⟩
        -- the state with the line hidden
        have E2 := E1.blind (v := y) hkL hlL
        have hR2 : (σ.set iL (some y))[iR]? = some (some (.ref p)) := by rw [List.getElem?_set_ne (Ne.symm hRL)]; exact hv0
        have hL2 : (σ.set iL (some y))[iL]? = some (some y) := List.getElem?_set_self (by rw [← E1.lenK]; exact hlL)
        have d1 : Dp X.K H1 (.ref p) (.list (toPyL l)) := by
          have := dp_of sub2 (plain_of hok.1) (.lst hp rl : Rep X.K X.mg P2 (.ref p) (.lst l))
          simpa [toPy] using this
        have d2 : Dp X.K H1 y (toPy z) := dp_of sub2 (plain_of hok.2) ry
        have sh1 : SeqAt.shaped (.list (toPyL l)) = true := by have := shaped_of hok.1; simpa [toPy] using this
        have sh2 := shaped_of hok.2
        have ty : tyV X.K "list" (V.ref p) H1 := .inl ⟨rfl, vs, SqL.of (sub2.at hp)⟩
        refine ⟨_, hR2, ty, _, hL2, p, y, toPy z, toPyL l, rfl, rfl, d1, d2, sh1, sh2, ?_⟩
        rw [count_py]
        refine ⟨rfl, _, rfl, ?_⟩
        by_cases hc : l.countP (fun w => eqv w z) = 1
        · rw [if_pos hc] at q
          have hb : decide (V.int ((l.countP (fun w => eqv w z) : Nat) : Int) = V.int 1) = true := by rw [hc]; rfl
          rw [hb]
          refine iteT ?_
          -- place = rows.index(line)
          have hex : ∃ x ∈ l, eqv x z = true := by
            have : 0 < l.countP (fun w => eqv w z) := by omega
            exact List.countP_pos_iff.mp this
          have hfi : firstAt l z < l.length := List.findIdx_lt_length_of_exists hex
          have g1 : (toPyL l)[firstAt l z]? = some (toPy (l[firstAt l z])) := by rw [toPyL_get, List.getElem?_eq_getElem hfi]; rfl
          have g2 : eqv (l[firstAt l z]) z = true := List.findIdx_getElem (p := fun w => eqv w z) (w := hfi)
          refine ⟨_, hR2, ty, _, hL2, p, y, toPy z, toPyL l, firstAt l z, _, rfl, rfl, d1, d2, sh1, sh2, g1, g2, fun m z' hm hz' => ?_, ?_⟩
          · rw [toPyL_get] at hz'
            have hml : m < l.length := by omega
            rw [List.getElem?_eq_getElem hml] at hz'
            cases hz'
            have := List.not_of_lt_findIdx (p := fun w => eqv w z) (xs := l) (i := m) hm
            have h7 : eqv l[m] z = false := by simpa using this
            exact h7
          · have E3 := E2.set (k := .sh) (G := Non) (H0 := H1) hlP Fr.non (Own.sh_of (.int (firstAt l z : Nat)))
            have hkk : kd.set iP .sh = kd := by
              apply List.ext_getElem?
              intro m
              by_cases hm : m = iP
              · subst hm
                rw [List.getElem?_set_self hlP]
                have : kd.getD m .sh = .sh := hkP
                rw [List.getD_eq_getElem?_getD, List.getElem?_eq_getElem hlP] at this
                rw [List.getElem?_eq_getElem hlP]
                simpa using this.symm
              · rw [List.getElem?_set_ne (Ne.symm hm)]
            rw [hkk] at E3
            exact ⟨_, _, _, E3, PostS.later (Stp.refl.set Fr.non) q⟩
        · rw [if_neg hc] at q
          have hb : decide (V.int ((l.countP (fun w => eqv w z) : Nat) : Int) = V.int 1) = false := by
            refine decide_eq_false fun e => hc ?_
            have := V.int.inj e
            omega
          rw [hb]
          refine iteF ?_
          have q : PostS X.K X.mg fx kd' Fs1 P1 H1 D' (match (g (δ1.set iL none)).stm fun d δ2 => .next (δ2.set iP (some d)) with
            | .next δ' => h δ'
            | r => r) := q
          refine ⟨Fs1, P1, _, E2, ?_⟩
          revert q
          cases g (δ1.set iL none) with
          | no => exact fun q => q
          | exn e δ2 => exact fun q cls dx Fs' P' H' E' s' x => q kd hx cls dx _ Fs' P' H' E' s' x
          | ok d δ2 =>
            intro q v3 Fs3 P3 H3 G3 E3 s3 f3 o3
            have E4 := E3.set (k := .sh) (G := Non) (H0 := H3) hlP Fr.non (Own.sh_of o3.sh_rep)
            have hkk : kd.set iP .sh = kd := by
              apply List.ext_getElem?
              intro m
              by_cases hm : m = iP
              · subst hm
                rw [List.getElem?_set_self hlP]
                have : kd.getD m .sh = .sh := hkP
                rw [List.getD_eq_getElem?_getD, List.getElem?_eq_getElem hlP] at this
                rw [List.getElem?_eq_getElem hlP]
                simpa using this.symm
              · rw [List.getElem?_set_ne (Ne.symm hm)]
            rw [hkk] at E4
            exact ⟨_, _, _, E4, PostS.later (s3.set (Fr.non : Fr Non _ _ _ _)) q⟩
    · rw [if_neg hok] at q; exact q.elim
  | _ => exact q.elim
end
end VL

set_option Elab.async false
set_option linter.all false
set_option maxRecDepth 100000
/-! Layer V: slices of any sequence, [::-1], sorted. -/
namespace VL
open PySem PySem.Spec PyProof.Rows L2
/-- an owned result made shared -/
theorem Cont.shr {K : PySem.W.Frag} {mg : Str → Option Value} {P H : Hp} {k : Kd} {z : D} {Q : L2.VK} (c : Cont K mg P H .sh z Q) : Cont K mg P H k z Q := fun v P' H' G st sb f o =>
  c v (add P' H' G) H' Non ⟨st.keep, st.grow.trans (add_sub f.notP), fun a o e => by
    by_cases g : G a
    · exact .inr (.inl (f.new a g))
    · rw [add_out g] at e; exact st.newP a o e, fun _ z => z.elim, st.dom⟩ (add_le sb (mu_ntb o.mu)) Fr.non (Own.sh_of (o.rel f.notP))
def sliA : D → Option Int → Option Int → Option D
  | .lst l, lo, hi => some (.lst (cutD l lo hi))
  | d, lo, hi => sliD d lo hi
section
variable {X : Cx} {kd : Kds} {W : WX} {pos p2 : Pos}
theorem ve_sliA {e : Expr} {lo hi : Option Expr} {f : DE} {l h : DP} (he : VE X kd W .sh e f) (hl : VP X kd W lo l) (hh : VP X kd W hi h) : VE X kd W .sh (.Subscript e (.Slice lo hi none p2) pos) (dSli sliA f l h) :=
  PE.imp (pe_slice ((sl_tupA.or sl_str).or sl_list) he hl hh) fun _ _ _ q => sli_rd (fun P H x d z lo hi Q s r h c => by
    unfold sliA at h
    cases r with
    | @lst a vs ds h1 l1 => cases h; exact .inr ⟨a, vs, rfl, SqL.of (s.at h1), fun p hp => Cont.lst (Cont.shr c) s (repL_cut l1 lo hi) hp⟩
    | @tup a vs ds h1 l1 =>
      cases h
      refine .inl (.inl ⟨a, vs, rfl, s.sqt h1, fun w => ?_, fun w p hp => Cont.tup c s (repL_cut l1 lo hi) hp⟩)
      have e : cutD ds lo hi = ds := by
        unfold cutD
        rw [← l1.length, w.1, w.2, List.drop_zero, Nat.sub_zero, List.take_of_length_le (by rw [l1.length]; exact Nat.le_refl _)]
      rw [e] at c
      exact Cont.val c s (.tup h1 l1)
    | str zz =>
      simp only [sliD] at h
      by_cases q : zz.length ≤ sizeLine
      · simp only [if_pos q] at h; cases h; exact .inl (.inr ⟨zz, rfl, q, Cont.val c s (.str _)⟩)
      · simp only [if_neg q] at h; cases h
    | _ => cases h) q
end
/-! ### [::-1] -/
section
variable {prog : Program} {w : World} {A : Around} {E : Value → Shared → Prop} {s : Shared}
theorem sliceApplied_rev {sl : Addr} {n : Nat} {t : Tok} {Q : Int × Int × Nat → Shared → Prop} (hs : s.heap.IsSliceOf sl .none .none (.int (-1) t)) (h : Q ((n : Int) - 1, -1, n) s) : wpAny (model prog w) A (Builtin.Slice.sliceApplied (.ref sl) (pure (n : Int))) Q E s := by
  obtain ⟨os, hos, hcs, hds⟩ := id hs
  unfold Builtin.Slice.sliceApplied Builtin.Slice.sliceFields
  refine wpAny_bind (wpAny_bind (wpAny_field hos hds (x := .none) rfl (wpAny_bind (wpAny_field hos hds (x := .none) rfl (wpAny_bind (wpAny_field hos hds (x := .int (-1) t) rfl (wpAny_pure ?_)))))))
  refine wpAny_bind (HT.slicePart_ (.int (-1) t) ?_)
  show wpAny _ _ (if ((-1 : Int) == 0) = true then _ else _) _ _ s
  rw [if_neg (by decide)]
  refine wpAny_bind (HT.slicePart_ .none (wpAny_bind (HT.slicePart_ .none (wpAny_bind (wpAny_pure ?_)))))
  have e1 : Builtin.Slice.sliceAdjust none none (-1) (n : Int) = ((n : Int) - 1, -1) := by
    unfold Builtin.Slice.sliceAdjust
    simp
  have e2 : Builtin.Slice.slicePlaces ((n : Int) - 1) (-1) (-1) = n := by
    unfold Builtin.Slice.slicePlaces
    have h1 : ¬ ((-1 : Int) > 0) := by decide
    simp only [h1, if_false, Int.neg_neg, Int.ediv_one]
    split <;> omega
  show wpAny _ _ (match Builtin.Slice.sliceAdjust none none (-1) (n : Int) with | (lo, hi) => pure (lo, (-1 : Int), Builtin.Slice.slicePlaces lo hi (-1))) _ _ s
  rw [e1]
  show wpAny _ _ (pure ((n : Int) - 1, (-1 : Int), Builtin.Slice.slicePlaces ((n : Int) - 1) (-1) (-1))) _ _ s
  rw [e2]
  exact wpAny_pure h
theorem pick_rev (xs : Array Value) : ((List.range xs.size).filterMap fun (m : Nat) => xs[(((xs.size : Int) - 1) + (m : Int) * (-1)).toNat]?).toArray = xs.toList.reverse.toArray := by
  congr 1
  have key : ∀ (l : List Nat), (∀ m ∈ l, m < xs.size) → (l.filterMap fun (m : Nat) => xs[(((xs.size : Int) - 1) + (m : Int) * (-1)).toNat]?) = l.filterMap fun m => xs[xs.size - 1 - m]? := by
    intro l
    induction l with
    | nil => intro _; rfl
    | cons m l ih =>
      intro hl
      have hm := hl m (List.mem_cons_self ..)
      have e : (((xs.size : Int) - 1) + (m : Int) * (-1)).toNat = xs.size - 1 - m := by omega
      rw [List.filterMap_cons, List.filterMap_cons, e, ih fun k hk => hl k (List.mem_cons_of_mem _ hk)]
  have e := key (List.range xs.size) fun m hm => List.mem_range.mp hm
  rw [e]
  have e2 : (List.range xs.size).filterMap (fun m => xs[xs.size - 1 - m]?) = ((List.range xs.size).map fun k => xs.size - 1 - k).filterMap (xs[·]?) := by rw [List.filterMap_map]; rfl
  rw [e2, PySem.W.krv_range, List.filterMap_reverse, PySem.W.krv_all]
theorem getItem_tuple_rev {t sl : Addr} {items : Array Value} {tk : Tok} {Q : Value → Shared → Prop} (ht : IsTup s.heap t items) (hs : s.heap.IsSliceOf sl .none .none (.int (-1) tk))
    (h : Q (.ref s.heap.objs.size) { s with heap := s.heap.push { cls := .type "tuple", data := .seq items.toList.reverse.toArray } }) (hsz : items.size ≤ sizeLine) : wpAny (model prog w) A (getItem (.ref t) (.ref sl)) Q E s := by
  have htake : sizeOk (.seq items.toList.reverse.toArray) := by
    show items.toList.reverse.toArray.size ≤ sizeLine
    simpa using hsz
  obtain ⟨os, hos, hcs, hds⟩ := id hs
  have hTs : s.TypeIs (.ref sl) "slice" := ⟨os, hos, hcs⟩
  unfold getItem
  try with_reducible refine wpAny_holding ?_
  first | refine wpAny_bind (wpAny_pure ?_) | skip
  refine wpAny_bind (wpAny_sequenceKey ht.typeIs (by decide) ?_)
  refine wpAny_bind (wpAny_callSpecial?_slot (name := Str.ofString "__getitem__") ht.typeIs PyProof.Rows.slot_tuple_getitem
    (wpAny_call_entry PyProof.Rows.slot_tuple_getitem ht.typeIs entry_tuple_getitem ?_ (args_tuple_getitem _ _)))
  show wpAny _ _ (Builtin.Tuple.tupleItemsOf (.ref t) >>= _) _ _ s
  refine wpAny_bind (tupleItemsOf_ ht ?_)
  refine wpAny_bind (wpAny_typeOf hTs ?_)
  rw [if_pos (by decide)]
  refine wpAny_bind (sliceApplied_rev hs ?_)
  have hno : ¬ ((((items.size : Int) - 1) == 0 && (-1 : Int) == 1 && items.size == items.size) = true) := by
    intro q
    rw [Bool.and_eq_true, Bool.and_eq_true] at q
    exact absurd q.1.2 (by decide)
  show wpAny _ _ (if ((((items.size : Int) - 1) == 0 && (-1 : Int) == 1 && items.size == items.size) = true) then _ else _) _ _ s
  rw [if_neg hno, pick_rev]
  first
    | exact wpAny_bind (m := Builtin.Tuple.tupleExact _) (wpAny_newObj_type (wpAny_pure ⟨_, rfl, wpAny_pure h⟩) htake)
    | exact wpAny_bind (m := Builtin.Tuple.tupleExact _) (wpAny_newObj_type (wpAny_bind (wpAny_pure (wpAny_pure ⟨_, rfl, wpAny_pure h⟩))) htake)
    | exact wpAny_bind (wpAny_bind (m := Builtin.Tuple.tupleExact _) (wpAny_newObj_type (wpAny_pure (wpAny_pure ⟨_, rfl, wpAny_pure h⟩)) htake))
    | exact wpAny_bind (wpAny_bind (m := Builtin.Tuple.tupleExact _) (wpAny_newObj_type (wpAny_pure ⟨_, rfl, wpAny_pure h⟩) htake))
end
theorem vals_rev {vs : List V} {us : List Value} (r : Vals vs us) : Vals vs.reverse us.reverse := by
  induction r with
  | nil => exact .nil
  | cons a b ih => rw [List.reverse_cons, List.reverse_cons]; exact ih.append (.cons a .nil)
/-- x[::-1] of a list or a tuple -/
def rRev (K : PySem.W.Frag) : V → Hp → L2.VK → Prop := fun x H Q => (∃ a xs, x = .ref a ∧ SqL K H a xs ∧ ∀ p, H p = none → Q (.ref p) (upd H p (.lst xs.reverse))) ∨ (∃ a xs, x = .ref a ∧ SqT K H a xs ∧ ∀ p, H p = none → Q (.ref p) (upd H p (.tup xs.reverse)))
section
variable {X : Cx} {e st : Expr} {te : TE} {pos p2 : Pos}
theorem pe_rev (he : PE X e te) (hst : PE X st (tC (.int (-1)))) : PE X (.Subscript e (.Slice none none (some st) p2) pos) (fun σ H Q => te σ H fun x H1 => rRev X.K x H1 Q) := by
  refine ⟨fun pins s σ H Q I h => ?_⟩
  refine Subscript_ (thn (he.run pins s σ H _ I h) fun v s1 ⟨x, H1, I1, r1, q1⟩ => ?_)
  refine wpAny_Slice ?_
  rw [evalPart_none]
  refine wpAny_pure (wpAny_pure ?_)
  rw [evalPart_some]
  refine thn (hst.run pins s1 σ H1 (fun y H2 => y = .int (-1) ∧ H2 = H1) I1 ⟨rfl, rfl⟩) fun vk s2 ⟨y, H2, I2, r2, ey, eH⟩ => ?_
  subst ey eH
  obtain ⟨tk, rfl⟩ := r2
  have I4 : Inv X pins σ H2 { s2 with heap := s2.heap.push { cls := .type "slice", data := .fields #[.none, .none, .int (-1) tk] } } := I2.kept (t' := s2.toks) fun b ob q => Heap.get?_push_of_some _ q
  have hsl : ({ s2 with heap := s2.heap.push { cls := .type "slice", data := .fields #[.none, .none, .int (-1) tk] } } : Shared).heap.IsSliceOf s2.heap.objs.size .none .none (.int (-1) tk) := Heap.IsSliceOf.new ..
  generalize hs5 : ({ s2 with heap := s2.heap.push { cls := .type "slice", data := .fields #[.none, .none, .int (-1) tk] } } : Shared) = s5 at I4 hsl
  have fin : ∃ T id, typeLookup (.type T) "__getitem__" = pure (some (.builtin id)) ∧ s5.TypeIs v T ∧ wpAny (model X.prog X.w) X.A (getItem v (.ref s2.heap.objs.size)) (EP X pins σ Q) X.xe s5 := by
    rcases q1 with ⟨a, xs, rfl, hx, q⟩ | ⟨a, xs, rfl, hx, q⟩
    · cases r1
      obtain ⟨its, r, ht, hz⟩ := I4.list hx
      have hlen := r.length
      refine ⟨"list", _, slot_list_getitem.lookup, ht.isList.typeIs, ?_⟩
      refine wpAny_getItem_list_slice ht.isList hsl .none .none (.int (-1) tk) (by decide) ?_ (by rw [List.size_toArray] <;> omega)
      rw [PySem.W.krv_pick]
      refine ⟨.ref s5.heap.objs.size, _, I4.laid (t' := s5.toks) (o := .lst xs.reverse) (fun b ob q => Heap.get?_push_of_some _ q) (Nat.le_refl _) ?_, rfl, q _ (I4.hok.fresh (Nat.le_refl _))⟩
      exact ⟨by rw [List.length_reverse]; exact hz, _, 0, vals_rev r, Heap.get?_push_size _ rfl⟩
    · cases r1
      obtain ⟨its, r, ht, hz⟩ := I4.tuple hx
      refine ⟨"tuple", _, PyProof.Rows.slot_tuple_getitem.lookup, ht.typeIs, ?_⟩
      refine getItem_tuple_rev ht hsl ?_ (by rw [List.size_toArray, ← r.length]; exact hz)
      refine ⟨.ref s5.heap.objs.size, _, I4.laid (t' := s5.toks) (o := .tup xs.reverse) (fun b ob q => Heap.get?_push_of_some _ q) (Nat.le_refl _) ?_, rfl, q _ (I4.hok.fresh (Nat.le_refl _))⟩
      exact ⟨by rw [List.length_reverse]; exact hz, _, vals_rev r, IsTup.new _ _⟩
  obtain ⟨T, id, hT, ht, hg⟩ := fin
  subst hs5
  show wpAny (model X.prog X.w) X.A (subscriptTail e (.Slice none none (some st) p2) v (.ref s2.heap.objs.size)) (EP X pins σ Q) X.xe _
  exact tail_any (ops := [v, .ref s2.heap.objs.size]) ht hT hg (by with_unfolding_all rfl)
end
def revD : D → Option D
  | .lst l => some (.lst l.reverse)
  | .tup l => some (.tup l.reverse)
  | _ => none
theorem RepL.reverse {K : PySem.W.Frag} {mg : Str → Option Value} {P : Hp} {vs : List V} {ds : List D} (r : RepL K mg P vs ds) : RepL K mg P vs.reverse ds.reverse := by
  induction vs generalizing ds with
  | nil => cases r; exact .nil
  | cons v vs ih =>
    cases r with
    | cons a b => rw [List.reverse_cons, List.reverse_cons]; exact (ih b).append (.cons a .nil)
theorem ve_revS {X : Cx} {kd : Kds} {W : WX} {e : Expr} {f : DE} {j} {pos p2 pu pc : Pos} (he : VE X kd W .sh e f) : VE X kd W .sh (.Subscript e (.Slice none none (some (.UnaryOp .USub (.Constant (.int 1) j pc) pu)) p2) pos) (dUn revD f) :=
  PE.imp (pe_rev he (PE.imp (pe_un (pos := pu) un_neg (pe_int (i := 1) (j := j) (pos := pc))) fun σ H Q q => ⟨1, rfl, q⟩)) fun σ H Q ⟨Fs, P, δ, E, q⟩ => by
    refine ⟨Fs, P, δ, E, ?_⟩
    have q1 := bindE (k := .sh) q
    revert q1
    cases f δ with
    | no => exact fun q => q
    | exn e δ1 => exact fun q => q
    | ok d δ1 =>
      intro q1 v1 Fs1 P1 H1 G1 E1 s1 f1 o1
      obtain ⟨d', δ1', Fs1', P1', G1', E1', s1', f1', o1', q2⟩ := q1 v1 Fs1 P1 H1 G1 E1 s1 f1 o1
      have c : ∀ z, lift (some z) δ1' = lift (revD d') δ1' → Cont X.K X.mg P1' H1 .sh z Q := fun z e v P' H' G s hs fr ow => by
        rw [← e] at q2
        exact PostE.step E1' s hs fr ow q2
      cases o1'.sh_rep with
      | lst h1 l1 => exact .inl ⟨_, _, rfl, SqL.of (E1'.sub.at h1), fun p hp => Cont.lst (Cont.shr (c _ rfl)) E1'.sub l1.reverse hp⟩
      | tup h1 l1 => exact .inr ⟨_, _, rfl, E1'.sub.sqt h1, fun p hp => Cont.tup (c _ rfl) E1'.sub l1.reverse hp⟩
      | _ => exact q2.elim
end VL

set_option Elab.async false
set_option linter.all false
set_option maxRecDepth 100000
/-! Layer V: sorted. -/
namespace VL
open PySem PySem.Spec PyProof.Rows L2
def dataLeD : D → D → Bool := PySem.W.dataLe false toPy
def isTupC : D → Bool
  | .tup (_ :: _) => true
  | _ => false
def isOther : D → Bool
  | .non => false
  | .tup _ => false
  | _ => true
def sortOk (l : List D) : Bool := l.all okD && (l.all fun x => l.all fun y => PySem.W.alike (toPy x) (toPy y)) && (l.all isTupC || l.all isOther)
def sortD : List D → Option D
  | [.lst l] => if sortOk l = true ∧ l.length ≤ sizeLine then some (.lst (l.mergeSort dataLeD)) else none
  | _ => none
def rSortD (K : PySem.W.Frag) : List V → Hp → L2.VK → Prop := fun xs H Q => ∃ (p : Addr) (bs : List (V × D)), xs = [.ref p] ∧ SqL K H p (bs.map (·.1)) ∧ (∀ b ∈ bs, Dp K H b.1 (toPy b.2)) ∧ PySem.W.AllAlike (bs.map fun b => toPy b.2) ∧ PySem.W.Sortable (bs.map fun b => toPy b.2) ∧ (∀ b ∈ bs, (toPy b.2).depth ≤ 64) ∧
  ∀ q, H q = none → Q (.ref q) (upd H q (.lst ((bs.mergeSort (PySem.W.dataLe false fun b => toPy b.2)).map (·.1))))
theorem each_vals : ∀ {bs : List (V × D)} {us : List Value}, Vals (bs.map (·.1)) us → PySem.W.EachIs (fun u (b : V × D) => RelV b.1 u) us bs
  | [], _, r => by cases r; exact .nil
  | b :: bs, _, r => by cases r with | cons a t => exact .cons a (each_vals t)
theorem vals_each : ∀ {bs : List (V × D)} {us : List Value}, PySem.W.EachIs (fun u (b : V × D) => RelV b.1 u) us bs → Vals (bs.map (·.1)) us
  | [], _, r => by cases r; exact .nil
  | b :: bs, _, r => by cases r with | cons a t => exact .cons a (vals_each t)
theorem cr_sortD {X : Cx} (hu : X.A.units + 70 < cLine) : CallR X (.builtin "sorted") (rSortD X.K) := by
  intro pins s σ H xs us Q I r h
  obtain ⟨p, bs, rfl, hs, hd, hal, hso, hdp, q⟩ := h
  obtain ⟨u, rfl, ru⟩ := vals1 r
  obtain rfl : u = Value.ref p := ru
  obtain ⟨its, rv, hl, hz⟩ := I.list hs
  have e := each_vals rv
  have er : PySem.W.EachIs (fun v (b : V × D) => ∃ as, Reads s.heap v (toPy b.2) as) its bs := by
    have key : ∀ {us : List Value} {cs : List (V × D)}, (∀ b ∈ cs, Dp X.K H b.1 (toPy b.2)) → PySem.W.EachIs (fun u (b : V × D) => RelV b.1 u) us cs → PySem.W.EachIs (fun v (b : V × D) => ∃ as, Reads s.heap v (toPy b.2) as) us cs := by
      intro us cs hc ee
      induction ee with
      | nil => exact .nil
      | cons a t ih => exact .cons (Dp.reads I _ _ _ (hc _ (List.mem_cons_self ..)) a) (ih fun b m => hc b (List.mem_cons_of_mem _ m))
    exact key hd e
  have hlen : bs.length ≤ sizeLine := by simpa using hz
  refine PySem.W.sorted_data (enc := fun b : V × D => toPy b.2) hl.isList e er hal hso hlen (fun b hb => by have := hdp b hb; omega) fun out ho eo => ?_
  obtain ⟨c, hc⟩ := sortedAll_at s.heap its out.toArray
  have hf : H (s.heap.objs.size + 1) = none := I.hok.fresh (Nat.le_succ _)
  refine ⟨.ref (s.heap.objs.size + 1), _, I.laid (t' := s.toks) (o := .lst ((bs.mergeSort (PySem.W.dataLe false fun b => toPy b.2)).map (·.1))) (fun b o z => sortedAll_old z) (Nat.le_succ _) ?_, rfl, q _ hf⟩
  exact ⟨by rw [List.length_map, List.length_mergeSort]; exact hlen, out, c, vals_each eo, hc⟩
theorem a_sort {K : PySem.W.Frag} {mg : Str → Option Value} : ArD K mg (rSortD K) (.li .sh) sortD := by
  intro P H vs ds z Q s r h c
  unfold sortD at h
  split at h
  · rename_i l
    obtain ⟨v, rfl, r1⟩ := ar1 r
    cases r1 with
    | @lst a ws _ h1 l1 =>
      by_cases q : sortOk l = true ∧ l.length ≤ sizeLine
      · rw [if_pos q] at h
        cases h
        obtain ⟨q1, q2⟩ := q
        unfold sortOk at q1
        simp only [Bool.and_eq_true, List.all_eq_true, Bool.or_eq_true] at q1
        obtain ⟨⟨ho, ha⟩, hs⟩ := q1
        have e1 : (ws.zip l).map (·.1) = ws := List.map_fst_zip (by rw [l1.length]; exact Nat.le_refl _)
        have e2 : (ws.zip l).map (·.2) = l := List.map_snd_zip (by rw [l1.length]; exact Nat.le_refl _)
        have e3 : (ws.zip l).map (fun b => toPy b.2) = l.map toPy := by rw [← e2, List.map_map, e2]; rfl
        have mem : ∀ b ∈ ws.zip l, Rep K mg P b.1 b.2 ∧ b.2 ∈ l := fun b hb => by
          obtain ⟨j, hj, e⟩ := List.mem_iff_getElem.mp hb
          rw [List.length_zip] at hj
          rw [List.getElem_zip] at e
          subst e
          obtain ⟨v', g1, g2⟩ := l1.get (i := j) (List.getElem?_eq_getElem (by omega))
          rw [List.getElem?_eq_getElem (by omega)] at g1
          cases g1
          exact ⟨g2, List.getElem_mem _⟩
        refine ⟨a, ws.zip l, rfl, by rw [e1]; exact SqL.of (s.at h1), fun b hb => ?_, ?_, ?_, fun b hb => ?_, fun p hp => ?_⟩
        · exact dp_of s (plain_of (ho _ (mem b hb).2)) (mem b hb).1
        · rw [e3]
          intro d hd d' hd'
          obtain ⟨x, hx, rfl⟩ := List.mem_map.mp hd
          obtain ⟨y, hy, rfl⟩ := List.mem_map.mp hd'
          exact ha x hx y hy
        · rw [e3]
          rcases hs with hs | hs
          · refine .inl fun d hd => ?_
            obtain ⟨x, hx, rfl⟩ := List.mem_map.mp hd
            have := hs x hx
            unfold isTupC at this
            split at this
            · simp only [toPy, toPyL]; exact ⟨_, _, rfl⟩
            · cases this
          · refine .inr fun d hd => ?_
            obtain ⟨x, hx, rfl⟩ := List.mem_map.mp hd
            have h5 := hs x hx
            have h6 := plain_of (ho x hx)
            cases x <;> first | (cases h5; done) | (simp [toPy]; done) | (simp [plain] at h6; done)
        · have := SeqAt.depth_of_shaped (shaped_of (ho _ (mem b hb).2)); exact this
        · have em : ((ws.zip l).mergeSort (PySem.W.dataLe false fun b => toPy b.2)).map (·.2) = l.mergeSort dataLeD := by
            rw [List.map_mergeSort (r := PySem.W.dataLe false fun b : V × D => toPy b.2) (s := dataLeD) (f := fun b : V × D => b.2) (fun a _ b _ => rfl), e2]
          refine Cont.lst c s ?_ hp
          rw [← em]
          have perm := List.mergeSort_perm (ws.zip l) (PySem.W.dataLe false fun b => toPy b.2)
          have key : ∀ bs : List (V × D), (∀ b ∈ bs, Rep K mg P b.1 b.2) → RepL K mg P (bs.map (·.1)) (bs.map (·.2)) := by
            intro bs
            induction bs with
            | nil => intro _; exact .nil
            | cons b bs ih => intro hb; exact .cons (hb b (List.mem_cons_self ..)) (ih fun x m => hb x (List.mem_cons_of_mem _ m))
          exact key _ fun b hb => (mem b (perm.mem_iff.mp hb)).1
      · rw [if_neg q] at h; cases h
  · cases h
theorem ve_sorted {X : Cx} {kd : Kds} {W : WX} {pos p : Pos} {a : Expr} {f : DE} (hu : X.A.units + 70 < cLine) (ha : VE X kd W .sh a f) (hm : X.mg "sorted" = none) (hg : Gl X "sorted" := by rfl) (h1 : S1 X a := by rfl) : VE X kd W (.li .sh) (.Call (.Name "sorted" p) [a] [] pos) (dAr sortD (dCons f dNil)) :=
  ve_callB (cr_sortD hu) a_sort hm (by decide +kernel) (va1 ha h1) hg (by decide) (by decide) h1 rfl
/-! ### stores that raise nothing -/
def NxE (f : DE) : Prop := ∀ δ e δ', f δ ≠ .exn e δ'
theorem nx_var {i : Nat} : NxE (dVar i) := fun δ e δ' h => by
  unfold dVar at h
  split at h <;> cases h
theorem nx_c {d : D} : NxE (dC d) := fun δ e δ' h => by cases h
theorem nx_un {op : D → Option D} {f : DE} (hf : NxE f) : NxE (dUn op f) := fun δ e δ' h => by
  unfold dUn at h
  cases ef : f δ with
  | no => rw [ef] at h; cases h
  | exn e1 δ1 => exact hf _ _ _ ef
  | ok d δ1 =>
    rw [ef] at h
    simp only [Res.bind, lift] at h
    split at h <;> cases h
theorem nx_bin {op : D → D → Option D} {f g : DE} (hf : NxE f) (hg : NxE g) : NxE (dBin op f g) := fun δ e δ' h => by
  unfold dBin at h
  cases ef : f δ with
  | no => rw [ef] at h; cases h
  | exn e1 δ1 => exact hf _ _ _ ef
  | ok d δ1 =>
    rw [ef] at h
    simp only [Res.bind] at h
    cases eg : g δ1 with
    | no => rw [eg] at h; cases h
    | exn e1 δ2 => exact hg _ _ _ eg
    | ok d δ1 =>
      rw [eg] at h
      simp only [lift] at h
      split at h <;> cases h
def NxU (s : D → Env → Res Unit) : Prop := ∀ d δ e δ', s d δ ≠ .exn e δ'
theorem nu_v {i : Nat} : NxU (uV i) := fun d δ e δ' h => by cases h
theorem nu_ix {i : Nat} {f : DE} (hf : NxE f) : NxU (uIx i f) := fun d δ e δ' h => by
  unfold uIx at h
  split at h
  · cases h
  · cases ef : f δ with
    | no => rw [ef] at h; cases h
    | exn e1 δ1 => exact hf _ _ _ ef
    | ok d δ1 =>
      rw [ef] at h
      simp only [Res.bind] at h
      split at h
      · split at h <;> cases h
      · cases h
theorem nx_hide {i : Nat} {f : DE} (hf : NxE f) : NxE (dHide i f) := fun δ e δ' h => by
  unfold dHide at h
  split at h
  · cases ef : f (δ.set i none) with
    | no => rw [ef] at h; cases h
    | exn e1 δ1 => exact hf _ _ _ ef
    | ok d δ1 =>
      rw [ef] at h
      simp only at h
      split at h <;> cases h
  · cases h
theorem nu_ix2 {i : Nat} {f g : DE} (hf : NxE f) (hg : NxE g) : NxU (uIx2 i f g) := fun d δ e δ' h => by
  unfold uIx2 at h
  split at h
  · cases h
  · cases ef : f δ with
    | no => rw [ef] at h; cases h
    | exn e1 δ1 => exact hf _ _ _ ef
    | ok d δ1 =>
      rw [ef] at h
      simp only [Res.bind] at h
      split at h
      · split at h
        · cases eg : dHide i g δ1 with
          | no => simp only [eg] at h; cases h
          | exn e1 δ2 => exact nx_hide hg _ _ _ eg
          | ok d δ2 =>
            simp only [eg] at h
            split at h
            · split at h <;> cases h
            · cases h
        · cases h
      · cases h
end VL

set_option Elab.async false
set_option linter.all false
set_option maxRecDepth 100000
/-! Layer V: the law's end. -/
namespace VL
open PySem PySem.Spec PyProof.Rows L2
/-- what a law promises: a list of at most 63 ints is handed in, True comes out -/
def spLaw (K : PySem.W.Frag) : Sp := fun vs H Q _ => ∃ (a : Addr) (ns : List Int), vs = [.ref a] ∧ SqL K H a (ns.map V.int) ∧ ns.length ≤ 63 ∧ ∀ H', Q (.bl true) H'
/-- a def that tells the law's truth -/
def Tells (fn : List D → FRes) : Prop := ∀ ns : List Int, ns.length ≤ 63 → ∃ outs, fn [.frz (ns.map D.int)] = .ok (.bl true) outs
/-- what is no table -/
def cutT (H : Hp) : Hp := fun b => match H b with
  | some (.tbl _) => none
  | o => o
theorem cutT_of {H : Hp} {b : Addr} {o : HO} (h : H b = some o) (n : NoTb o) : cutT H b = some o := by
  unfold cutT
  rw [h]
  cases o with
  | tbl ps => exact (n ps rfl).elim
  | _ => rfl
theorem cutT_lie (H : Hp) : Lie (cutT H) H := fun b o h => by
  unfold cutT at h
  cases e : H b with
  | none => rw [e] at h; cases h
  | some u =>
    rw [e] at h
    cases u with
    | tbl ps => cases h
    | _ => cases h; exact .inl ⟨rfl, by intro _ z; cases z⟩
theorem cutT_sql {K : PySem.W.Frag} {H : Hp} {a : Addr} {xs : List V} (h : SqL K H a xs) : SqL K (cutT H) a xs := by
  rcases h with (h | ⟨o, h⟩) | h
  · exact .inl (.inl (cutT_of h (by intro _ z; cases z)))
  · exact .inl (.inr ⟨o, cutT_of h (by intro _ z; cases z)⟩)
  · exact .inr h
theorem law_end {P : Program} {w : World} {K : PySem.W.Frag} {mg : Str → Option Value} {base : Heap} {lvl : Nat} {f : Addr} {fd : FuncData} {fn : List D → FRes} (M : Tells fn) (F : FnOk P w K mg base (L2.CX P w) lvl f fd ["script"] (spV K mg (List.replicate 1 .sh) .sh fn)) : FnOk P w K mg base (L2.CX P w) lvl f fd ["script"] (spLaw K) := by
  have key : ∀ vs H Q E, spLaw K vs H Q E → spV K mg (List.replicate 1 .sh) .sh fn vs H Q E := by
    rintro vs H Q E ⟨a, ns, rfl, hs, hl, q⟩
    obtain ⟨outs, e⟩ := M ns hl
    have r : Rep K mg (cutT H) (.ref a) (.frz (ns.map D.int)) := by
      refine .frz (cutT_sql hs) (RepL.of (by simp) fun j v d h1 h2 => ?_)
      rw [List.getElem?_map] at h1 h2
      cases e : ns[j]? with
      | none => rw [e] at h1; cases h1
      | some i => rw [e] at h1 h2; cases h1; cases h2; exact .int i
    refine ⟨fun _ => Non, cutT H, [.frz (ns.map D.int)], rfl, envPure (cutT_lie H) (.cons r .nil), ?_⟩
    rw [e]
    intro v Fs' P' H' G _ _ _ o
    cases o.2 with
    | bl _ => exact q H'
  exact ⟨fun vs H Q E h => F.len vs H Q E (key vs H Q E h), fun A outer s H ar us vs Q E hr I b r h => F.run A outer s H ar us vs Q E hr I b r (key vs H Q E h)⟩
theorem walkV {l : PySem.W.OpenLaw} {k : Nat} {q : Program} {loose : List Str} {XP : (Str → Option Value) → Heap → Prop} {YP : World → Heap → Prop} {d : DefRec} {K : Params → PySem.W.Frag} (hn : l.most = some 63) (hdf : d.params.defaults = []) (hr : Room k callerA)
    (hY : ∀ (w : World) (h : Heap), YP w h → (K w.params).In h)
    (F : ∀ (w : World) (mg : Str → Option Value) (fa : Addr) (h : Heap), (K w.params).In h → h.Ns mainGlobals mg → mg d.name = some (.ref fa) →
      ∃ fd : FuncData, (∀ (s : Shared) (u : Value), BindsTo s fd ⟨[u], []⟩ [("script", u)]) ∧ ∀ base : Heap, (K w.params).In base → base.Ns mainGlobals mg → FnOk l.prog w (K w.params) mg base (L2.CX l.prog w) k fa fd ["script"] (spLaw (K w.params))) :
    PySem.W.WalkO q loose XP YP l.row.toRowW d [] (fun f vs => PySem.call f vs) :=
  L2.walk_of (n := 63) (k := k) (x := "script") (CX := fun w => L2.CX l.prog w) (sp := fun w => spLaw (K w.params)) hn (by decide) hdf hr hY F (fun _ _ a ns hl _ hS => ⟨a, ns, rfl, hS, hl, fun _ => rfl⟩) fun _ _ _ _ _ ⟨_, _, _, _, _, _, _, _, _, _, _, _, z⟩ => z
theorem clsF_of {K : PySem.W.Frag} {mg : Str → Option Value} {c f : Str} {C : Addr} (hC : mg c = some (.ref C)) (cl : Cls K C) (n : NoAttr K C f) : ClsF K mg c f := fun C' h => by
  rw [hC] at h
  cases h
  exact ⟨cl, n⟩
end VL

set_option Elab.async false
set_option linter.all false
set_option maxRecDepth 100000
/-! Layer V: a call of a local name that holds one of several defs. -/
namespace VL
open PySem PySem.Spec PyProof.Rows L2
def tCallR (i : Nat) (R : Addr → Sp → Prop) (t : TA) : TE := fun σ H Q => ∃ f sp, σ[i]? = some (some (.ref f)) ∧ R f sp ∧ t σ H fun vs H1 => sp vs H1 Q (fun _ _ _ => False)
section
variable {X : Cx} {i : Nat} {x : Str} {p pos : Pos} {e : Expr} {es : List Expr} {t : TA}
theorem pe_callR {R : Addr → Sp → Prop} (A : ∀ f sp, R f sp → ∃ (k : Nat) (fd : FuncData) (ps : List Str), Room k X.A ∧ PySem.W.keepIn X.K (.ref f) = true ∧ Binds X.K fd ps [] ∧ FnOk X.prog X.w X.K X.mg X.base (L2.CX X.prog X.w) k f fd ps sp) (hN : X.N[i]? = some x) (hv : Vis X.env.scope x) (ha : PA X (e :: es) t) (hdb : (x == ("__debug__" : Str)) = false) (hcd : (x == ("__classdict__" : Str)) = false) (he : starEach (e :: es) X.env = (false, eval e X.env) :: starEach es X.env) (hpl : (backTo pos (starEach es X.env)).any (·.1) = false) :
    PE X (.Call (.Name x p) (e :: es) [] pos) (tCallR i R t) :=
  ⟨fun pins s σ H Q I ⟨f, sp, hs, hR, ht⟩ => by
    obtain ⟨k, fd, ps, hr, hk, hb, F⟩ := A f sp hR
    have r := (pe_callL (p := p) (i := i) (f := f) (sp := sp) (dvs := []) (E := fun _ _ _ => False) F hr hN hv hk hb .nil (fun _ _ _ _ _ _ _ ⟨_, _, _, _, _, _, _, _, _, _, _, _, z⟩ => z.elim) ha hdb hcd he hpl).run pins s σ H Q I
    refine r ⟨hs, ?_⟩
    simp only [List.append_nil]
    exact ht⟩
end
def dCallL (i n : Nat) (tab : List (Str × (List D → FRes))) (g : DA) : DE := fun δ => match δ[i]? with
  | some (some (.glb x)) => (match tab.lookup x with
    | some fn => (g δ).bind fun ds δ1 => if ds.length = n then (match fn ds with
      | .ok d _ => .ok d δ1
      | _ => .no) else .no
    | none => .no)
  | _ => .no
/-- the defs that a local name may hold -/
def VTab (P : Program) (w : World) (K : PySem.W.Frag) (mg : Str → Option Value) (base : Heap) (lvl n : Nat) (rk : Kd) (tab : List (Str × (List D → FRes))) : Prop := ∀ x fn, tab.lookup x = some fn → ∃ lv, lv ≤ lvl ∧ VFn P w K mg base lv x (List.replicate n .sh) rk fn
theorem VTab.nil {P : Program} {w : World} {K : PySem.W.Frag} {mg : Str → Option Value} {base : Heap} {lvl n : Nat} {rk : Kd} : VTab P w K mg base lvl n rk [] := fun x fn h => by cases h
theorem VTab.cons {P : Program} {w : World} {K : PySem.W.Frag} {mg : Str → Option Value} {base : Heap} {lvl n : Nat} {rk : Kd} {tab : List (Str × (List D → FRes))} {x : Str} {fn : List D → FRes} {lv : Nat} (h : VFn P w K mg base lv x (List.replicate n .sh) rk fn) (hl : lv ≤ lvl) (t : VTab P w K mg base lvl n rk tab) : VTab P w K mg base lvl n rk ((x, fn) :: tab) := fun y fn' e => by
  rw [List.lookup_cons] at e
  by_cases q : y = x
  · subst q
    rw [beq_self_eq_true] at e
    simp only [Option.some.injEq] at e
    subst e
    exact ⟨lv, hl, h⟩
  · have : (y == x) = false := beq_false_of_ne q
    rw [this] at e
    exact t y fn' e
section
variable {K : PySem.W.Frag} {mg : Str → Option Value} {kd : Kds} {W : L2.WX} {P : Program} {w : World} {base : Heap}
theorem callL_rd {i n lvl : Nat} {rk : Kd} {tab : List (Str × (List D → FRes))} {g : DA} {σ : L2.St} {H : Hp} {Q : L2.VK} (T : VTab P w K mg base lvl n rk tab) (hk : kd.at i = .sh) (h : rdE K mg kd W rk (dCallL i n tab g) σ H Q) :
    tCallR i (fun f sp => ∃ x fn, tab.lookup x = some fn ∧ mg x = some (.ref f) ∧ sp = spV K mg (List.replicate n .sh) rk fn) (rdA K mg kd W g) σ H Q := by
  obtain ⟨Fs, PP, δ, E, q⟩ := h
  unfold dCallL at q
  cases ej : δ[i]? with
  | none => rw [ej] at q; exact q.elim
  | some o =>
    cases o with
    | none => rw [ej] at q; exact q.elim
    | some d0 =>
      rw [ej] at q
      cases d0 with
      | glb x =>
        cases el : tab.lookup x with
        | none => simp only [el] at q; exact q.elim
        | some fn =>
          simp only [el] at q
          obtain ⟨v0, hv, ow⟩ := E.slot i _ ej
          rw [hk] at ow
          obtain ⟨_, _, V⟩ := T x fn el
          obtain ⟨f, _, _, hm, _, _, _⟩ := V.ex
          have r0 := ow.sh_rep
          have hv0 : v0 = .ref f := by
            cases r0 with
            | glb h1 h2 =>
              rw [hm] at h1
              cases h1
              cases v0 <;> simp [L2.RelV] at h2
              rw [h2]
          subst hv0
          refine ⟨f, _, hv, ⟨x, fn, el, hm, rfl⟩, ?_⟩
          refine ⟨Fs, PP, δ, E, ?_⟩
          have q1 := bindA q
          revert q1
          cases g δ with
          | no => exact fun q => q
          | exn e δ1 => exact fun q => q
          | ok d δ1 =>
            intro q1 v1 Fs1 P1 H1 E1 s1 o1
            obtain ⟨ds, δ1', Fs1', P1', E1', s1', r1', q2⟩ := q1 v1 Fs1 P1 H1 E1 s1 o1
            by_cases hn : ds.length = n
            · rw [if_pos hn] at q2
              subst hn
              have E2 : EnvR K mg (List.replicate ds.length .sh) (fun _ => Non) P1' H1 (v1.map some) (ds.map some) := envPure E1'.sub r1'
              refine ⟨fun _ => Non, P1', ds, by rw [List.length_replicate, r1'.length], E2, ?_⟩
              cases ef : fn ds with
              | no => rw [ef] at q2; exact q2.elim
              | exn e => rw [ef] at q2; exact q2.elim
              | ok d outs =>
                rw [ef] at q2
                intro v Fs' P' H' G E' s f o
                rw [E'.pure_non, all_non] at s
                rw [E'.pure_non] at f
                exact PostE.step E1' s E'.sub f o q2
            · rw [if_neg hn] at q2; exact q2.elim
      | _ => exact q.elim
end
section
variable {X : Cx} {kd : Kds} {W : L2.WX} {pos p : Pos} {lvl i n : Nat} {x : Str} {rk : Kd} {e : Expr} {es : List Expr} {g : DA} {tab : List (Str × (List D → FRes))}
/-- rule(e, ..): rule is a slot that holds a def -/
theorem ve_callL (T : VTab X.prog X.w X.K X.mg X.base lvl n rk tab) (hr : Room lvl X.A) (ha : VA X kd W (e :: es) g) (hk : kd.at i = .sh := by rfl) (hN : X.N[i]? = some x := by rfl) (hv : Vis X.env.scope x := by first | exact Or.inl rfl | exact Or.inr (Or.inl rfl) | exact Or.inr (Or.inr rfl)) (hdb : (x == ("__debug__" : Str)) = false := by decide) (hcd : (x == ("__classdict__" : Str)) = false := by decide) (he : starEach (e :: es) X.env = (false, eval e X.env) :: starEach es X.env := by rfl) (hpl : (backTo pos (starEach es X.env)).any (·.1) = false := by rfl) :
    VE X kd W rk (.Call (.Name x p) (e :: es) [] pos) (dCallL i n tab g) :=
  PE.imp (pe_callR (R := fun f sp => ∃ y fn, tab.lookup y = some fn ∧ X.mg y = some (.ref f) ∧ sp = spV X.K X.mg (List.replicate n .sh) rk fn) (fun f sp ⟨y, fn, h1, h2, h3⟩ => by
    obtain ⟨lv, hle, V⟩ := T y fn h1
    obtain ⟨f', fd, ps, hm, hk, hb, F⟩ := V.ex
    rw [h2] at hm
    cases hm
    subst h3
    exact ⟨lv, fd, ps, hr.mono hle, hk, hb, F⟩) hN hv ha hdb hcd he hpl) fun _ _ _ h => callL_rd T hk h
/-- a def as a value -/
theorem ve_fnv {kp : Kds} {fn : List D → FRes} (V : VFn X.prog X.w X.K X.mg X.base lvl x kp rk fn) (hg : Gl X x := by rfl) (hd : (x == ("__debug__" : Str)) = false := by decide) : VE X kd W .sh (.Name x pos) (dC (.glb x)) := by
  obtain ⟨f, _, _, hm, _⟩ := V.ex
  exact ve_glb hm (v := .ref f) rfl hg hd
end
/-! ### remove, of a list of ints -/
def intsOf : List D → Option (List Int)
  | [] => some []
  | .int i :: l => (intsOf l).map (i :: ·)
  | _ => none
theorem intsOf_map (ns : List Int) : intsOf (ns.map .int) = some ns := by
  induction ns with
  | nil => rfl
  | cons a ns ih => rw [List.map_cons, intsOf, ih]; rfl
def remI (l ds : List D) : Option (D × List D) := match ds with
  | [.int k] => (intsOf l).bind fun ns => if k ∈ ns then some (.non, (ns.erase k).map .int) else none
  | _ => none
theorem ints_rep {K : PySem.W.Frag} {mg : Str → Option Value} {P : Hp} : ∀ {vs : List V} {l : List D} {ns : List Int}, RepL K mg P vs l → intsOf l = some ns → vs = ns.map V.int
  | _, _, ns, .nil, h => by cases h; rfl
  | _, d :: l, ns, .cons a b, h => by
    cases d with
    | int i =>
      unfold intsOf at h
      cases e : intsOf l with
      | none => rw [e] at h; cases h
      | some ms =>
        rw [e] at h
        cases h
        cases a
        rw [ints_rep b e]
        rfl
    | _ => cases h
theorem rep_ints {K : PySem.W.Frag} {mg : Str → Option Value} {P : Hp} : ∀ ns : List Int, RepL K mg P (ns.map V.int) (ns.map D.int)
  | [] => .nil
  | i :: ns => .cons (.int i) (rep_ints ns)
theorem m_remI {K : PySem.W.Frag} {mg : Str → Option Value} : MetD K mg rRemI remI := by
  intro P H p vs us l ds l' z Q s hp r1 r2 h c
  unfold remI at h
  split at h
  · rename_i k
    cases e : intsOf l with
    | none => rw [e] at h; cases h
    | some ns =>
      rw [e] at h
      simp only [Option.bind_some] at h
      by_cases hk : k ∈ ns
      · rw [if_pos hk] at h
        cases h
        obtain ⟨u, rfl, ru⟩ := ar1 r2
        cases ru
        have hv := ints_rep r1 e
        subst hv
        have hi : ns.idxOf k < ns.length := List.idxOf_lt_length_of_mem hk
        refine ⟨p, ns, k, ns.idxOf k, rfl, rfl, hp, ?_, fun m hm => ?_, ?_⟩
        · rw [List.getElem?_eq_getElem hi, List.getElem_idxOf hi]
        · intro hh
          have h2 : m < ns.length := by omega
          rw [List.getElem?_eq_getElem h2] at hh
          have h3 := List.not_of_lt_findIdx (xs := ns) (p := fun a => a == k) (i := m) hm
          simp only [Option.some.injEq] at hh
          rw [hh] at h3
          simp at h3
        · rw [← List.erase_eq_eraseIdx_of_idxOf (l := ns) (a := k) rfl]
          exact c _ _ .non (rep_ints _)
      · rw [if_neg hk] at h; cases h
  · cases h
section
variable {X : Cx} {kd : Kds} {W : WX} {cpos apos p1 : Pos}
theorem ve_rem (i : Nat) {x : Str} {e : Expr} {f : DA} (he : VA X kd W [e] f) (hk : (kd.at i).strip = .li .sh := by rfl) (hN : X.N[i]? = some x := by rfl) (hv : Vis X.env.scope x := by first | exact Or.inl rfl | exact Or.inr (Or.inl rfl) | exact Or.inr (Or.inr rfl))
    (hd : (x == ("__debug__" : Str)) = false := by decide) (hcd : (x == ("__classdict__" : Str)) = false := by decide) (hbase : attributeBase (.Name x p1) "remove" X.env (eval (.Name x p1) X.env) = eval (.Name x p1) X.env := by rfl)
    (hfew : ((backTo cpos (starEach [e] X.env)).all (fun x => !x.1) && (backToKw cpos (keywordEach [] X.env)).all (fun x => x.1.isSome) && decide (([e] : List Expr).length + ([] : List Keyword).length + (if ([] : List Keyword).isEmpty then 0 else 1) < 30)) = true := by rfl)
    (hline : (apos.endLine == cpos.line) = true := by rfl) (hs : starEach [e] X.env = (false, eval e X.env) :: starEach [] X.env := by rfl) : VE X kd W .sh (.Call (.Attribute (.Name x p1) "remove" apos) [e] [] cpos) (dMet i remI f) := by
  have hm : MtR X "list.remove" rRemI := fun pins s σ H x xs v us Q I r rs q => mt_remove pins s σ H x xs v us Q I r rs q
  exact PE.imp (pe_bm PySem.F.plainAttrs_list PySem.F.slot_list_remove PySem.F.type_list_remove hm (pe_var hN hv hd hcd) he hbase hfew hline hs rfl) fun _ _ _ q => (met_rd m_remI hk q).1
end
/-! ### tuple(range(..)) -/
def dTRg1 (f : DE) : DE := fun δ => (f δ).bind fun d δ1 => match d with
  | .int b => if rgOkB 0 b then .ok (.tup (rangeD 0 b)) δ1 else .no
  | _ => .no
section
variable {X : Cx} {kd : Kds} {W : WX} {pos p p2 pos2 : Pos}
theorem ve_tupRg1 {a : Expr} {f : DE} (ha : VE X kd W .sh a f) (hm : X.mg "tuple" = none) (hm2 : X.mg "range" = none) (hc : X.calm = true := by rfl) (hg : Gl X "tuple" := by rfl) (hg2 : Gl X "range" := by rfl)
    (na : starEach [a] X.env = (false, eval a X.env) :: starEach [] X.env := by rfl) (nb : starEach [.Call (.Name "range" p2) [a] [] pos2] X.env = (false, eval (.Call (.Name "range" p2) [a] [] pos2) X.env) :: starEach [] X.env := by rfl) :
    VE X kd W .sh (.Call (.Name "tuple" p) [.Call (.Name "range" p2) [a] [] pos2] [] pos) (dTRg1 f) :=
  PE.imp (pe_tupRg hc hg hm (prg_1 hg2 hm2 ha na) nb) fun σ H Q ⟨Fs, P, δ, E, q⟩ => by
    refine ⟨Fs, P, δ, E, ?_⟩
    have q1 := bindE (k := .sh) q
    revert q1
    cases f δ with
    | no => exact fun q => q
    | exn e δ1 => exact fun q => q
    | ok d δ1 =>
      intro q1 v1 Fs1 P1 H1 G1 E1 s1 f1 o1
      obtain ⟨d', δ1', Fs1', P1', G1', E1', s1', f1', o1', q2⟩ := q1 v1 Fs1 P1 H1 G1 E1 s1 f1 o1
      cases o1'.sh_rep with
      | int b =>
        simp only at q2
        by_cases hb : rgOkB 0 b = true
        · rw [if_pos hb] at q2
          unfold rgOkB at hb
          have hb := of_decide_eq_true hb
          have c : Cont X.K X.mg P1' H1 .sh (.tup (rangeD 0 b)) Q := fun v P' H' G s hs fr ow => PostE.step E1' s hs fr ow q2
          exact ⟨b, rfl, hb, fun p hp => Cont.tup c E1'.sub (rgV_rep 0 b) hp⟩
        · rw [if_neg hb] at q2; exact q2.elim
      | _ => exact q2.elim
end
end VL

set_option Elab.async false
set_option linter.all false
set_option maxRecDepth 100000
/-! Layer V: x[i].append(e) of an owned list of owned lists. -/
namespace VL
open PySem PySem.Spec PyProof.Rows L2
def dApp2 (i : Nat) (f g : DE) : DS := fun δ => match slotL δ i with
  | none => .no
  | some _ => (f δ).stm fun e δ1 => match slotL δ1 i, e with
    | some l, .int k => (match ixN l.length k with
      | some j => (dHide i g δ1).stm fun d δ2 => match l[j]? with
        | some (.lst m) => if m.length < sizeLine then .next (δ2.set i (some (.lst (l.set j (.lst (m ++ [d])))))) else .no
        | _ => .no
      | none => .no)
    | _, _ => .no
theorem RepL.snoc {K : PySem.W.Frag} {mg : Str → Option Value} {P : Hp} {v : V} {d : D} (r : Rep K mg P v d) : ∀ {vs : List V} {ds : List D}, RepL K mg P vs ds → RepL K mg P (vs ++ [v]) (ds ++ [d])
  | _, _, .nil => .cons r .nil
  | _, _, .cons a b => .cons a (RepL.snoc r b)
section
variable {X : Cx} {fx : Fx} {kd : Kds} {pos cpos apos p1 p2 : Pos}
theorem vs_append2 (i : Nat) {x : Str} {ia e : Expr} {f g : DE} (ha : VE X kd fx.W .sh ia f) (hb : VE X kd fx.W .sh e g) (hk : (kd.at i).strip = .li (.li .sh) := by rfl) (hN : X.N[i]? = some x := by rfl) (hv : Vis X.env.scope x := by first | exact Or.inl rfl | exact Or.inr (Or.inl rfl) | exact Or.inr (Or.inr rfl))
    (hx : fx.XR kd := by first | trivial | rfl) (hd : (x == ("__debug__" : Str)) = false := by decide) (hcd : (x == ("__classdict__" : Str)) = false := by decide) (hs0 : PlainIx ia := by exact fun _ _ => rfl)
    (hbase : attributeBase (.Subscript (.Name x p1) ia p2) "append" X.env (eval (.Subscript (.Name x p1) ia p2) X.env) = eval (.Subscript (.Name x p1) ia p2) X.env := by rfl)
    (hfew : ((backTo cpos (starEach [e] X.env)).all (fun x => !x.1) && (backToKw cpos (keywordEach [] X.env)).all (fun x => x.1.isSome) && decide (([e] : List Expr).length + ([] : List Keyword).length + (if ([] : List Keyword).isEmpty then 0 else 1) < 30)) = true := by rfl)
    (hline : (apos.endLine == cpos.line) = true := by rfl) (hs : starEach [e] X.env = (false, eval e X.env) :: starEach [] X.env := by rfl) (hsw : swapsWith (.Call (.Attribute (.Subscript (.Name x p1) ia p2) "append" apos) [e] [] cpos) none pos.line X.env = pure false := by rfl) :
    VS X fx kd kd (.Expr (.Call (.Attribute (.Subscript (.Name x p1) ia p2) "append" apos) [e] [] cpos) pos) (dApp2 i f g) := by
  have hm : MtR X "list.append" rAppend := fun pins s σ H x xs v us Q I r rs q => mt_append pins s σ H x xs v us Q I r rs q
  refine PS.imp (ps_expr (pe_bm (e := e) (es := []) PySem.F.plainAttrs_list PySem.F.slot_list_append PySem.F.type_list_append hm (pe_ix ix_seq (pe_var hN hv hd hcd) ha hs0) (pa_cons hb pa_nil hs) hbase hfew hline hs rfl) hsw) fun D' σ H ⟨Fs, P, δ, E, q⟩ => ?_
  unfold dApp2 at q
  cases e0 : slotL δ i with
  | none => rw [e0] at q; exact q.elim
  | some l0 =>
    rw [e0] at q
    obtain ⟨p, vs0, hv0, _⟩ := E.list2 hk e0
    refine ⟨_, hv0, Fs, P, δ, E, ?_⟩
    have q1 := stmE (σ := σ) (k := .sh) hx q
    revert q1
    cases f δ with
    | no => exact fun q => q
    | exn e δ1 => exact fun q => q
    | ok e δ1 =>
      intro q1 v1 Fs1 P1 H1 G1 E1 s1 f1 o1
      obtain ⟨e', δ1', Fs1', P1', G1', E1', s1', f1', o1', _, q2⟩ := q1 v1 Fs1 P1 H1 G1 E1 s1 f1 o1
      cases e3 : slotL δ1' i with
      | none => rw [e3] at q2; exact q2.elim
      | some l =>
        rw [e3] at q2
        obtain ⟨p', vs, hv', hp, hl, inner⟩ := E1'.list2 hk e3
        rw [hv0] at hv'
        cases hv'
        cases o1'.sh_rep with
        | int k =>
          simp only at q2
          cases ej : ixN l.length k with
          | none => rw [ej] at q2; exact q2.elim
          | some j =>
            rw [ej] at q2
            simp only at q2
            have hjl : j < l.length := (ixN_seq ej).2.1
            have hvj : vs[j]? = some (vs[j]'(by omega)) := List.getElem?_eq_getElem (by omega)
            have e9 : ixN vs.length k = some j := by rw [hl]; exact ej
            have e10 : atI vs k = some (vs[j]'(by omega)) := by unfold atI; rw [e9]; exact hvj
            refine .inl ⟨p, vs, k, vs[j]'(by omega), rfl, rfl, SqL.of hp, e10, ?_⟩
            have ed := slotL_eq e3
            have E2 := E1'.forget i
            unfold dHide at q2
            rw [ed] at q2
            simp only at q2
            cases em : l[j]? with
            | none =>
              exfalso
              rw [List.getElem?_eq_none_iff] at em
              omega
            | some z =>
              rw [em] at q2
              cases z with
              | lst m =>
                obtain ⟨q0', ws', g1, g2, g3, g4, g5⟩ := inner j m em
                have e6 : vs[j]'(by omega) = .ref q0' := by rw [hvj] at g1; exact Option.some.inj g1
                rw [e6]
                refine ⟨.inl ⟨rfl, ws', SqL.of g2⟩, _, P1', δ1'.set i none, E2, ?_⟩
                revert q2
                cases eg : g (δ1'.set i none) with
                | no => exact fun q => q
                | exn e δ2 =>
                  intro q2 cls dx Fs' P' H' E' s' x
                  simp only at q2
                  by_cases hn : (δ2[i]?).join.isNone = true
                  · rw [if_pos hn] at q2
                    obtain ⟨E3, S3⟩ := E1'.again ed s' E' hn
                    exact q2 kd hx cls dx σ _ P' H' E3 (s1'.trans S3) x
                  · rw [if_neg hn] at q2; exact q2.elim
                | ok e2 δ2 =>
                  intro q2 v2 Fs' P' H' G2 E' s' f2 o2
                  simp only at q2
                  by_cases hn : (δ2[i]?).join.isNone = true
                  · rw [if_pos hn] at q2
                    obtain ⟨E3, S3⟩ := E1'.again ed s' E' hn
                    have q3 : PostS X.K X.mg fx kd Fs P H D' (if m.length < sizeLine then SRes.next ((δ2.set i (some (.lst l))).set i (some (.lst (l.set j (.lst (m ++ [e2])))))) else .no) := q2
                    clear q2 eg
                    by_cases hz : m.length < sizeLine
                    · rw [if_pos hz] at q3
                      have e5 : slotL (δ2.set i (some (.lst l))) i = some l := by
                        unfold slotL
                        rw [List.getElem?_set_self (by rw [E'.len, ← E1'.len]; exact (List.getElem?_eq_some_iff.mp ed).1)]
                      obtain ⟨p2, vs2, hv2, hp2, hl2, inner2⟩ := E3.list2 hk e5
                      rw [hv0] at hv2
                      cases hv2
                      obtain ⟨q0, ws, h1, h2, h3, h4, h5⟩ := inner2 j m em
                      have same : H' p = some (.lst vs) := by
                        refine s'.keep p _ hp (fun mm => ?_) (by intro _ z; cases z)
                        obtain ⟨_, j', hj', mm⟩ := all_forget mm
                        obtain ⟨v5, hv5, ow5⟩ := E1'.slot i _ ed
                        rw [hv0] at hv5
                        cases hv5
                        have os5 := ow5.strip
                        rw [hk] at os5
                        obtain ⟨p5, vs5, ds5, Fl5, e51, e52, hp5, hl5, hi5, hsp5, hb5, hF5⟩ := os5.li_at
                        cases e51
                        exact hj' (E1'.sep j' i p mm ((hF5 p).mpr (.inl rfl)))
                      rw [same] at hp2
                      cases hp2
                      have e7 : (V.ref q0') = .ref q0 := by rw [hvj, e6] at h1; exact Option.some.inj h1
                      cases e7
                      obtain ⟨F', E4, S4⟩ := h5 (ws ++ [v2]) (m ++ [e2]) (RepL.snoc o2.sh_rep h3)
                      exact ⟨q0', ws, v2, rfl, rfl, h2, by rw [h3.length]; exact hz, q3 σ _ P' _ E4 (s1'.trans (S3.trans S4))⟩
                    · rw [if_neg hz] at q3; exact q3.elim
                  · rw [if_neg hn] at q2; exact q2.elim
              | _ =>
                exfalso
                obtain ⟨v5, hv5, ow5⟩ := E1'.slot i _ ed
                rw [hv0] at hv5
                cases hv5
                have os5 := ow5.strip
                rw [hk] at os5
                obtain ⟨p5, vs5, ds5, Fl5, e51, e52, hp5, hl5, hi5, _⟩ := os5.li_at
                cases e52
                have oj := hi5 j _ _ (List.getElem?_eq_getElem (by omega)) em
                obtain ⟨_, _, _, _, _, e4, _⟩ := oj.li_at
                cases e4
        | _ => exact q2.elim
end
/-! ### a list display of owned values -/
section
variable {K : PySem.W.Frag} {mg : Str → Option Value} {kd : Kds} {W : WX}
/-- the first n of them -/
def upTo (Gs : Nat → AS) (n : Nat) : Nat → AS := fun j => if j < n then Gs j else Non
theorem upTo_in {Gs : Nat → AS} {n j : Nat} (h : j < n) : upTo Gs n j = Gs j := if_pos h
theorem upTo_out {Gs : Nat → AS} {n j : Nat} (h : ¬ j < n) : upTo Gs n j = Non := if_neg h
theorem lstK_rd {k : Kd} {n : Nat} {f : DA} {σ : L2.St} {H : Hp} {Q : L2.VK} (h : rdE K mg kd W (.li k) (dAr dLstD f) σ H Q) : tLst (rdK K mg kd W (List.replicate n k) f) σ H Q := by
  obtain ⟨Fs, P, δ, E, q⟩ := h
  refine ⟨Fs, P, δ, E, ?_⟩
  unfold dAr at q
  revert q
  cases f δ with
  | no => exact fun q => q
  | exn e δ1 => exact fun q => q
  | ok ds δ1 =>
    intro q vs Gs Fs1 P1 H1 E1 s1 w
    have q : PostE K mg kd W (.li k) σ Fs P H Q (lift (dLstD ds) δ1) := q
    unfold dLstD at q
    by_cases hz : ds.length ≤ sizeLine
    · rw [if_pos hz] at q
      refine ⟨by rw [w.len]; exact hz, fun p hp => ?_⟩
      obtain ⟨h1, h2, h3⟩ := alloc_ow (o := .lst vs) E1.sub hp
      have ne : ∀ j b, Gs j b → b ≠ p := fun j b g e => by
        obtain ⟨o, z⟩ := (w.fr j).there b g
        rw [e, hp] at z
        cases z
      have hl : n = ds.length := by
        have := w.klen
        rwa [List.length_replicate] at this
      refine q (.ref p) Fs1 P1 _ (fun b => b = p ∨ ∃ j, j < ds.length ∧ Gs j b) (E1.grow h1 h2) (s1.trans h1.wid) ⟨fun a g => ?_, fun a g m => ?_, fun a g => ?_, fun a g => ?_⟩ ?_
      · rcases g with rfl | ⟨j, _, g⟩
        · cases e : H a with
          | none => rfl
          | some o => obtain ⟨o', e'⟩ := s1.dom a o e; rw [hp] at e'; cases e'
        · exact (w.fr j).new a g
      · rcases g with rfl | ⟨j, _, g⟩
        · obtain ⟨i, m⟩ := m
          obtain ⟨_, o, e⟩ := E1.out i a m
          rw [hp] at e
          cases e
        · exact (w.fr j).notM a g m
      · rcases g with rfl | ⟨j, _, g⟩
        · cases e : P1 a with
          | none => rfl
          | some o => obtain ⟨_, this⟩ := E1.sub.there e; rw [hp] at this; cases this
        · exact (w.fr j).notP a g
      · rcases g with rfl | ⟨j, _, g⟩
        · exact ⟨_, upd_same⟩
        · obtain ⟨o, e⟩ := (w.fr j).there a g
          exact ⟨o, by rw [upd_ne (ne j a g)]; exact e⟩
      · refine ⟨p, vs, ds, upTo Gs ds.length, rfl, rfl, upd_same, w.len, fun j v d a1 a2 => ?_, fun i j b a1 a2 => ?_, fun j b a1 => ?_, fun b => ⟨fun a1 => ?_, fun a1 => ?_⟩⟩
        · have hj : j < ds.length := (List.getElem?_eq_some_iff.mp a2).1
          rw [upTo_in hj]
          refine Own.stay (Sub.refl _) (fun a o fa e _ => by rw [upd_ne (ne j a fa)]; exact e) (w.own j k v d ?_ a1 a2)
          rw [List.getElem?_replicate, if_pos (by omega)]
        · by_cases hi : i < ds.length
          · rw [upTo_in hi] at a1
            by_cases hj : j < ds.length
            · rw [upTo_in hj] at a2; exact w.sep i j b a1 a2
            · rw [upTo_out hj] at a2; exact a2.elim
          · rw [upTo_out hi] at a1; exact a1.elim
        · by_cases hj : j < ds.length
          · rw [upTo_in hj] at a1; exact ⟨ne j b a1, hj⟩
          · rw [upTo_out hj] at a1; exact a1.elim
        · rcases a1 with a1 | ⟨j, hj, g⟩
          · exact .inl a1
          · exact .inr ⟨j, by rw [upTo_in hj]; exact g⟩
        · rcases a1 with a1 | ⟨j, g⟩
          · exact .inl a1
          · by_cases hj : j < ds.length
            · rw [upTo_in hj] at g; exact .inr ⟨j, hj, g⟩
            · rw [upTo_out hj] at g; exact g.elim
    · rw [if_neg hz] at q
      exact q.elim
end
section
variable {X : Cx} {kd : Kds} {W : WX} {pos : Pos}
theorem ve_lstK {k : Kd} {n : Nat} {es : List Expr} {f : DA} (h : VK X kd W (List.replicate n k) es f) : VE X kd W (.li k) (.List es pos) (dAr dLstD f) := PE.imp (pe_lst h) fun _ _ _ q => lstK_rd q
end
end VL

set_option Elab.async false
set_option linter.all false
set_option maxRecDepth 100000
/-! Layer V: k in d; a, b = e1, e2 where a name is captured. -/
namespace VL
open PySem PySem.Spec PyProof.Rows L2
def inKD (neg : Bool) : D → D → Option D
  | k, .dct l => (keyOf k).map fun k => .bl (if neg then !(getKV l k).isSome else (getKV l k).isSome)
  | _, _ => none
/-- k in x, x an owned slot -/
def dInKO (neg : Bool) (i : Nat) (f : DE) : DE := fun δ => (f δ).bind fun k δ1 => match slotD δ1 i, keyOf k with
  | some l, some k => .ok (.bl (if neg then !(getKV l k).isSome else (getKV l k).isSome)) δ1
  | _, _ => .no
section
variable {K : PySem.W.Frag} {mg : Str → Option Value}
theorem d_inK : OpD K mg (fun y x H Q => ∃ a o, x = .ref a ∧ DGet H a y o ∧ Q (.bl o.isSome) H) .sh (inKD false) := by
  intro P H x y d e z Q s r1 r2 h c
  unfold inKD at h
  cases r2 with
  | @dct a kvs es h1 h2 h3 =>
    simp only at h
    cases ek : keyOf d with
    | none => rw [ek] at h; cases h
    | some k =>
      rw [ek] at h
      cases h
      have rE : RepE K mg P kvs es := ⟨h2, h3⟩
      rw [keyOf_rep r1 ek]
      refine ⟨a, _, rfl, DGet.k (s.at h1), ?_⟩
      have e : (valV kvs k).isSome = (getKV es k).isSome := by
        rcases rE.get k with ⟨a1, a2⟩ | ⟨v, d, a1, a2, _⟩ <;> rw [a1, a2] <;> rfl
      rw [e]
      exact Cont.val c s (.bl _)
  | _ => cases h
theorem d_notinK : OpD K mg (fun y x H Q => ∃ a o, x = .ref a ∧ DGet H a y o ∧ Q (.bl (!o.isSome)) H) .sh (inKD true) := by
  intro P H x y d e z Q s r1 r2 h c
  unfold inKD at h
  cases r2 with
  | @dct a kvs es h1 h2 h3 =>
    simp only at h
    cases ek : keyOf d with
    | none => rw [ek] at h; cases h
    | some k =>
      rw [ek] at h
      cases h
      have rE : RepE K mg P kvs es := ⟨h2, h3⟩
      rw [keyOf_rep r1 ek]
      refine ⟨a, _, rfl, DGet.k (s.at h1), ?_⟩
      have e : (valV kvs k).isSome = (getKV es k).isSome := by
        rcases rE.get k with ⟨a1, a2⟩ | ⟨v, d, a1, a2, _⟩ <;> rw [a1, a2] <;> rfl
      rw [e]
      exact Cont.val c s (.bl _)
  | _ => cases h
end
section
variable {X : Cx} {kd : Kds} {W : WX} {pos p1 : Pos}
theorem ve_inD {a b : Expr} {f g : DE} (hu : X.A.units + 1 < cLine) (ha : VE X kd W .sh a f) (hb : VE X kd W .sh b g) (hm : behindInMarks .In b = false := by rfl) : VE X kd W .sh (.Compare a [.In] [b] pos) (dBin (inKD false) f g) := PE.imp (pe_cmp (pc_din hu ha hb) hm) fun _ _ _ h => bin_rd d_inK h
theorem ve_notinD {a b : Expr} {f g : DE} (hu : X.A.units + 1 < cLine) (ha : VE X kd W .sh a f) (hb : VE X kd W .sh b g) (hm : behindInMarks .NotIn b = false := by rfl) : VE X kd W .sh (.Compare a [.NotIn] [b] pos) (dBin (inKD true) f g) := PE.imp (pe_cmp (pc_dnotin hu ha hb) hm) fun _ _ _ h => bin_rd d_notinK h
theorem vt_inD {a b : Expr} {f g : DE} (hu : X.A.units + 1 < cLine) (ha : VE X kd W .sh a f) (hb : VE X kd W .sh b g) (hm : behindInMarks .In b = false := by rfl) : VT X kd W (.Compare a [.In] [b] pos) (dTst asB (dBin (inKD false) f g)) :=
  PT.imp (pt_cmp (pc_din hu ha hb) hm) fun σ H Q h => bin_rd d_inK (tst_rd (R := fun x _ k => x = .bl k) (fun P H v d b _ r e => by cases r <;> first | (cases e; done) | (cases e; rfl)) h)
theorem vt_notinD {a b : Expr} {f g : DE} (hu : X.A.units + 1 < cLine) (ha : VE X kd W .sh a f) (hb : VE X kd W .sh b g) (hm : behindInMarks .NotIn b = false := by rfl) : VT X kd W (.Compare a [.NotIn] [b] pos) (dTst asB (dBin (inKD true) f g)) :=
  PT.imp (pt_cmp (pc_dnotin hu ha hb) hm) fun σ H Q h => bin_rd d_notinK (tst_rd (R := fun x _ k => x = .bl k) (fun P H v d b _ r e => by cases r <;> first | (cases e; done) | (cases e; rfl)) h)
end
section
variable {K : PySem.W.Frag} {mg : Str → Option Value} {kd : Kds} {W : WX}
theorem inO_rd {neg : Bool} {i : Nat} {f : DE} {σ : L2.St} {H : Hp} {Q : L2.VK} (hk : (kd.at i).strip = .dc) (h : rdE K mg kd W .sh (dInKO neg i f) σ H Q) :
    rdE K mg kd W .sh f σ H fun y H1 => tVar i σ H1 fun x H2 => ∃ a o, x = .ref a ∧ DGet H2 a y o ∧ Q (.bl (if neg then !o.isSome else o.isSome)) H2 := by
  obtain ⟨Fs, P, δ, E, q⟩ := h
  refine ⟨Fs, P, δ, E, ?_⟩
  unfold dInKO at q
  have q1 := bindE (k := .sh) q
  revert q1
  cases f δ with
  | no => exact fun q => q
  | exn e δ1 => exact fun q => q
  | ok e δ1 =>
    intro q1 v1 Fs1 P1 H1 G1 E1 s1 f1 o1
    obtain ⟨e', δ1', Fs1', P1', G1', E1', s1', f1', o1', q2⟩ := q1 v1 Fs1 P1 H1 G1 E1 s1 f1 o1
    cases e3 : slotD δ1' i with
    | none => rw [e3] at q2; exact q2.elim
    | some l =>
      obtain ⟨p', kvs, hv', hp, rE, _⟩ := E1'.dict hk e3
      cases ek : keyOf e' with
      | none => rw [e3, ek] at q2; exact q2.elim
      | some k =>
        rw [e3, ek] at q2
        simp only at q2
        rw [keyOf_rep o1'.sh_rep ek]
        refine ⟨_, hv', p', valV kvs k, rfl, DGet.k hp, ?_⟩
        have e : (valV kvs k).isSome = (getKV l k).isSome := by
          rcases rE.get k with ⟨a1, a2⟩ | ⟨v, d, a1, a2, _⟩ <;> rw [a1, a2] <;> rfl
        rw [e]
        exact PostE.pure E1' (.bl _) q2
end
section
variable {X : Cx} {kd : Kds} {W : WX} {pos p1 : Pos}
theorem ve_inO (i : Nat) {x : Str} {a : Expr} {f : DE} (hu : X.A.units + 1 < cLine) (ha : VE X kd W .sh a f) (hk : (kd.at i).strip = .dc := by rfl) (hN : X.N[i]? = some x := by rfl) (hv : Vis X.env.scope x := by first | exact Or.inl rfl | exact Or.inr (Or.inl rfl) | exact Or.inr (Or.inr rfl))
    (hd : (x == ("__debug__" : Str)) = false := by decide) (hcd : (x == ("__classdict__" : Str)) = false := by decide) (hm : behindInMarks .In (.Name x p1) = false := by rfl) : VE X kd W .sh (.Compare a [.In] [.Name x p1] pos) (dInKO false i f) := PE.imp (pe_cmp (pc_din hu ha (pe_var hN hv hd hcd)) hm) fun _ _ _ h => inO_rd hk h
theorem ve_notinO (i : Nat) {x : Str} {a : Expr} {f : DE} (hu : X.A.units + 1 < cLine) (ha : VE X kd W .sh a f) (hk : (kd.at i).strip = .dc := by rfl) (hN : X.N[i]? = some x := by rfl) (hv : Vis X.env.scope x := by first | exact Or.inl rfl | exact Or.inr (Or.inl rfl) | exact Or.inr (Or.inr rfl))
    (hd : (x == ("__debug__" : Str)) = false := by decide) (hcd : (x == ("__classdict__" : Str)) = false := by decide) (hm : behindInMarks .NotIn (.Name x p1) = false := by rfl) : VE X kd W .sh (.Compare a [.NotIn] [.Name x p1] pos) (dInKO true i f) := PE.imp (pe_cmp (pc_dnotin hu ha (pe_var hN hv hd hcd)) hm) fun _ _ _ h => inO_rd hk h
theorem vt_inO (i : Nat) {x : Str} {a : Expr} {f : DE} (hu : X.A.units + 1 < cLine) (ha : VE X kd W .sh a f) (hk : (kd.at i).strip = .dc := by rfl) (hN : X.N[i]? = some x := by rfl) (hv : Vis X.env.scope x := by first | exact Or.inl rfl | exact Or.inr (Or.inl rfl) | exact Or.inr (Or.inr rfl))
    (hd : (x == ("__debug__" : Str)) = false := by decide) (hcd : (x == ("__classdict__" : Str)) = false := by decide) (hm : behindInMarks .In (.Name x p1) = false := by rfl) : VT X kd W (.Compare a [.In] [.Name x p1] pos) (dTst asB (dInKO false i f)) := PT.imp (pt_cmp (pc_din hu ha (pe_var hN hv hd hcd)) hm) fun σ H Q h => inO_rd hk (tst_rd (R := fun x _ k => x = .bl k) (fun P H v d b _ r e => by cases r <;> first | (cases e; done) | (cases e; rfl)) h)
theorem vt_notinO (i : Nat) {x : Str} {a : Expr} {f : DE} (hu : X.A.units + 1 < cLine) (ha : VE X kd W .sh a f) (hk : (kd.at i).strip = .dc := by rfl) (hN : X.N[i]? = some x := by rfl) (hv : Vis X.env.scope x := by first | exact Or.inl rfl | exact Or.inr (Or.inl rfl) | exact Or.inr (Or.inr rfl))
    (hd : (x == ("__debug__" : Str)) = false := by decide) (hcd : (x == ("__classdict__" : Str)) = false := by decide) (hm : behindInMarks .NotIn (.Name x p1) = false := by rfl) : VT X kd W (.Compare a [.NotIn] [.Name x p1] pos) (dTst asB (dInKO true i f)) := PT.imp (pt_cmp (pc_dnotin hu ha (pe_var hN hv hd hcd)) hm) fun σ H Q h => inO_rd hk (tst_rd (R := fun x _ k => x = .bl k) (fun P H v d b _ r e => by cases r <;> first | (cases e; done) | (cases e; rfl)) h)
end
/-! ### a, b = e1, e2 through a tuple -/
section
variable {X : Cx} {fx : Fx} {kd : Kds} {pos : Pos}
theorem parC_rd {K : PySem.W.Frag} {mg : Str → Option Value} {i j : Nat} {k1 k2 : Kd} {g : DA} {D' : L2.Ends} {σ : L2.St} {H : Hp} (hi : i < kd.length) (hj : j < kd.length) (hx : fx.XR kd) (hz : 2 ≤ sizeLine) (q : rdS K mg fx ((kd.set i k1).set j k2) kd (dPar2 i j g) D' σ H) :
    tAsg (tTup (rdK K mg kd fx.W [k1, k2] g)) (gTup K 2 (gCons (gName i) (gCons (gName j) gNil))) D' σ H := by
  obtain ⟨Fs, P, δ, E, q⟩ := q
  refine ⟨Fs, P, δ, E, ?_⟩
  unfold dPar2 at q
  revert q
  cases g δ with
  | no => exact fun q => q
  | exn e δ1 => exact fun q cls dx Fs' P' H' E' s' x => q kd hx cls dx σ Fs' P' H' E' s' x
  | ok ds δ1 =>
    intro q vs Gs Fs1 P1 H1 E1 s1 w
    obtain ⟨d, e, rfl⟩ : ∃ d e, ds = [d, e] := by
      have := w.klen
      match ds, this with
      | [d, e], _ => exact ⟨d, e, rfl⟩
    obtain ⟨v, u, rfl⟩ : ∃ d e, vs = [d, e] := by
      have := w.len
      match vs, this with
      | [d, e], _ => exact ⟨d, e, rfl⟩
    refine ⟨hz, fun p hp => ?_⟩
    have o1 := w.own 0 k1 v d rfl rfl rfl
    have o2 := w.own 1 k2 u e rfl rfl rfl
    have E2 := E1.set hi (w.fr 0) o1
    have f2 : Fr (Gs 1) H (All (upF Fs1 i (Gs 0))) P1 H1 := Fr.setF (K := K) (mg := mg) (w.fr 1) fun a h1 h2 => by have := w.sep 0 1 a h1 h2; cases this
    have E3 := E2.set (by rw [List.length_set]; exact hj) f2 o2
    obtain ⟨h1, h2, h3⟩ := alloc_ow (o := .tup [v, u]) E1.sub hp
    refine ⟨p, [v, u], rfl, SqT.of upd_same, rfl, ?_⟩
    refine ⟨v, [u], rfl, u, [], rfl, rfl, ?_⟩
    exact q _ _ _ _ (E3.grow h1 h2) ((((s1.set (w.fr 0)).set f2)).trans h1.wid)
theorem vs_parC2 (i j : Nat) {k1 k2 : Kd} {x y : Str} {a b : Expr} {g : DA} {px py pt : Pos} {kt c2 pt2} (hN : X.N.Nodup) (ha : VK X kd fx.W [k1, k2] [a, b] g) (hc : X.calm = true := by rfl) (hi : X.N[i]? = some x := by rfl) (hj : X.N[j]? = some y := by rfl)
    (hx : Loc X.env.scope x := by first | exact Or.inl rfl | exact Or.inr rfl) (hy : Loc X.env.scope y := by first | exact Or.inl rfl | exact Or.inr rfl) (hfx : X.fn x = true ∨ X.env.scope.names.lookup x = some .local := by first | exact .inl rfl | exact .inr rfl | assumption) (hfy : X.fn y = true ∨ X.env.scope.names.lookup y = some .local := by first | exact .inl rfl | exact .inr rfl | assumption)
    (hli : i < kd.length := by exact Nat.le_of_ble_eq_true rfl) (hlj : j < kd.length := by exact Nat.le_of_ble_eq_true rfl) (hxr : fx.XR kd := by first | trivial | rfl) (hn : (assignEach [.Name x px, .Name y py] X.env).length = 2 := by rfl) (hst : (assignEach [.Name x px, .Name y py] X.env).findIdx? (·.1) = none := by rfl)
    (c1 : PGs X [.Name x px, .Name y py] (gCons (gName i) (gCons (gName j) gNil))) (hs : swapsWithSole [.Tuple [.Name x px, .Name y py] kt pt] (.Tuple [a, b] c2 pt2) pos.line X.env = pure false := by rfl) (hw : swappedStores [.Tuple [.Name x px, .Name y py] kt pt] (.Tuple [a, b] c2 pt2) X.env = pure none := by rfl)
    (h1 : (assignEach [.Tuple [.Name x px, .Name y py] kt pt] X.env).map (·.2) = [assign (.Tuple [.Name x px, .Name y py] kt pt) X.env] := by rfl) :
    VS X fx kd ((kd.set i k1).set j k2) (.Assign [.Tuple [.Name x px, .Name y py] kt pt] (.Tuple [a, b] c2 pt2) pos) (dPar2 i j g) :=
  PS.imp (ps_asg (pe_tup ha) (pg_tup hc c1 hn hst) hs hw h1) fun _ _ _ q => parC_rd hli hlj hxr (by decide) q
end
end VL
/-! ### isinstance(e, own class) -/
namespace VL
open PySem PySem.Spec PyProof.Rows L2
structure IsCl (K : PySem.W.Frag) (mg : Str → Option Value) (c : Str) (tab : List (Str × Bool)) : Prop where
  ex : ∃ C : Addr, mg c = some (.ref C) ∧ IsiOk K mg [.ref C] [] tab
theorem IsCl.of {K : PySem.W.Frag} {mg : Str → Option Value} {c : Str} {C : Addr} {tab : List (Str × Bool)} (hC : mg c = some (.ref C)) (hb : ∀ a ∈ tyNames, PySem.W.kitAny K (.type a) [.ref C] = some false)
    (ho : ∀ d b, tab.lookup d = some b → ∀ D, mg d = some (.ref D) → InsTy K D ∧ PySem.W.kitAny K (.ref D) [.ref C] = some b) : IsCl K mg c tab :=
  ⟨C, hC, fun a ha => hb a ha, ho⟩
theorem IsCl.nil {K : PySem.W.Frag} {mg : Str → Option Value} {C : Addr} : ∀ (d : Str) (b : Bool), ([] : List (Str × Bool)).lookup d = some b → ∀ D, mg d = some (.ref D) → InsTy K D ∧ PySem.W.kitAny K (.ref D) [.ref C] = some b := fun d b h => by cases h
theorem IsCl.cons {K : PySem.W.Frag} {mg : Str → Option Value} {C E : Addr} {c : Str} {v : Bool} {tab : List (Str × Bool)} (hm : mg c = some (.ref E)) (hi : InsTy K E) (hk : PySem.W.kitAny K (.ref E) [.ref C] = some v) (t : ∀ (d : Str) (b : Bool), tab.lookup d = some b → ∀ D, mg d = some (.ref D) → InsTy K D ∧ PySem.W.kitAny K (.ref D) [.ref C] = some b) :
    ∀ (d : Str) (b : Bool), ((c, v) :: tab).lookup d = some b → ∀ D, mg d = some (.ref D) → InsTy K D ∧ PySem.W.kitAny K (.ref D) [.ref C] = some b := fun d b h D hD => by
  rw [List.lookup_cons] at h
  by_cases q : d = c
  · subst q
    rw [beq_self_eq_true] at h
    simp only [Option.some.injEq] at h
    subst h
    rw [hm] at hD
    cases hD
    exact ⟨hi, hk⟩
  · have e : (d == c) = false := beq_false_of_ne q
    rw [e] at h
    exact t d b h D hD
section
variable {X : Cx} {kd : Kds} {W : WX} {pos p pt : Pos}
theorem ve_isiO {a : Expr} {c : Str} {f : DE} {tab : List (Str × Bool)} (I : IsCl X.K X.mg c tab) (ha : VE X kd W .sh a f) (hm : X.mg "isinstance" = none) (hg : Gl X "isinstance" := by rfl) (hgc : Gl X c := by rfl) (hdc : (c == ("__debug__" : Str)) = false := by decide)
    (he : starEach [a, .Name c pt] X.env = (false, eval a X.env) :: starEach [.Name c pt] X.env := by rfl) (he2 : starEach [.Name c pt] X.env = (false, eval (.Name c pt) X.env) :: starEach [] X.env := by rfl) (hpl : (backTo pos (starEach [.Name c pt] X.env)).any (·.1) = false := by rfl) :
    VE X kd W .sh (.Call (.Name "isinstance" p) [a, .Name c pt] [] pos) (dIsi [] tab f) := by
  obtain ⟨C, hC, ok⟩ := I.ex
  exact ve_isi (c := .ref C) ok (.own C) ha (pe_glob hgc hC rfl hdc) hm hg he he2 hpl
end
end VL

set_option Elab.async false
set_option linter.all false
set_option maxRecDepth 100000
/-! Layer V: own == and != of instances; a test that borrows; -/
namespace VL
open PySem PySem.Spec PyProof.Rows L2
section
variable {M : Model} {prog : Program} {w : World} {A : Around} {E : Value → Shared → Prop} {s : Shared} {K : PySem.W.Frag} {x C f L : Addr} {ox : Obj} {od : Option Obj} {b tb : Value} {h₀ : Heap} {m : Str → Option Value}
theorem ifBound_objNe {args : List Value} {Q : Option Value → Shared → Prop} (X : K.In s.heap) (I : PySem.W.InstAt s.heap x ox C od) (hs : PySem.W.findIn K (.ref C) "__ne__" = some (some (.builtin "object.__ne__")))
    (h : wpAny M A (call (.builtin "object.__ne__") (.ref x :: args)) (fun v => Q (some v)) E s) : wpAny M A (callSpecialIfBound? (.ref x) "__ne__" args) Q E s := by
  simp only [callSpecialIfBound?, bindSpecialIfBound?]
  refine wpAny_holding (wpAny_bind (wpAny_bind (wpAny_bind (I.type.here ((PySem.W.looks_findIn X hs).here ?_)))))
  refine wpAny_bind (wpAny_askSetting (wpAny_ite ?_))
  have fin : wpAny M A (call (.builtin "object.__ne__") ([.ref x] ++ args) >>= fun v => pure (some v)) Q E s := wpAny_bind (wpAny_mono h (fun v s' h' => wpAny_pure h') fun _ _ h' => h')
  split
  · exact wpAny_bind (wpAny_of_eq (F.cmp_object.ne.bind _) (wpAny_pure (by exact fin)))
  · exact wpAny_tryCatch (wpAny_bind (wpAny_of_eq (F.cmp_object.ne.bind _) (wpAny_pure (by exact fin))))
theorem objNe_entryK (X : K.In s.heap) (I : PySem.W.InstAt s.heap x ox C od) (hu : A.units < cLine) (hs : PySem.W.findIn K (.ref C) "__eq__" = some (some (.ref f))) (hf : PySem.W.isFn K (.ref f) = true) {Q : Fin → Shared → Prop}
    (hcall : wpAny (model prog w) A (call (.ref f) [.ref x, b]) (fun v s' => ∃ t, v = .bool t ∧ Q (.done (.ret (.bool (!t)))) s') E s) :
    wpAny (model prog w) A (Builtin.«object.__ne__» ⟨[.ref x, b], []⟩) Q E s := by
  unfold Builtin.«object.__ne__»
  repeat (first
    | with_reducible refine wpAny_cRoomFor hu ?_
    | (refine wpAny_bind (m := callSpecialIfBound? (.ref x) (Str.ofString "__eq__") [b])
        (PySem.W.ifBound_K X I hs hf (wpAny_mono hcall (fun r s' hr => by
          obtain ⟨t, rfl, hq⟩ := hr
          repeat (first | exact hq | exact wpAny_pure hq | exact wpAny_truthy_bool hq | (refine wpAny_bind (m := truthy (.bool _)) (wpAny_truthy_bool ?_)) | wp_step)) fun _ _ e => e)))
    | wp_step)
theorem ne_K (hu : A.units + 1 < cLine) (X : K.In s.heap) (I : PySem.W.InstAt s.heap x ox C od) (hb : PySem.W.Looks (model prog w) s.heap (typeOf b) (.ref C)) (hs : PySem.W.findIn K (.ref C) "__eq__" = some (some (.ref f))) (hf : PySem.W.isFn K (.ref f) = true)
    (hn : PySem.W.findIn K (.ref C) "__ne__" = some (some (.builtin "object.__ne__"))) (hm : PySem.W.mroIn K C (.type "object") = some true) {Q : Value → Shared → Prop}
    (hcall : wpAny (model prog w) A.in1 (call (.ref f) [.ref x, b]) (fun v s' => ∃ t, v = .bool t ∧ Q (.bool (!t)) s') E s) :
    wpAny (model prog w) A (richCompare .NotEq (.ref x) b) Q E s := by
  have one : wpAny (model prog w) A (tryCompare (.ref x) "__ne__" b) (fun r s' => ∃ v, r = some v ∧ Q v s') E s := by
    unfold tryCompare
    refine wpAny_bind (ifBound_objNe X I hn (wpAny_call (codeAny_call_builtin F.cmp_object.ne.plain F.cmpEntry_ne (PySem.W.check_slot F.cmpKind_ne F.cmpSplit_ne (I.type.andThen (PySem.W.looks_mroIn X hm)) (F.cmpArgs_ne _ _)
      (objNe_entryK (A := A.in1) X I hu hs hf (wpAny_mono hcall (fun v s' hv => ?_) fun _ _ e => e))))))
    obtain ⟨t, rfl, hq⟩ := hv
    first | exact ⟨t, rfl, wpAny_pure ⟨_, rfl, hq⟩⟩ | exact ⟨t, rfl, wpAny_pure (wpAny_pure ⟨_, rfl, hq⟩)⟩ | exact ⟨t, rfl, ⟨_, rfl, hq⟩⟩
  unfold richCompare
  simp only [oneThing_ref]
  refine wpAny_holding (wpAny_bind (wpAny_cRoomFor (Nat.lt_of_succ_lt hu) ?_))
  rw [cmpInfo_NotEq]
  dsimp only
  refine wpAny_bind (I.type.here (wpAny_bind (hb.here ?_)))
  rw [show (Value.ref C != Value.ref C) = false from by simp]
  simp only [Bool.false_eq_true, if_false]
  refine wpAny_bind (wpAny_pure ?_)
  simp only [Bool.false_eq_true, if_false]
  refine wpAny_bind (wpAny_mono one (fun r s' z => ?_) fun _ _ e => e)
  obtain ⟨v, rfl, hq⟩ := z
  exact wpAny_pure hq
end
/-- a class of the text with an __eq__ of its own and no __ne__ -/
structure VEq (P : Program) (w : World) (K : PySem.W.Frag) (mg : Str → Option Value) (base : Heap) (lvl : Nat) (c : Str) (fn : List D → FRes) : Prop where
  ex : ∃ (C f : Addr), mg c = some (.ref C) ∧ PySem.W.findIn K (.ref C) "__eq__" = some (some (.ref f)) ∧ PySem.W.isFn K (.ref f) = true ∧ PySem.W.findIn K (.ref C) "__ne__" = some (some (.builtin "object.__ne__")) ∧
    PySem.W.mroIn K C (.type "object") = some true ∧ VFnA P w K mg base lvl f (List.replicate 2 .sh) .sh fn
def rOwnI (K : PySem.W.Frag) (mg : Str → Option Value) (c : Str) (fn : List D → FRes) (neg : Bool) : R2 := fun x y H Q => ∃ C a dx fs b dy gs, mg c = some (.ref C) ∧ x = .ref a ∧ y = .ref b ∧ H a = some (.ins C dx fs) ∧ H b = some (.ins C dy gs) ∧
  spV K mg (List.replicate 2 .sh) .sh fn [x, y] H (fun z H' => ∃ t, z = .bl t ∧ Q (.bl (t != neg)) H') (fun _ _ _ => False)
section
variable {X : Cx} {n : Nat} {c : Str} {fn : List D → FRes}
theorem op_ownEq (V : VEq X.prog X.w X.K X.mg X.base n c fn) (hr : Room (n + 1) X.A) : OpR X (compareOp .Eq) (rOwnI X.K X.mg c fn false) := by
  intro pins s σ H x y v u Q I rx ry h
  obtain ⟨C, a, dx, fs, b, dy, gs, hC, rfl, rfl, ha, hb, q⟩ := h
  obtain ⟨C', f, hC', heq, hf, _, _, hV⟩ := V.ex
  rw [hC] at hC'; cases hC'
  obtain ⟨fd, ps, hk, hbd, F⟩ := hV.ex
  cases rx
  cases ry
  obtain ⟨mA, J, _⟩ := ins_get I.hok ha
  obtain ⟨mB, J', _⟩ := ins_get I.hok hb
  obtain ⟨od, J, _⟩ := J.look
  obtain ⟨od', J', _⟩ := J'.look
  obtain ⟨m, hF⟩ := I.fr
  have F2 := F.raw hbd .nil
  simp only [List.append_nil] at F2
  show wpAny (model X.prog X.w) X.A (richCompare .Eq _ _) (EP X pins σ Q) X.xe s
  refine PySem.W.cmp_K (op := .Eq) (tb := .ref C) (hr.mono (Nat.le_succ n)).units0 hF I.ok.mod.kin J J'.type (by simp [PySem.W.notFirst]) heq hf ?_
  refine wpAny_mono (wpAny_call (run_fnR (E := fun _ _ _ => False) (us := [.ref a, .ref b]) (vs := [.ref a, .ref b]) F2 (hr.mono (Nat.le_succ n)) (fun _ _ _ _ _ _ _ ⟨_, _, _, _, _, _, _, _, _, _, _, _, z⟩ => z.elim) I (.cons rfl (.cons rfl .nil)) q)) (fun w s' z => ?_) fun _ _ x => x
  obtain ⟨z', H', I', rz, t, ez, qz⟩ := z
  subst ez
  cases (show w = Value.bool t from rz)
  exact ⟨.bl t, H', I', rfl, by simpa using qz⟩
theorem op_ownNe (V : VEq X.prog X.w X.K X.mg X.base n c fn) (hr : Room (n + 1) X.A) (hu : X.A.units + 1 < cLine) : OpR X (compareOp .NotEq) (rOwnI X.K X.mg c fn true) := by
  intro pins s σ H x y v u Q I rx ry h
  obtain ⟨C, a, dx, fs, b, dy, gs, hC, rfl, rfl, ha, hb, q⟩ := h
  obtain ⟨C', f, hC', heq, hf, hne, hob, hV⟩ := V.ex
  rw [hC] at hC'; cases hC'
  obtain ⟨fd, ps, hk, hbd, F⟩ := hV.ex
  cases rx
  cases ry
  obtain ⟨mA, J, _⟩ := ins_get I.hok ha
  obtain ⟨mB, J', _⟩ := ins_get I.hok hb
  obtain ⟨od, J, _⟩ := J.look
  obtain ⟨od', J', _⟩ := J'.look
  have F2 := F.raw hbd .nil
  simp only [List.append_nil] at F2
  show wpAny (model X.prog X.w) X.A (richCompare .NotEq _ _) (EP X pins σ Q) X.xe s
  refine ne_K hu I.kIn J J'.type heq hf hne hob ?_
  refine wpAny_mono (wpAny_call (SlX.run_at (E := fun _ _ _ => False) (us := [.ref a, .ref b]) (ws := [.ref a, .ref b]) F2 hr.in1 I.env0.in1 (fun _ _ _ _ _ _ _ ⟨_, _, _, _, _, _, _, _, _, _, _, _, z⟩ => z.elim) I (.cons rfl (.cons rfl .nil)) q)) (fun w s' z => ?_) fun _ _ x => x
  obtain ⟨z', H', I', rz, t, ez, qz⟩ := z
  subst ez
  cases (show w = Value.bool t from rz)
  refine ⟨t, rfl, .bl (!t), H', I', rfl, ?_⟩
  cases t <;> exact qz
end
/-- x == y by the class's own __eq__ -/
def ownEqD (neg : Bool) (c : Str) (fn : List D → FRes) : D → D → Option D
  | .ins c1 f1, .ins c2 f2 => if c1 = c ∧ c2 = c then (match fn [.ins c1 f1, .ins c2 f2] with
    | .ok (.bl b) _ => some (.bl (b != neg))
    | _ => none) else none
  | _, _ => none
theorem d_ownEq {K : PySem.W.Frag} {mg : Str → Option Value} {c : Str} {fn : List D → FRes} {neg : Bool} : OpD K mg (rOwnI K mg c fn neg) .sh (ownEqD neg c fn) := by
  intro P H x y d e z Q hs rx ry ho hq
  cases rx with
  | @ins a C dx c1 fs f1 h1 m1 e1 l1 =>
    cases ry with
    | @ins b C2 dy c2 gs f2 h2 m2 e2 l2 =>
      unfold ownEqD at ho
      by_cases hc : c1 = c ∧ c2 = c
      · obtain ⟨hc1, hc2⟩ := hc
        subst hc1
        subst hc2
        simp only [and_self, if_true] at ho
        rw [m1] at m2
        cases m2
        refine ⟨C, a, dx, fs, b, dy, gs, m1, rfl, rfl, hs.at h1, hs.at h2, fun _ => Non, P, [.ins c2 f1, .ins c2 f2], rfl, ?_, ?_⟩
        · exact envPure hs (.cons (.ins h1 m1 e1 l1) (.cons (.ins h2 m1 e2 l2) .nil))
        · cases ef : fn [.ins c2 f1, .ins c2 f2] with
          | no => rw [ef] at ho; cases ho
          | exn e => rw [ef] at ho; cases ho
          | ok r outs =>
            rw [ef] at ho
            cases r with
            | bl t =>
              simp only [Option.some.injEq] at ho
              subst ho
              intro v Fs' P' H' G E' s' f' o'
              have en : All Fs' = Non := E'.pure_non
              rw [en, all_non] at s'
              rw [en] at f'
              have rv := o'.sh_rep
              cases rv
              exact ⟨t, rfl, hq _ P' H' G s' E'.sub f' ⟨o'.1, .bl _⟩⟩
            | _ => cases ho
      · simp only [if_neg hc] at ho; cases ho
    | _ => cases ho
  | _ => cases ho
/-! ### what is no instance of an own class -/
theorem kitA_ty {K : PySem.W.Frag} {a : String} {C : Addr} (hc : PySem.W.isClsIn K C = true) (ht : PySem.W.typeIn K (.ref C) = some (.type "type")) (hs : PySem.W.subIn K (.type a) (.ref C) = some false) : PySem.W.kitAny K (.type a) [.ref C] = some false := by
  have e : (Value.type a == Value.ref C) = false := beq_eq_false_iff_ne.mpr (fun h => nomatch h)
  have hc' : (PySem.W.clsIn K C).isSome = true := hc
  unfold PySem.W.kitAny PySem.W.kitOne PySem.W.kitCls
  simp only [e, Bool.false_eq_true, if_false, hc', ht, hs, beq_self_eq_true, Bool.and_self, if_true]
  rfl
theorem kitA_self {K : PySem.W.Frag} {C : Addr} : PySem.W.kitAny K (.ref C) [.ref C] = some true := by
  unfold PySem.W.kitAny PySem.W.kitOne
  simp only [beq_self_eq_true, if_true]
theorem kitA_ref {K : PySem.W.Frag} {D C : Addr} (hd : (D == C) = false) (hc : PySem.W.isClsIn K C = true) (ht : PySem.W.typeIn K (.ref C) = some (.type "type")) (hs : PySem.W.subIn K (.ref D) (.ref C) = some false) : PySem.W.kitAny K (.ref D) [.ref C] = some false := by
  have e : (Value.ref D == Value.ref C) = false := beq_eq_false_iff_ne.mpr (fun h => by cases h; simp at hd)
  have hc' : (PySem.W.clsIn K C).isSome = true := hc
  unfold PySem.W.kitAny PySem.W.kitOne PySem.W.kitCls
  simp only [e, Bool.false_eq_true, if_false, hc', ht, hs, beq_self_eq_true, Bool.and_self, if_true]
  rfl
/-! ### the bottom of a recursion: a def that promises nothing -/
theorem vfa_no {P : Program} {w : World} {K : PySem.W.Frag} {mg : Str → Option Value} {base : Heap} {x qual : Str} {st : Stmt} {f : Addr} {fd : FuncData} {ps : List Str} {k : Nat} {kp : Kds} {rk : Kd} (F : Fun K x qual st f fd) (hb : Binds K fd ps []) : VFnA P w K mg base k f kp rk (fun _ => .no) :=
  ⟨fd, ps, F.kp, hb, ⟨fun _ _ _ _ ⟨_, _, _, _, _, z⟩ => z.elim, fun _ _ _ _ _ _ _ _ _ _ _ _ _ ⟨_, _, _, _, _, z⟩ => z.elim⟩⟩
/-! ### a test that borrows -/
def dTBor (f : DT) : DT := fun δ => match f δ with
  | .ok b _ => .ok b δ
  | _ => .no
section
variable {K : PySem.W.Frag} {mg : Str → Option Value} {kd : Kds} {W : WX} {Fs : Nat → AS} {P H : Hp} {σ : L2.St} {δ : Env}
theorem tbor_rd {W' : WX} {f : DT} {Q : Bool → Hp → Prop} (h : rdT K mg kd W (dTBor f) σ H Q) : rdT K mg (List.replicate kd.length .sh) W' f σ H Q := by
  obtain ⟨Fs, P, δ, E, q⟩ := h
  refine ⟨_, _, δ, E.seen, ?_⟩
  unfold dTBor at q
  cases ef : f δ with
  | no => rw [ef] at q; exact q.elim
  | exn e δ1 => rw [ef] at q; exact q.elim
  | ok d δ1 =>
    rw [ef] at q
    intro Fs' P' H' E' s'
    have en : All Fs' = Non := E'.pure_non
    rw [en, all_non] at s'
    have keep : ∀ a o, H a = some o → NoTb o → H' a = some o := fun a o e => s'.keep a o e fun z => z
    have gr : VL.Sub P (cutP P' (All Fs)) := fun a o e => by
      have nm : ¬ All Fs a := fun m => by rw [E.all_out a m] at e; cases e
      rw [cutP_out nm]
      exact s'.grow a o (by rw [add_out nm]; exact e)
    have sb : Lie (cutP P' (All Fs)) H' := fun a o e => by
      by_cases m : All Fs a
      · rw [cutP_in m] at e; cases e
      · rw [cutP_out m] at e; exact E'.sub a o e
    have E2 : EnvR K mg kd Fs (cutP P' (All Fs)) H' σ δ :=
      ⟨sb, fun i e h => (let ⟨u, h1, o⟩ := E.slot i e h; ⟨u, h1, o.stay gr fun a w _ y => keep a w y⟩), E.only, E.sep, fun i a m => ⟨cutP_in ⟨i, m⟩, (let ⟨_, u, hu⟩ := E.out i a m; s'.dom a u hu)⟩, E.len, E.lenK⟩
    have S2 : Stp (All Fs) P H (All Fs) (cutP P' (All Fs)) H' := ⟨fun a o e _ t => keep a o e t, gr, fun a o e => by
      by_cases m : All Fs a
      · exact .inr (.inr m)
      · rw [cutP_out m] at e
        rcases s'.newP a o e with z | z | z
        · rw [add_out m] at z; exact .inl z
        · exact .inr (.inl z)
        · exact z.elim, fun a m => .inl m, s'.dom⟩
    exact q Fs _ H' E2 S2
end
theorem vt_bor {X : Cx} {kd : Kds} {W W' : WX} {e : Expr} {f : DT} (n : Nat) (h : VT X (List.replicate n .sh) W' e f) (hn : kd.length = n := by rfl) : VT X kd W e (dTBor f) := by
  subst hn
  exact PT.imp h fun _ _ _ q => tbor_rd q
end VL

set_option Elab.async false
set_option linter.all false
set_option maxRecDepth 100000
/-! Layer V: list.index and list.extend, min and max of one list or tuple of ints. -/
namespace VL
open PySem PySem.Spec PyProof.Rows L2
/-! ### index -/
def indexD (l : List D) (ds : List D) : Option D := match ds with
  | [.int k] => (intsOf l).bind fun ns => if k ∈ ns then some (.int (ns.idxOf k : Nat)) else none
  | _ => none
def dIndex (f : DE) (g : DA) : DE := fun δ => (f δ).bind fun d δ1 => match d with
  | .lst l => (g δ1).bind fun ds δ2 => lift (indexD l ds) δ2
  | _ => .no
theorem flat_ints (ns : List Int) : (ns.map V.int).all flatV = true := by
  rw [List.all_map]
  exact List.all_eq_true.mpr fun _ _ => rfl
section
variable {K : PySem.W.Frag} {mg : Str → Option Value} {kd : Kds} {W : WX}
theorem index_rd {f : DE} {g : DA} {σ : L2.St} {H : Hp} {Q : L2.VK} (h : rdE K mg kd W .sh (dIndex f g) σ H Q) : tBM K "list" (rIndex K) (rdE K mg kd W .sh f) (rdA K mg kd W g) σ H Q := by
  obtain ⟨Fs, P, δ, E, q⟩ := h
  refine ⟨Fs, P, δ, E, ?_⟩
  have q1 := bindE (k := .sh) q
  revert q1
  cases f δ with
  | no => exact fun q => q
  | exn e δ1 => exact fun q => q
  | ok d δ1 =>
    intro q1 v1 Fs1 P1 H1 G1 E1 s1 f1 o1
    obtain ⟨d', δ1', Fs1', P1', G', E1', s1', f1', o1', q2⟩ := q1 v1 Fs1 P1 H1 G1 E1 s1 f1 o1
    cases d' with
    | lst l =>
      have r1 := o1'.sh_rep
      cases r1 with
      | @lst a vs l h1 l1 =>
        refine ⟨.inl ⟨rfl, vs, SqL.of (E1'.sub.at h1)⟩, Fs1', P1', δ1', E1', ?_⟩
        have q3 := bindA q2
        revert q3
        cases g δ1' with
        | no => exact fun q => q
        | exn e δ1 => exact fun q => q
        | ok ds δ2 =>
          intro q3 us Fs2 P2 H2 E2 s2 r2
          obtain ⟨ds', δ2', Fs2', P2', E2', s2', r2', q4⟩ := q3 us Fs2 P2 H2 E2 s2 r2
          unfold lift at q4
          cases ez : indexD l ds' with
          | none => rw [ez] at q4; exact q4.elim
          | some z =>
            rw [ez] at q4
            unfold indexD at ez
            split at ez
            · rename_i k
              cases e : intsOf l with
              | none => rw [e] at ez; cases ez
              | some ns =>
                rw [e] at ez
                simp only [Option.bind_some] at ez
                by_cases hk : k ∈ ns
                · rw [if_pos hk] at ez
                  cases ez
                  obtain ⟨u, rfl, ru⟩ := ar1 r2'
                  cases ru
                  have hv := ints_rep l1 e
                  subst hv
                  have hi : ns.idxOf k < ns.length := List.idxOf_lt_length_of_mem hk
                  refine ⟨a, ns.map V.int, .int k, ns.idxOf k, .int k, rfl, rfl, SqL.of (E2'.sub.at (s2'.grow _ _ h1)), rfl, flat_ints ns, ?_, ?_, fun m z' hm hz => ?_, ?_⟩
                  · rw [List.getElem?_map, List.getElem?_eq_getElem hi, List.getElem_idxOf hi]
                    rfl
                  · show (k == k) = true
                    exact beq_self_eq_true k
                  · have h2 : m < ns.length := by omega
                    rw [List.getElem?_map, List.getElem?_eq_getElem h2] at hz
                    cases hz
                    have h3 := List.not_of_lt_findIdx (xs := ns) (p := fun a => a == k) (i := m) hm
                    show (ns[m] == k) = false
                    simpa using h3
                  · exact PostE.step E2' Stp.refl E2'.sub Fr.non (Own.sh_of (.int _)) q4
                · rw [if_neg hk] at ez; cases ez
            · cases ez
    | _ => exact q2.elim
end
section
variable {X : Cx} {kd : Kds} {W : WX} {apos cpos p : Pos}
theorem ve_index {o e : Expr} {f : DE} {g : DA} (ho : VE X kd W .sh o f) (ha : VA X kd W [e] g) (hbase : attributeBase o "index" X.env (eval o X.env) = eval o X.env := by rfl)
    (hfew : ((backTo cpos (starEach [e] X.env)).all (fun x => !x.1) && (backToKw cpos (keywordEach [] X.env)).all (fun x => x.1.isSome) && decide (([e] : List Expr).length + ([] : List Keyword).length + (if ([] : List Keyword).isEmpty then 0 else 1) < 30)) = true := by rfl)
    (hline : (apos.endLine == cpos.line) = true := by rfl) (hs : starEach [e] X.env = (false, eval e X.env) :: starEach [] X.env := by rfl) : VE X kd W .sh (.Call (.Attribute o "index" apos) [e] [] cpos) (dIndex f g) :=
  PE.imp (pe_bm PySem.F.plainAttrs_list PySem.F.slot_list_index PySem.F.type_list_index mt_index ho ha hbase hfew hline hs rfl) fun _ _ _ q => index_rd q
end
/-! ### extend -/
def extL (l ds : List D) : Option (D × List D) := match ds with
  | [.lst m] => if l.length + m.length ≤ sizeLine then some (.non, l ++ m) else none
  | _ => none
theorem m_extL {K : PySem.W.Frag} {mg : Str → Option Value} : MetD K mg rExtend extL := by
  intro P H p vs us l ds l' z Q s hp r1 r2 h c
  unfold extL at h
  split at h
  · rename_i m
    by_cases hk : l.length + m.length ≤ sizeLine
    · rw [if_pos hk] at h
      cases h
      obtain ⟨u, rfl, ru⟩ := ar1 r2
      cases ru with
      | @lst b zs m h1 l1 =>
        exact ⟨p, b, vs, zs, rfl, rfl, hp, s.at h1, by rw [r1.length, l1.length]; exact hk, c _ _ .non (r1.append l1)⟩
    · rw [if_neg hk] at h; cases h
  · cases h
section
variable {X : Cx} {kd : Kds} {W : WX} {apos cpos p1 : Pos}
theorem ve_ext (i : Nat) {x : Str} {e : Expr} {f : DA} (he : VA X kd W [e] f) (hk : (kd.at i).strip = .li .sh := by rfl) (hN : X.N[i]? = some x := by rfl) (hv : Vis X.env.scope x := by first | exact Or.inl rfl | exact Or.inr (Or.inl rfl) | exact Or.inr (Or.inr rfl))
    (hd : (x == ("__debug__" : Str)) = false := by decide) (hcd : (x == ("__classdict__" : Str)) = false := by decide) (hbase : attributeBase (.Name x p1) "extend" X.env (eval (.Name x p1) X.env) = eval (.Name x p1) X.env := by rfl)
    (hfew : ((backTo cpos (starEach [e] X.env)).all (fun x => !x.1) && (backToKw cpos (keywordEach [] X.env)).all (fun x => x.1.isSome) && decide (([e] : List Expr).length + ([] : List Keyword).length + (if ([] : List Keyword).isEmpty then 0 else 1) < 30)) = true := by rfl)
    (hline : (apos.endLine == cpos.line) = true := by rfl) (hs : starEach [e] X.env = (false, eval e X.env) :: starEach [] X.env := by rfl) : VE X kd W .sh (.Call (.Attribute (.Name x p1) "extend" apos) [e] [] cpos) (dMet i extL f) := by
  have hm : MtR X "list.extend" rExtend := fun pins s σ H x xs v us Q I r rs q => mt_extend pins s σ H x xs v us Q I r rs q
  exact PE.imp (pe_bm PySem.F.plainAttrs_list PySem.F.slot_list_extend PySem.F.type_list_extend hm (pe_var hN hv hd hcd) he hbase hfew hline hs rfl) fun _ _ _ q => (met_rd m_extL hk q).1
end
/-! ### min, max of one list or tuple of ints -/
def minI (x : Int) (xs : List Int) : Int := xs.foldl (fun a y => if decide (y < a) = true then y else a) x
def maxI (x : Int) (xs : List Int) : Int := xs.foldl (fun a y => if decide (a < y) = true then y else a) x
theorem minI_is : ∀ (x : Int) (xs : List Int), minI x xs ∈ x :: xs ∧ ∀ y ∈ x :: xs, minI x xs ≤ y
  | x, [] => ⟨List.mem_singleton.mpr rfl, fun y hy => by rw [List.mem_singleton.mp hy]; exact Int.le_refl x⟩
  | x, z :: xs => by
    have e : minI x (z :: xs) = minI (if decide (z < x) = true then z else x) xs := rfl
    rw [e]
    by_cases h : z < x
    · rw [if_pos (decide_eq_true h)]
      obtain ⟨h1, h2⟩ := minI_is z xs
      refine ⟨List.mem_cons_of_mem _ h1, fun y hy => ?_⟩
      rcases List.mem_cons.mp hy with q | q
      · have := h2 z (List.mem_cons_self ..); omega
      · exact h2 y q
    · rw [if_neg (by simp [h])]
      obtain ⟨h1, h2⟩ := minI_is x xs
      refine ⟨(List.mem_cons.mp h1).elim (fun q => by rw [q]; exact List.mem_cons_self ..) (fun q => List.mem_cons_of_mem _ (List.mem_cons_of_mem _ q)), fun y hy => ?_⟩
      rcases List.mem_cons.mp hy with q | q
      · rw [q]; exact h2 x (List.mem_cons_self ..)
      · rcases List.mem_cons.mp q with q | q
        · have := h2 x (List.mem_cons_self ..); omega
        · exact h2 y (List.mem_cons_of_mem _ q)
theorem maxI_is : ∀ (x : Int) (xs : List Int), maxI x xs ∈ x :: xs ∧ ∀ y ∈ x :: xs, y ≤ maxI x xs
  | x, [] => ⟨List.mem_singleton.mpr rfl, fun y hy => by rw [List.mem_singleton.mp hy]; exact Int.le_refl x⟩
  | x, z :: xs => by
    have e : maxI x (z :: xs) = maxI (if decide (x < z) = true then z else x) xs := rfl
    rw [e]
    by_cases h : x < z
    · rw [if_pos (decide_eq_true h)]
      obtain ⟨h1, h2⟩ := maxI_is z xs
      refine ⟨List.mem_cons_of_mem _ h1, fun y hy => ?_⟩
      rcases List.mem_cons.mp hy with q | q
      · have := h2 z (List.mem_cons_self ..); omega
      · exact h2 y q
    · rw [if_neg (by simp [h])]
      obtain ⟨h1, h2⟩ := maxI_is x xs
      refine ⟨(List.mem_cons.mp h1).elim (fun q => by rw [q]; exact List.mem_cons_self ..) (fun q => List.mem_cons_of_mem _ (List.mem_cons_of_mem _ q)), fun y hy => ?_⟩
      rcases List.mem_cons.mp hy with q | q
      · rw [q]; exact h2 x (List.mem_cons_self ..)
      · rcases List.mem_cons.mp q with q | q
        · have := h2 x (List.mem_cons_self ..); omega
        · exact h2 y (List.mem_cons_of_mem _ q)
theorem minOf_I (x : Int) (xs : List Int) : PySem.W.minOf x xs = minI x xs := rfl
theorem maxOf_I (x : Int) (xs : List Int) : PySem.W.maxOf x xs = maxI x xs := rfl
def rMinT (K : PySem.W.Frag) : List L2.V → Hp → L2.VK → Prop := fun vs H Q => ∃ (a : Addr) (x : Int) (xs : List Int), vs = [V.ref a] ∧ SqT K H a ((x :: xs).map V.int) ∧ Q (.int (minI x xs)) H
def rMaxT (K : PySem.W.Frag) : List L2.V → Hp → L2.VK → Prop := fun vs H Q => ∃ (a : Addr) (x : Int) (xs : List Int), vs = [V.ref a] ∧ SqT K H a ((x :: xs).map V.int) ∧ Q (.int (maxI x xs)) H
section
variable {X : Cx}
theorem int_of_holds {h : Heap} {v : Value} {i : Int} (H : PySem.W.Holds h v i) : ∃ t, v = .int i t := by
  obtain ⟨as, r⟩ := H
  cases r
  exact ⟨_, rfl⟩
theorem cr_minT (hc : X.calm = true) (hu : X.A.units + 1 < cLine) : CallR X (.builtin "min") (rMinT X.K) := by
  intro pins s σ H vs us Q I r h
  obtain ⟨a, x, xs, rfl, hs, q⟩ := h
  obtain ⟨its, rv, ht, _⟩ := I.tuple hs
  rw [Vals.ref1 r]
  refine PySem.W.min_tuple_datum (α := Int) (x := x) (xs := xs) (I.ok.hd hc) ht (PySem.W.HoldAll.of_ints (by simpa using rv.ints)) (by show X.A.units + 1 + 0 < cLine; omega) fun i v h' tk hi hv hk => ?_
  obtain ⟨t, rfl⟩ := int_of_holds hv
  exact ⟨.int _, H, I.kept hk, ⟨_, rfl⟩, q⟩
theorem cr_maxT (hc : X.calm = true) (hu : X.A.units + 1 < cLine) : CallR X (.builtin "max") (rMaxT X.K) := by
  intro pins s σ H vs us Q I r h
  obtain ⟨a, x, xs, rfl, hs, q⟩ := h
  obtain ⟨its, rv, ht, _⟩ := I.tuple hs
  rw [Vals.ref1 r]
  refine PySem.W.max_tuple_datum (α := Int) (x := x) (xs := xs) (I.ok.hd hc) ht (PySem.W.HoldAll.of_ints (by simpa using rv.ints)) (by show X.A.units + 1 + 0 < cLine; omega) fun i v h' tk hi hv hk => ?_
  obtain ⟨t, rfl⟩ := int_of_holds hv
  exact ⟨.int _, H, I.kept hk, ⟨_, rfl⟩, q⟩
theorem cr_minB (hc : X.calm = true) (hu : X.A.units + 1 < cLine) : CallR X (.builtin "min") (fun vs H Q => rMin X.K vs H Q ∨ rMinT X.K vs H Q) := fun pins s σ H vs us Q I r h => h.elim (cr_min hc pins s σ H vs us Q I r) (cr_minT hc hu pins s σ H vs us Q I r)
theorem cr_maxB (hc : X.calm = true) (hu : X.A.units + 1 < cLine) : CallR X (.builtin "max") (fun vs H Q => rMax X.K vs H Q ∨ rMaxT X.K vs H Q) := fun pins s σ H vs us Q I r h => h.elim (cr_max hc pins s σ H vs us Q I r) (cr_maxT hc hu pins s σ H vs us Q I r)
end
def intsS : D → Option (List Int)
  | .lst l => intsOf l
  | .tup l => intsOf l
  | _ => none
def min1D (ds : List D) : Option D := match ds with
  | [d] => match intsS d with
    | some (x :: xs) => some (.int (minI x xs))
    | _ => none
  | _ => none
def max1D (ds : List D) : Option D := match ds with
  | [d] => match intsS d with
    | some (x :: xs) => some (.int (maxI x xs))
    | _ => none
  | _ => none
theorem a_min1 {K : PySem.W.Frag} {mg : Str → Option Value} : ArD K mg (fun vs H Q => rMin K vs H Q ∨ rMinT K vs H Q) .sh min1D := by
  intro P H vs ds z Q s r h c
  unfold min1D at h
  split at h
  · rename_i d
    split at h
    · rename_i x xs e
      cases h
      obtain ⟨u, rfl, ru⟩ := ar1 r
      cases d with
      | lst l =>
        cases ru with
        | @lst a vs l h1 l1 =>
          have hv := ints_rep l1 e
          subst hv
          refine .inl ⟨a, x :: xs, rfl, SqL.of (s.at h1), Nat.succ_pos _, fun m hm hle => ?_⟩
          have : m = minI x xs := by
            have h2 := minI_is x xs
            have a1 := h2.2 m hm
            have a2 := hle _ h2.1
            omega
          rw [this]
          exact c _ P H Non Stp.refl s Fr.non (Own.sh_of (.int _))
      | tup l =>
        cases ru with
        | @tup a vs l h1 l1 =>
          have hv := ints_rep l1 e
          subst hv
          exact .inr ⟨a, x, xs, rfl, s.sqt h1, c _ P H Non Stp.refl s Fr.non (Own.sh_of (.int _))⟩
      | _ => cases e
    · cases h
  · cases h
theorem a_max1 {K : PySem.W.Frag} {mg : Str → Option Value} : ArD K mg (fun vs H Q => rMax K vs H Q ∨ rMaxT K vs H Q) .sh max1D := by
  intro P H vs ds z Q s r h c
  unfold max1D at h
  split at h
  · rename_i d
    split at h
    · rename_i x xs e
      cases h
      obtain ⟨u, rfl, ru⟩ := ar1 r
      cases d with
      | lst l =>
        cases ru with
        | @lst a vs l h1 l1 =>
          have hv := ints_rep l1 e
          subst hv
          refine .inl ⟨a, x :: xs, rfl, SqL.of (s.at h1), Nat.succ_pos _, fun m hm hle => ?_⟩
          have : m = maxI x xs := by
            have h2 := maxI_is x xs
            have a1 := h2.2 m hm
            have a2 := hle _ h2.1
            omega
          rw [this]
          exact c _ P H Non Stp.refl s Fr.non (Own.sh_of (.int _))
      | tup l =>
        cases ru with
        | @tup a vs l h1 l1 =>
          have hv := ints_rep l1 e
          subst hv
          exact .inr ⟨a, x, xs, rfl, s.sqt h1, c _ P H Non Stp.refl s Fr.non (Own.sh_of (.int _))⟩
      | _ => cases e
    · cases h
  · cases h
section
variable {X : Cx} {kd : Kds} {W : WX} {pos p : Pos} {a : Expr} {f : DE}
theorem ve_min1 (hu : X.A.units + 1 < cLine) (ha : VE X kd W .sh a f) (hm : X.mg "min" = none) (hc : X.calm = true := by rfl) (hg : Gl X "min" := by rfl) (h1 : S1 X a := by rfl) : VE X kd W .sh (.Call (.Name "min" p) [a] [] pos) (dAr min1D (dCons f dNil)) := ve_callB (cr_minB hc hu) a_min1 hm (by decide +kernel) (va1 ha h1) hg (by decide) (by decide) h1 rfl
theorem ve_max1 (hu : X.A.units + 1 < cLine) (ha : VE X kd W .sh a f) (hm : X.mg "max" = none) (hc : X.calm = true := by rfl) (hg : Gl X "max" := by rfl) (h1 : S1 X a := by rfl) : VE X kd W .sh (.Call (.Name "max" p) [a] [] pos) (dAr max1D (dCons f dNil)) := ve_callB (cr_maxB hc hu) a_max1 hm (by decide +kernel) (va1 ha h1) hg (by decide) (by decide) h1 rfl
end
end VL

set_option Elab.async false
set_option linter.all false
set_option maxRecDepth 100000
/-! Reading denotations: lemmas for simp, loops and comprehensions by an invariant, the pen. -/
namespace VL
open PySem PySem.Spec PyProof.Rows L2
/-! ### the pen -/
def kCells : Key := Sum.inr "cells"
def kAt : Key := Sum.inr "at"
def kDig : Key := Sum.inr "digits"
def kCount : Key := Sum.inr "count"
def kFold : Key := Sum.inr "fold"
def penL (cells : List Int) (at_ dg cnt fold : Int) : List (Key × D) := [(kCells, .lst (cells.map .int)), (kAt, .int at_), (kDig, .int dg), (kCount, .int cnt), (kFold, .int fold)]
variable {cells : List Int} {a d c f : Int} {v : D}
@[simp] theorem key_cells : keyOf (.str "cells") = some kCells := rfl
@[simp] theorem key_at : keyOf (.str "at") = some kAt := rfl
@[simp] theorem key_dig : keyOf (.str "digits") = some kDig := rfl
@[simp] theorem key_count : keyOf (.str "count") = some kCount := rfl
@[simp] theorem key_fold : keyOf (.str "fold") = some kFold := rfl
@[simp] theorem get_cells : getKV (penL cells a d c f) kCells = some (.lst (cells.map .int)) := rfl
@[simp] theorem get_at : getKV (penL cells a d c f) kAt = some (.int a) := rfl
@[simp] theorem get_dig : getKV (penL cells a d c f) kDig = some (.int d) := rfl
@[simp] theorem get_count : getKV (penL cells a d c f) kCount = some (.int c) := rfl
@[simp] theorem get_fold : getKV (penL cells a d c f) kFold = some (.int f) := rfl
@[simp] theorem put_at {i : Int} : putKV (penL cells a d c f) kAt (.int i) = penL cells i d c f := rfl
@[simp] theorem put_dig {i : Int} : putKV (penL cells a d c f) kDig (.int i) = penL cells a i c f := rfl
@[simp] theorem put_count {i : Int} : putKV (penL cells a d c f) kCount (.int i) = penL cells a d i f := rfl
@[simp] theorem put_fold {i : Int} : putKV (penL cells a d c f) kFold (.int i) = penL cells a d c i := rfl
end VL

set_option Elab.async false
set_option linter.all false
set_option maxRecDepth 100000
namespace VL
open PySem PySem.Spec PyProof.Rows L2
@[simp] theorem e_dSeq {g h : DS} {δ : Env} : dSeq g h δ = match g δ with | .next δ' => h δ' | r => r := rfl
@[simp] theorem e_dSkip {δ : Env} : dSkip δ = .next δ := rfl
@[simp] theorem e_dNo {δ : Env} : dNo δ = .no := rfl
@[simp] theorem e_dBrk {δ : Env} : dBrk δ = .brk δ := rfl
@[simp] theorem e_dCont {δ : Env} : dCont δ = .cont δ := rfl
@[simp] theorem e_dRetN {δ : Env} : dRetN δ = .ret .non δ := rfl
@[simp] theorem e_dRet {f : DE} {δ : Env} : dRet f δ = (f δ).stm fun d δ1 => .ret d δ1 := rfl
@[simp] theorem e_dExpr {f : DE} {δ : Env} : dExpr f δ = (f δ).stm fun _ δ1 => .next δ1 := rfl
@[simp] theorem e_dIf {c : DT} {g h : DS} {δ : Env} : dIf c g h δ = (c δ).stm fun b δ1 => if b = true then g δ1 else h δ1 := rfl
@[simp] theorem e_dSet {i : Nat} {f : DE} {δ : Env} : dSet i f δ = (f δ).stm fun d δ1 => .next (δ1.set i (some d)) := rfl
@[simp] theorem e_dAsg {f : DE} {s : D → Env → Res Unit} {δ : Env} : dAsg f s δ = (f δ).stm fun d δ1 => (s d δ1).stm fun _ δ2 => .next δ2 := rfl
@[simp] theorem e_stm_ok {α : Type} {a : α} {δ : Env} {f : α → Env → SRes} : (Res.ok a δ).stm f = f a δ := rfl
@[simp] theorem e_stm_no {α : Type} {f : α → Env → SRes} : (Res.no : Res α).stm f = .no := rfl
@[simp] theorem e_bind_ok {α β : Type} {a : α} {δ : Env} {f : α → Env → Res β} : (Res.ok a δ).bind f = f a δ := rfl
@[simp] theorem e_bind_no {α β : Type} {f : α → Env → Res β} : (Res.no : Res α).bind f = .no := rfl
@[simp] theorem e_dC {d : D} {δ : Env} : dC d δ = .ok d δ := rfl
@[simp] theorem e_dVar {i : Nat} {δ : Env} : dVar i δ = match δ[i]? with | some (some d) => .ok d δ | _ => .no := rfl
@[simp] theorem e_dBin {op : D → D → Option D} {f g : DE} {δ : Env} : dBin op f g δ = (f δ).bind fun d δ1 => (g δ1).bind fun e δ2 => lift (op d e) δ2 := rfl
@[simp] theorem e_dUn {op : D → Option D} {f : DE} {δ : Env} : dUn op f δ = (f δ).bind fun d δ1 => lift (op d) δ1 := rfl
@[simp] theorem e_dAr {op : List D → Option D} {f : DA} {δ : Env} : dAr op f δ = (f δ).bind fun d δ1 => lift (op d) δ1 := rfl
@[simp] theorem e_lift_some {d : D} {δ : Env} : lift (some d) δ = .ok d δ := rfl
@[simp] theorem e_lift_none {δ : Env} : lift none δ = .no := rfl
@[simp] theorem e_dNil {δ : Env} : dNil δ = .ok [] δ := rfl
@[simp] theorem e_dCons {f : DE} {g : DA} {δ : Env} : dCons f g δ = (f δ).bind fun d δ1 => (g δ1).bind fun ds δ2 => .ok (d :: ds) δ2 := rfl
@[simp] theorem e_dTst {tr : D → Option Bool} {f : DE} {δ : Env} : dTst tr f δ = (f δ).bind fun d δ1 => match tr d with | some b => .ok b δ1 | none => .no := rfl
@[simp] theorem e_dAnd {f g : DT} {δ : Env} : dAnd f g δ = (f δ).bind fun b δ1 => if b = true then g δ1 else .ok false δ1 := rfl
@[simp] theorem e_dOr {f g : DT} {δ : Env} : dOr f g δ = (f δ).bind fun b δ1 => if b = true then .ok true δ1 else g δ1 := rfl
@[simp] theorem e_dNot {f : DT} {δ : Env} : dNot f δ = (f δ).bind fun b δ1 => .ok (!b) δ1 := rfl
@[simp] theorem e_dAndV {f g : DE} {δ : Env} : dAndV f g δ = (f δ).bind fun d δ1 => match truth d with | some true => g δ1 | some false => .ok d δ1 | none => .no := rfl
@[simp] theorem e_dOrV {f g : DE} {δ : Env} : dOrV f g δ = (f δ).bind fun d δ1 => match truth d with | some true => .ok d δ1 | some false => g δ1 | none => .no := rfl
@[simp] theorem e_dNotV {f : DE} {δ : Env} : dNotV f δ = (f δ).bind fun d δ1 => match truth d with | some b => .ok (.bl (!b)) δ1 | none => .no := rfl
@[simp] theorem e_dIte {t : DT} {f g : DE} {δ : Env} : dIte t f g δ = (t δ).bind fun b δ1 => if b = true then f δ1 else g δ1 := rfl
@[simp] theorem e_dChain {op op' : D → D → Option D} {f g h : DE} {δ : Env} : dChain op op' f g h δ = (f δ).bind fun d δ1 => (g δ1).bind fun e δ2 => match op d e with
  | some (.bl true) => (h δ2).bind fun c δ3 => lift (op' e c) δ3
  | some (.bl false) => .ok (.bl false) δ2
  | _ => .no := rfl
@[simp] theorem e_asB {b : Bool} : asB (.bl b) = some b := rfl
@[simp] theorem e_truth_non : truth .non = some false := rfl
@[simp] theorem e_truth_bl {b : Bool} : truth (.bl b) = some b := rfl
@[simp] theorem e_truth_int {i : Int} : truth (.int i) = some (i != 0) := rfl
@[simp] theorem e_truth_lst {l : List D} : truth (.lst l) = some (!l.isEmpty) := rfl
@[simp] theorem e_truth_tup {l : List D} : truth (.tup l) = some (!l.isEmpty) := rfl
@[simp] theorem e_add {i j : Int} : add4D (.int i) (.int j) = some (.int (i + j)) := rfl
@[simp] theorem e_sub {i j : Int} : subD (.int i) (.int j) = some (.int (i - j)) := rfl
@[simp] theorem e_neg {i : Int} : negD (.int i) = some (.int (-i)) := rfl
@[simp] theorem e_cmp {p : Int → Int → Bool} {i j : Int} : cmpD p (.int i) (.int j) = some (.bl (p i j)) := rfl
theorem e_mul {i j : Int} (h : i.natAbs.log2 + j.natAbs.log2 < 1000000) : mulD (.int i) (.int j) = some (.int (i * j)) := by
  simp only [mulD, if_pos h]
theorem e_div {i j : Int} (h : 0 < j) (h2 : j.natAbs.log2 < 9000) : divD (.int i) (.int j) = some (.int (i / j)) := by
  simp only [divD, if_pos (And.intro h h2)]
theorem e_mod {i j : Int} (h : 0 < j) : modD (.int i) (.int j) = some (.int (i % j)) := by
  simp only [modD, if_pos h]
theorem e_pow {i j : Int} (h : 0 ≤ j ∧ j ≤ 1000000 ∧ i.natAbs < 2 ^ 64) : powD (.int i) (.int j) = some (.int (i ^ j.toNat)) := by
  simp only [powD, if_pos h]
@[simp] theorem e_int {i : Int} : intD [.int i] = some (.int i) := rfl
@[simp] theorem e_int_bl {b : Bool} : intD [.bl b] = some (.int (if b then 1 else 0)) := rfl
@[simp] theorem e_lenL {l : List D} : lenD [.lst l] = some (.int l.length) := rfl
@[simp] theorem e_lenT {l : List D} : lenD [.tup l] = some (.int l.length) := rfl
@[simp] theorem e_eq_int {i j : Int} : eqD false (.int i) (.int j) = some (.bl (i == j)) := rfl
@[simp] theorem e_ne_int {i j : Int} : eqD true (.int i) (.int j) = some (.bl (!(i == j))) := rfl
/-- small ints have small logs -/
theorem log_small {i : Int} {n : Nat} (h : i.natAbs < 2 ^ n) (hn : 0 < n) : i.natAbs.log2 < n := by
  by_cases z : i.natAbs = 0
  · rw [z]; simpa using hn
  · exact (Nat.log2_lt z).mpr h
@[simp] theorem e_dDPut {i : Nat} {f g : DE} {δ : Env} : dDPut i f g δ = (f δ).stm fun d δ1 => match slotD δ1 i with
  | none => .no
  | some _ => (g δ1).stm fun k δ2 => match slotD δ2 i, keyOf k with
    | some l, some k => if l.length < sizeLine then .next (δ2.set i (some (.dct (putKV l k d)))) else .no
    | _, _ => .no := rfl
@[simp] theorem e_slotD0 {l : List (Key × D)} {r : Env} : slotD (some (.dct l) :: r) 0 = some l := rfl
@[simp] theorem pen_len {cells : List Int} {a d c f : Int} : ((penL cells a d c f).length < sizeLine) = True := by
  have : (penL cells a d c f).length = 5 := rfl
  rw [this]
  exact eq_true (by decide)
end VL

set_option Elab.async false
set_option linter.all false
set_option maxRecDepth 100000
/-! Loops and comprehensions of denotations, by an invariant. -/
namespace VL
open PySem PySem.Spec PyProof.Rows L2
theorem forD_gen {s : D → Env → Option Env} {body : DS} (R : SRes → Prop) (Inv : Nat → Env → Prop) : ∀ (xs : List D) (i : Nat) (δ : Env), Inv i δ →
    (∀ j d δ, xs[j]? = some d → Inv (i + j) δ → ∃ δ1, s d δ = some δ1 ∧ ((∃ δ2, (body δ1 = .next δ2 ∨ body δ1 = .cont δ2) ∧ Inv (i + j + 1) δ2) ∨ (∃ d δ2, body δ1 = .ret d δ2 ∧ R (.ret d δ2)) ∨ ∃ δ2, body δ1 = .brk δ2 ∧ R (.next δ2))) →
    (∀ δ, Inv (i + xs.length) δ → R (.next δ)) → R (forD s body xs δ)
  | [], i, δ, h, _, e => e δ h
  | x :: xs, i, δ, h, st, e => by
    obtain ⟨δ1, h1, h2⟩ := st 0 x δ rfl h
    unfold forD
    rw [h1]
    simp only
    rcases h2 with ⟨δ2, h3, h4⟩ | ⟨d, δ2, h3, h4⟩ | ⟨δ2, h3, h4⟩
    · have ih := forD_gen R Inv xs (i + 1) δ2 h4 (fun j d δ a b => by
        have := st (j + 1) d δ (by simpa using a) (by rw [show i + (j + 1) = i + 1 + j by omega]; exact b)
        rwa [show i + (j + 1) + 1 = i + 1 + j + 1 by omega] at this) (fun δ b => e δ (by rw [List.length_cons, show i + (xs.length + 1) = i + 1 + xs.length by omega]; exact b))
      rcases h3 with h3 | h3 <;> (rw [h3]; exact ih)
    · rw [h3]; exact h4
    · rw [h3]; exact h4
/-- a loop that runs through -/
theorem forD_inv {s : D → Env → Option Env} {body : DS} (Inv : Nat → Env → Prop) (xs : List D) (δ : Env) (h0 : Inv 0 δ)
    (step : ∀ j d δ, xs[j]? = some d → Inv j δ → ∃ δ1, s d δ = some δ1 ∧ ∃ δ2, (body δ1 = .next δ2 ∨ body δ1 = .cont δ2) ∧ Inv (j + 1) δ2) : ∃ δ', forD s body xs δ = .next δ' ∧ Inv xs.length δ' :=
  forD_gen (fun r => ∃ δ', r = .next δ' ∧ Inv xs.length δ') Inv xs 0 δ h0 (fun j d δ a b => by
    obtain ⟨δ1, h1, δ2, h2, h3⟩ := step j d δ a (by simpa using b)
    exact ⟨δ1, h1, .inl ⟨δ2, h2, by simpa using h3⟩⟩) (fun δ h => ⟨δ, rfl, by simpa using h⟩)
theorem lcD_inv {vs : List Nat} {s : D → Env → Option Env} {t : DT} {f : DE} (Inv : Nat → List D → Env → Prop) : ∀ (xs : List D) (i : Nat) (acc : List D) (δ : Env), Inv i acc δ →
    (∀ j d acc δ, xs[j]? = some d → Inv (i + j) acc δ → ∃ δ1, s d δ = some δ1 ∧ ∃ b δ2, t δ1 = .ok b δ2 ∧ (b = true → ∃ z δ3, f δ2 = .ok z δ3 ∧ acc.length < sizeLine ∧ Inv (i + j + 1) (acc ++ [z]) (wipeD δ3 vs)) ∧ (b = false → Inv (i + j + 1) acc (wipeD δ2 vs))) →
    ∃ l δe, lcD vs s t f xs acc δ = .ok l δe ∧ Inv (i + xs.length) l δe
  | [], i, acc, δ, h, _ => ⟨acc, δ, rfl, h⟩
  | x :: xs, i, acc, δ, h, st => by
    obtain ⟨δ1, h1, b, δ2, h2, h3, h4⟩ := st 0 x acc δ rfl h
    have next : ∀ acc' δ', Inv (i + 1) acc' δ' → ∃ l δe, lcD vs s t f xs acc' δ' = .ok l δe ∧ Inv (i + (x :: xs).length) l δe := fun acc' δ' h' => by
      obtain ⟨l, δe, e1, e2⟩ := lcD_inv Inv xs (i + 1) acc' δ' h' fun j d acc δ a b => by
        have := st (j + 1) d acc δ (by simpa using a) (by rw [show i + (j + 1) = i + 1 + j by omega]; exact b)
        rwa [show i + (j + 1) + 1 = i + 1 + j + 1 by omega] at this
      exact ⟨l, δe, e1, by rw [List.length_cons, show i + (xs.length + 1) = i + 1 + xs.length by omega]; exact e2⟩
    unfold lcD
    rw [h1]
    simp only [h2]
    cases b with
    | true =>
      obtain ⟨z, δ3, h5, h6, h7⟩ := h3 rfl
      simp only [if_true, h5, if_pos h6]
      exact next _ _ h7
    | false =>
      simp only [Bool.false_eq_true, if_false]
      exact next _ _ (h4 rfl)
/-- a comprehension that changes nothing -/
theorem lcD_pure {vs : List Nat} {s : D → Env → Option Env} {t : DT} {f : DE} {δ : Env} (p : D → Bool) (g : D → D) {xs : List D} (hl : xs.length ≤ sizeLine)
    (h : ∀ d ∈ xs, ∃ δ1, s d δ = some δ1 ∧ t δ1 = .ok (p d) δ1 ∧ (p d = true → f δ1 = .ok (g d) δ1) ∧ wipeD δ1 vs = δ) : lcD vs s t f xs [] δ = .ok ((xs.filter p).map g) δ := by
  have key : ∀ (xs acc : List D), acc.length + xs.length ≤ sizeLine → (∀ d ∈ xs, ∃ δ1, s d δ = some δ1 ∧ t δ1 = .ok (p d) δ1 ∧ (p d = true → f δ1 = .ok (g d) δ1) ∧ wipeD δ1 vs = δ) → lcD vs s t f xs acc δ = .ok (acc ++ (xs.filter p).map g) δ := by
    intro xs
    induction xs with
    | nil => intro acc _ _; simp [lcD]
    | cons x xs ih =>
      intro acc hz hx
      obtain ⟨δ1, h1, h2, h3, h4⟩ := hx x (List.mem_cons_self ..)
      rw [List.length_cons] at hz
      unfold lcD
      rw [h1]
      simp only [h2]
      cases hp : p x with
      | true =>
        simp only [if_true, h3 hp, if_pos (show acc.length < sizeLine by omega), h4]
        rw [ih (acc ++ [g x]) (by rw [List.length_append, List.length_singleton]; omega) fun d hd => hx d (List.mem_cons_of_mem _ hd)]
        simp [hp]
      | false =>
        simp only [Bool.false_eq_true, if_false, h4]
        rw [ih acc (by omega) fun d hd => hx d (List.mem_cons_of_mem _ hd)]
        simp [hp]
  simpa using key xs [] (by simpa using hl) h
theorem lcD_map {vs : List Nat} {s : D → Env → Option Env} {f : DE} {δ : Env} (g : D → D) {xs : List D} (hl : xs.length ≤ sizeLine)
    (h : ∀ d ∈ xs, ∃ δ1, s d δ = some δ1 ∧ f δ1 = .ok (g d) δ1 ∧ wipeD δ1 vs = δ) : lcD vs s dYes f xs [] δ = .ok (xs.map g) δ := by
  have := lcD_pure (t := dYes) (f := f) (vs := vs) (s := s) (fun _ => true) g hl fun d hd => by
    obtain ⟨δ1, h1, h2, h3⟩ := h d hd
    exact ⟨δ1, h1, rfl, fun _ => h2, h3⟩
  rw [this, List.filter_eq_self.mpr fun _ _ => rfl]
theorem sizeLine_big : 1000000 ≤ sizeLine := by decide
@[simp] theorem e_dYes {δ : Env} : dYes δ = .ok true δ := rfl
@[simp] theorem e_gV {i : Nat} {d : D} {δ : Env} : gV i d δ = some (δ.set i (some d)) := rfl
@[simp] theorem e_dFor {f : DA} {s : D → Env → Option Env} {body : DS} {δ : Env} : dFor f s body δ = (f δ).stm fun xs δ1 => forD s body xs δ1 := rfl
@[simp] theorem e_dLc {vs : List Nat} {g : DA} {s : D → Env → Option Env} {t : DT} {f : DE} {δ : Env} : dLc vs g s t f δ = (g δ).bind fun xs δ1 => match lcD vs s t f xs [] (wipeD δ1 vs) with | .ok l δ2 => .ok (.lst l) (backD δ1 δ2 vs) | _ => .no := rfl
@[simp] theorem e_dSeqI {f : DE} {δ : Env} : dSeqI f δ = (f δ).bind fun d δ1 => match itemsD d with | some xs => .ok xs δ1 | none => .no := rfl
@[simp] theorem e_items_lst {l : List D} : itemsD (.lst l) = some l := rfl
@[simp] theorem e_items_tup {l : List D} : itemsD (.tup l) = some l := rfl
@[simp] theorem e_items_frz {l : List D} : itemsD (.frz l) = some l := rfl
theorem e_rng1 {f : DA} {δ δ1 : Env} {i : Int} (h : f δ = .ok [.int i] δ1) (h1 : -(2 ^ 62) ≤ i) (h2 : i < 2 ^ 62) : dRng1 f δ = .ok (rangeD 0 i) δ1 := by
  unfold dRng1
  rw [h]
  have : big62 i = true := decide_eq_true ⟨h1, h2⟩
  simp [int1, this]
theorem e_rng2 {f : DA} {δ δ1 : Env} {i j : Int} (h : f δ = .ok [.int i, .int j] δ1) (h1 : -(2 ^ 62) ≤ i) (h2 : i < 2 ^ 62) (h3 : -(2 ^ 62) ≤ j) (h4 : j < 2 ^ 62) : dRng2 f δ = .ok (rangeD i j) δ1 := by
  unfold dRng2
  rw [h]
  have a : big62 i = true := decide_eq_true ⟨h1, h2⟩
  have b : big62 j = true := decide_eq_true ⟨h3, h4⟩
  simp [int2, a, b]
theorem rangeD_nat (n : Nat) : rangeD 0 n = (List.range n).map fun i : Nat => D.int i := by
  unfold rangeD
  simp
theorem dLstD_ok {l : List D} (h : l.length ≤ 1000000) : dLstD l = some (.lst l) := if_pos (Nat.le_trans h sizeLine_big)
theorem dTupD_ok {l : List D} (h : l.length ≤ 1000000) : dTupD l = some (.tup l) := if_pos (Nat.le_trans h sizeLine_big)
/-! ### a def's worth from its body's end -/
theorem dFnIO_ret {kp : Kds} {rk : Kd} {n : Nat} {g : DS} {ds : List D} {d p : D} {r δ δ0 : Env} (h0 : ds.map some ++ List.replicate (n - ds.length) none = δ0) (h : g δ0 = .ret d δ) (ho : outsOf kp ds δ = some p :: r) : dFnIO kp rk n g ds = .ok d (some p :: r) := by
  unfold dFnIO dFn
  rw [h0, h]
  simp only [ho]
theorem dFn_ret {kp : Kds} {rk : Kd} {n : Nat} {g : DS} {ds : List D} {d : D} {δ δ0 : Env} (h0 : ds.map some ++ List.replicate (n - ds.length) none = δ0) (h : g δ0 = .ret d δ) : dFn kp rk n g ds = .ok d (outsOf kp ds δ) := by
  unfold dFn
  rw [h0, h]
theorem dFn_next {kp : Kds} {n : Nat} {g : DS} {ds : List D} {δ δ0 : Env} (h0 : ds.map some ++ List.replicate (n - ds.length) none = δ0) (h : g δ0 = .next δ) : dFn kp .sh n g ds = .ok .non (outsOf kp ds δ) := by
  unfold dFn
  rw [h0, h]
  rfl
theorem dFnIO_next {kp : Kds} {n : Nat} {g : DS} {ds : List D} {p : D} {r δ δ0 : Env} (h0 : ds.map some ++ List.replicate (n - ds.length) none = δ0) (h : g δ0 = .next δ) (ho : outsOf kp ds δ = some p :: r) : dFnIO kp .sh n g ds = .ok .non (some p :: r) := by
  unfold dFnIO dFn
  rw [h0, h]
  simp only [Kd.isSh, if_true, ho]
theorem rgOk_small {s : Nat} (hs : s < 1000000) : rgOkB 0 (s : Int) = true := by
  have h1 : ((s : Int) - 0).toNat ≤ 2 ^ 24 := Nat.le_trans (m := 1000000) (by omega) (by decide)
  have h2 : (s : Int) < 2 ^ 62 := by omega
  have h3 : -(2 ^ 62 : Int) ≤ s := by omega
  have h4 : -(2 ^ 62 : Int) ≤ 0 := by decide
  have h5 : (0 : Int) < 2 ^ 62 := by decide
  simp only [rgOkB, decide_eq_true_eq]
  exact ⟨h4, h5, h3, h2, h1⟩
theorem dLRg1_ok {f : DE} {δ δ1 : Env} {b : Int} (hf : f δ = .ok (.int b) δ1) (hb : rgOkB 0 b = true) : dLRg1 f δ = .ok (.lst (rangeD 0 b)) δ1 := by
  unfold dLRg1
  rw [hf]
  exact if_pos hb
theorem e_rep {l : List D} {k : Int} (h : -(2 ^ 63) ≤ k ∧ k < 2 ^ 63 ∧ l.length * k.toNat ≤ sizeLine) : repD (.lst l) (.int k) = some (.lst (List.replicate k.toNat l).flatten) := by
  simp only [repD, if_pos h]
theorem rep1_ok {d : D} {s : Nat} (h : s < 1000000) : repD (.lst [d]) (.int (s : Nat)) = some (.lst (List.replicate s d)) := by
  have hz := sizeLine_big
  rw [e_rep ⟨by omega, by omega, by rw [List.length_singleton, Int.toNat_natCast]; omega⟩, Int.toNat_natCast]
  congr 2
  clear h
  induction s with
  | zero => rfl
  | succ n ih => rw [List.replicate_succ, List.flatten_cons, ih, List.replicate_succ]; rfl
/-! ### steps -/
theorem seq_next {g h : DS} {δ δ' : Env} (e : g δ = .next δ') : dSeq g h δ = h δ' := by rw [e_dSeq, e]
theorem seq_ret {g h : DS} {δ δ' : Env} {d : D} (e : g δ = .ret d δ') : dSeq g h δ = .ret d δ' := by rw [e_dSeq, e]
theorem set_ok {i : Nat} {f : DE} {δ δ1 : Env} {d : D} (e : f δ = .ok d δ1) : dSet i f δ = .next (δ1.set i (some d)) := by rw [e_dSet, e]; rfl
theorem ret_ok {f : DE} {δ δ1 : Env} {d : D} (e : f δ = .ok d δ1) : dRet f δ = .ret d δ1 := by rw [e_dRet, e]; rfl
theorem for_ok {f : DA} {s : D → Env → Option Env} {b : DS} {δ δ1 δ' : Env} {xs : List D} (e : f δ = .ok xs δ1) (h : forD s b xs δ1 = .next δ') : dFor f s b δ = .next δ' := by rw [e_dFor, e]; exact h
theorem lc_ok {vs : List Nat} {g : DA} {s : D → Env → Option Env} {t : DT} {f : DE} {δ δ1 δ2 : Env} {xs l : List D} (e : g δ = .ok xs δ1) (h : lcD vs s t f xs [] (wipeD δ1 vs) = .ok l δ2) : dLc vs g s t f δ = .ok (.lst l) (backD δ1 δ2 vs) := by
  rw [e_dLc, e, e_bind_ok, h]
theorem if_t {c : DT} {g h : DS} {δ δ1 : Env} (e : c δ = .ok true δ1) : dIf c g h δ = g δ1 := by rw [e_dIf, e]; rfl
theorem if_f {c : DT} {g h : DS} {δ δ1 : Env} (e : c δ = .ok false δ1) : dIf c g h δ = h δ1 := by rw [e_dIf, e]; rfl
theorem asg_ok {f : DE} {s : D → Env → Res Unit} {δ δ1 δ2 : Env} {d : D} (e : f δ = .ok d δ1) (h : s d δ1 = .ok () δ2) : dAsg f s δ = .next δ2 := by rw [e_dAsg, e, e_stm_ok, h]; rfl
theorem cons_ok {f : DE} {g : DA} {δ δ1 δ2 : Env} {d : D} {ds : List D} (e : f δ = .ok d δ1) (h : g δ1 = .ok ds δ2) : dCons f g δ = .ok (d :: ds) δ2 := by rw [e_dCons, e, e_bind_ok, h]; rfl
theorem par2_ok {i j : Nat} {g : DA} {δ δ1 : Env} {d e : D} (h : g δ = .ok [d, e] δ1) : dPar2 i j g δ = .next ((δ1.set i (some d)).set j (some e)) := by unfold dPar2; rw [h]; rfl
theorem par3_ok {i j l : Nat} {g : DA} {δ δ1 : Env} {d e f : D} (h : g δ = .ok [d, e, f] δ1) : dPar3 i j l g δ = .next (((δ1.set i (some d)).set j (some e)).set l (some f)) := by unfold dPar3; rw [h]; rfl
theorem ar_ok {op : List D → Option D} {f : DA} {δ δ1 : Env} {ds : List D} {d : D} (e : f δ = .ok ds δ1) (h : op ds = some d) : dAr op f δ = .ok d δ1 := by rw [e_dAr, e, e_bind_ok, h]; rfl
theorem bin_ok {op : D → D → Option D} {f g : DE} {δ δ1 δ2 : Env} {a b d : D} (e : f δ = .ok a δ1) (h : g δ1 = .ok b δ2) (k : op a b = some d) : dBin op f g δ = .ok d δ2 := by rw [e_dBin, e, e_bind_ok, h, e_bind_ok, k]; rfl
theorem tst_ok {tr : D → Option Bool} {f : DE} {δ δ1 : Env} {d : D} {b : Bool} (e : f δ = .ok d δ1) (h : tr d = some b) : dTst tr f δ = .ok b δ1 := by rw [e_dTst, e, e_bind_ok, h]
theorem ite_t {t : DT} {f g : DE} {δ δ1 : Env} (e : t δ = .ok true δ1) : dIte t f g δ = f δ1 := by rw [e_dIte, e, e_bind_ok]; rfl
theorem ite_f {t : DT} {f g : DE} {δ δ1 : Env} (e : t δ = .ok false δ1) : dIte t f g δ = g δ1 := by rw [e_dIte, e, e_bind_ok]; rfl
theorem app_ok {i : Nat} {f : DE} {δ δ1 : Env} {l0 l : List D} {d : D} (h0 : slotL δ i = some l0) (e : f δ = .ok d δ1) (h : slotL δ1 i = some l) (hl : l.length < 1000000) : dApp i f δ = .next (δ1.set i (some (.lst (l ++ [d])))) := by
  unfold dApp
  rw [h0]
  simp only [e, e_stm_ok, h, if_pos (Nat.lt_of_lt_of_le hl sizeLine_big)]
theorem rangeD_from (a n : Nat) : rangeD (a : Int) n = (List.range (n - a)).map fun i : Nat => D.int ((a + i : Nat) : Int) := by
  unfold rangeD
  rw [show ((n : Int) - (a : Int)).toNat = n - a by omega]
  refine List.map_congr_left fun i _ => ?_
  simp
theorem bor_ok {k : Kd} {f : DE} {δ δ1 : Env} {d : D} (e : f δ = .ok d δ1) (h : frozK k d = true) : dBor k f δ = .ok d δ := by
  unfold dBor
  rw [e]
  simp only [h, if_true]
end VL

set_option Elab.async false
set_option linter.all false
set_option maxRecDepth 100000
/-! Layer V: try with several except clauses, each with or without a name. -/
namespace VL
open PySem PySem.Spec PyProof.Rows L2
/-- a clause: its class, the slot of its name, its suite's reading -/
abbrev Hdl := Value × Option Nat × (Addr → Value → Option Addr → L2.TS)
/-- the ends behind a suite whose name's slot is emptied -/
def goneE (D : L2.Ends) (i : Nat) : L2.Ends := ⟨fun σ H => D.nx (σ.set i none) H, D.rt, fun σ H => D.bk (σ.set i none) H, fun σ H => D.ct (σ.set i none) H⟩
def suiteW (D : L2.Ends) (ts : Addr → Value → Option Addr → L2.TS) (cls : Value) (d : Option Addr) (σ : L2.St) (H : Hp) : Option Nat → Prop
  | none => ∀ a, H a = none → ts a cls d D σ H
  | some i => ∀ a, H a = none → ts a cls d (goneE D i) (σ.set i (some (.ref a))) H
def wHdl (K : PySem.W.Frag) (Wout : L2.WX) (D : L2.Ends) : List Hdl → L2.WX
  | [] => Wout
  | (c, oi, ts) :: r => fun cls d σ H => ∃ b, PySem.W.exmOne K cls c = some b ∧ (b = true → suiteW D ts cls d σ H oi) ∧ (b = false → wHdl K Wout D r cls d σ H)
inductive HdlOk (X : Cx) : List ExceptHandler → List Hdl → Prop
  | nil : HdlOk X [] []
  | bare {x : Str} {c : Value} {ts : Addr → Value → Option Addr → L2.TS} {b0 : Stmt} {suite : List Stmt} {np hp : Pos} {hds : List ExceptHandler} {l : List Hdl} (hc : Names X x c)
      (hs : ∀ (a : Addr) (oe : Obj) (cls : Value) (d : Option Addr) (pn : List (Addr × Obj)), Zc cls d oe → (∃ vs, oe.data = .fields vs) → PSs (X.suite a ((a, oe) :: pn)) (b0 :: suite) (ts a cls d)) (r : HdlOk X hds l) :
      HdlOk X (.ExceptHandler (some (.Name x np)) none (b0 :: suite) hp :: hds) ((c, none, ts) :: l)
  | as {x n : Str} {i : Nat} {c : Value} {ts : Addr → Value → Option Addr → L2.TS} {b0 : Stmt} {suite : List Stmt} {np hp : Pos} {hds : List ExceptHandler} {l : List Hdl} (hc : Names X x c) (hi : X.N[i]? = some n) (hl : X.env.kindOf n = some .local)
      (hs : ∀ (a : Addr) (oe : Obj) (cls : Value) (d : Option Addr) (pn : List (Addr × Obj)), Zc cls d oe → (∃ vs, oe.data = .fields vs) → PSs (X.suite a ((a, oe) :: pn)) (b0 :: suite) (ts a cls d)) (r : HdlOk X hds l) :
      HdlOk X (.ExceptHandler (some (.Name x np)) (some n) (b0 :: suite) hp :: hds) ((c, some i, ts) :: l)
section
variable {X : Cx} {pins : List (Addr × Obj)} {σ : L2.St} {H : Hp} {D : L2.Ends} {cls : Value} {d : Option Addr} {a : Addr} {B : Heap} {sI s : Shared}
/-- the class that a clause names is looked up where the exception is held -/
theorem name_in {x : Str} {c : Value} {np : Pos} {oe : Obj} {pn : List (Addr × Obj)} (hc : Names X x c) (S : Inv (X.suite a ((a, oe) :: pn)) [] σ H s) {Q E : Value → Shared → Prop} (q : Q c s) :
    wpAny (model X.prog X.w) (X.A.mark (some (.ref a))) (eval (.Name x np) X.env) Q E s := by
  obtain ⟨hg, hd, hm | ⟨hm, hv, hn⟩⟩ := hc
  · exact ld_glob (X := X.suite a ((a, oe) :: pn)) S hg hm q hd
  · exact ld_blt (X := X.suite a ((a, oe) :: pn)) S hg hm hv q hn hd
/-- what a suite leaves is what the try leaves -/
theorem suite_out {q : Addr × Obj} {f : Flow} (ok : X.Ok) (h : SP (X.suite a (q :: (X.pn ++ pins))) [] D f s) : SP X pins D f s := by
  cases f with
  | next => obtain ⟨σ1, H1, S, z⟩ := h; exact ⟨σ1, H1, S.unsuite ok, z⟩
  | brk => obtain ⟨σ1, H1, S, z⟩ := h; exact ⟨σ1, H1, S.unsuite ok, z⟩
  | cont => obtain ⟨σ1, H1, S, z⟩ := h; exact ⟨σ1, H1, S.unsuite ok, z⟩
  | ret u => obtain ⟨v, σ1, H1, S, r, z⟩ := h; exact ⟨v, σ1, H1, S.unsuite ok, r, z⟩
/-- the clauses one after the other, the exception on the ground -/
theorem clauses_go {Wout : L2.WX} (hs : X.stack = X.env :: X.outer) (hf : X.env.frame = some X.env.locals) (hN : X.N.Nodup) (tk : Takes X Wout) (J : Inv X pins σ H sI) (nb : ∀ b o, sI.heap.get? b = some o → b ∉ frs X.stack → B.get? b = some o)
    (na : H a = none) (os : s.os = sI.os) (ag : AllBare s.gens) (up : sI.heap.UpToSlots s.heap) (fl : HandSPX.FlyingZ B (X.env :: X.outer) a (Zc cls d) s.heap) :
    ∀ {hds : List ExceptHandler} {l : List Hdl}, HdlOk X hds l → wHdl X.K Wout D l cls d σ H → wpAny (model X.prog X.w) X.A (handleBy (.ref a) X.env hds) (SP X pins D) X.xe s := by
  have ok := J.ok
  have frame_no : ∀ {h : Heap} {o : Obj} {vs : Array Value}, h.FunFrames B (X.env :: X.outer) → h.get? a = some o → o.data = .fields vs → a ∉ frs (X.env :: X.outer) := fun ff e dd hm => by
    obtain ⟨_, o2, e2, hnf⟩ := ff.mem hm
    rw [e] at e2
    cases e2
    exact hnf _ dd
  have suiteI : ∀ {h : Heap} {oe : Obj} {vs : Array Value}, HandSPX.FlyingZ B (X.env :: X.outer) a (Zc cls d) h → sI.heap.UpToSlots h → h.get? a = some oe → oe.data = .fields vs → Inv (X.suite a ((a, oe) :: (X.pn ++ pins))) [] σ H { s with heap := h } := fun {h oe vs} f u he hd => by
    have J1 : Inv X pins σ H { s with heap := h } := J.landed nb f.1 u os ag
    have nfr := frame_no f.2.2.1 he hd
    refine J1.suite he hd na (fun z => nfr ?_) fun hm => nfr ?_
    · exact List.mem_filterMap.mpr ⟨X.env, List.mem_cons_self, by rw [hf, z]⟩
    · obtain ⟨e, m, q⟩ := List.mem_filterMap.mp hm
      exact List.mem_filterMap.mpr ⟨e, List.mem_cons_of_mem _ m, q⟩
  have tests : ∀ {x : Str} {c : Value} {np : Pos} {b : Bool} {Q : Bool → Shared → Prop} {E : Value → Shared → Prop}, Names X x c → PySem.W.exmOne X.K cls c = some b → Q b s →
      wpAny (model X.prog X.w) (X.A.mark (some (.ref a))) (eval (.Name x np) X.env) (fun v s1 => wpAny (model X.prog X.w) (X.A.mark (some (.ref a))) (excMatches (.ref a) v) Q E s1) E s := fun {x c np b Q E} hc hb q => by
    obtain ⟨oe, vs, he, hz, hd⟩ := fl.there
    have S := suiteI fl up he hd
    have LT : PySem.W.Looks (model X.prog X.w) s.heap (typeOf (.ref a)) cls := fun A Q E s1 k q => wpAny_typeOf_ref (k _ _ he) (by rw [hz.1]; exact q)
    have LM := PySem.W.exm_one (M := model X.prog X.w) (J.landed nb fl.1 up os ag).kIn LT hb
    exact name_in hc S (LM.here q)
  intro hds l hk
  induction hk with
  | nil =>
    intro w
    refine wpAny_handleBy_nil ?_
    obtain ⟨_, _, _, oe, vs, T, oT, ts, he, hz, hd, h1, _⟩ := id fl
    unfold PySem.passOn
    refine wpAny_bind (wpAny_field he hd h1 ?_)
    rw [if_neg (show ¬ ((Value.ref T == Value.none) = true) from by simp)]
    have fin : wpAny (model X.prog X.w) X.A (setFlight (.ref a) X.env.frame) (fun _ s4 => wpAny (model X.prog X.w) X.A (throw (.ref a) : Sem Flow) (SP X pins D) X.xe s4) X.xe s := by
      rw [hf]
      exact HandSPX.setFlight_upZ fl fun h4 held up4 => wpAny_throw (tk _ _ ⟨a, B, sI, pins, σ, H, cls, d, rfl, J, nb, up.trans up4, .inr (.inr (by rw [hs]; exact held)), na, os, ag, w⟩)
    first
      | exact wpAny_bind (wpAny_pure (wpAny_bind fin))
      | exact wpAny_bind fin
  | @bare x c ts b0 suite np hp hds l hc hsu r ih =>
    rintro ⟨b, hb, yes, no⟩
    refine wpAny_handleBy_cons (codeAny_handlers_test ?_) (by intro q; cases q)
    refine tests hc hb ?_
    cases b with
    | true =>
      refine codeAny_handlers_suite (HandSPX.lands_againZ fl fun h4 fl4 up4 => ?_)
      obtain ⟨oe, vs, he, hz, hd⟩ := fl4.there
      exact wpAny_mono ((hsu a oe cls d (X.pn ++ pins) hz ⟨_, hd⟩).run [] _ _ H _ (suiteI fl4 (up.trans up4) he hd) (yes rfl a na)) (fun f s6 z => suite_out ok z) fun _ _ z => z.elim
    | false => exact ih (no rfl)
  | @as x n i c ts b0 suite np hp hds l hc hi hl hsu r ih =>
    rintro ⟨b, hb, yes, no⟩
    refine wpAny_handleBy_cons (codeAny_handlers_test ?_) (by intro q; cases q)
    refine tests hc hb ?_
    cases b with
    | true =>
      refine codeAny_handlers_suite_as (HandSPX.lands_againZ fl fun h4 fl4 up4 => ?_)
      obtain ⟨oe, vs, he, hz, hd⟩ := fl4.there
      refine store_ok (X := X.suite a ((a, oe) :: (X.pn ++ pins))) (v := .ref a) (suiteI fl4 (up.trans up4) he hd) hN hi (.inl hl) rfl (fun s5 S5 => ?_) (.inr hl)
      refine wpAny_mono ((hsu a oe cls d (X.pn ++ pins) hz ⟨_, hd⟩).run [] s5 _ H _ S5 (yes rfl a na)) (fun f s6 z => ?_) fun _ _ z => z.elim
      have over : ∀ {σ6 : L2.St} {H6 : Hp} {Q : Shared → Prop}, Inv (X.suite a ((a, oe) :: (X.pn ++ pins))) [] σ6 H6 s6 → (∀ s7, Inv X pins (σ6.set i none) H6 s7 → Q s7) →
          wpAny (model X.prog X.w) X.A (do bindName X.env n .none; unbindBehindTheSuite X.env n hp) (fun _ s7 => Q s7) X.xe s6 := fun S6 hq => gone_ok (S6.unsuite ok) hN hi hl hq
      cases f with
      | next => obtain ⟨σ6, H6, S6, q6⟩ := z; exact over S6 fun s7 J7 => ⟨_, _, J7, q6⟩
      | brk => obtain ⟨σ6, H6, S6, q6⟩ := z; exact over S6 fun s7 J7 => ⟨_, _, J7, q6⟩
      | cont => obtain ⟨σ6, H6, S6, q6⟩ := z; exact over S6 fun s7 J7 => ⟨_, _, J7, q6⟩
      | ret u => obtain ⟨v6, σ6, H6, S6, r6, q6⟩ := z; exact over S6 fun s7 J7 => ⟨_, _, _, J7, r6, q6⟩
    | false => exact ih (no rfl)
/-- try: body / except ..: .., several clauses -/
theorem ps_tryN {body : List Stmt} {h0 : ExceptHandler} {hds : List ExceptHandler} {l : List Hdl} {pos : Pos} {tb : L2.WX → L2.TS} {Wout : L2.WX} (hs : X.stack = X.env :: X.outer) (hf : X.env.frame = some X.env.locals) (hN : X.N.Nodup) (tk : Takes X Wout)
    (hb : ∀ (W : L2.WX) (pn : List (Addr × Obj)) (xe : Value → Shared → Prop), Takes (X.tr pn xe) W → PassesOwn (model X.prog X.w) X.A X.env xe → PSs (X.tr pn xe) body (tb W))
    (hh : HdlOk X (h0 :: hds) l) : PS X (.Try body (h0 :: hds) [] [] pos) (fun D σ H => tb (wHdl X.K Wout D l) D σ H) := by
  refine ⟨fun pins s σ H D I h => ?_⟩
  have ok := I.ok
  have hfr : X.A.frames = some (X.env :: X.outer) := by rw [ok.frames, hs]
  refine wpAny_Try_except (wpAny_mono ((hb (wHdl X.K Wout D l) (X.pn ++ pins) (fun e s1 => wpAny (model X.prog X.w) X.A (noteFrame e X.env) (fun _ s2 => wpAny (model X.prog X.w) X.A (setFlight e none) (fun _ s3 =>
    wpAny (model X.prog X.w) X.A (handleBy e X.env (h0 :: hds)) (SP X pins D) X.xe s3) X.xe s2) X.xe s1) (fun u s' xx => ?_) PassesOwn.looking).run [] s σ H D (I.toTry _) h) (fun f s1 z => ?_) fun e s1 z => z)
  · obtain ⟨a, B, sI, pins', σ', H', cls, d, rfl, J', nb, up, sky, na, os, ag, w⟩ := xx
    have J : Inv X pins σ' H' sI := J'.ofTry ok
    refine Sky.land Zc.steady hfr hf (by rw [← hs]; exact sky) fun h3 fl3 up3 => ?_
    exact clauses_go (s := { s' with heap := h3 }) hs hf hN tk J nb na os ag (up.trans up3) fl3 hh w
  · cases f with
    | next => obtain ⟨σ', H', J', q⟩ := z; exact wpAny_execs_nil ⟨σ', H', J'.ofTry ok, q⟩
    | brk => obtain ⟨σ', H', J', q⟩ := z; exact ⟨σ', H', J'.ofTry ok, q⟩
    | cont => obtain ⟨σ', H', J', q⟩ := z; exact ⟨σ', H', J'.ofTry ok, q⟩
    | ret u => obtain ⟨v, σ', H', J', r, q⟩ := z; exact ⟨v, σ', H', J'.ofTry ok, r, q⟩
end
end VL

set_option Elab.async false
set_option linter.all false
set_option maxRecDepth 100000
/-! Layer V: names that no code sees; own exceptions made and raised; try; fields of a caught exception. -/
namespace VL
open PySem PySem.Spec PyProof.Rows L2
/-! ### a slot that no code sees -/
theorem Inv.ghost {X : Cx} {pins : List (Addr × Obj)} {σ : L2.St} {H : Hp} {s : Shared} (I : Inv X pins σ H s) {i : Nat} {x : Str} (v : V) (hN : X.N[i]? = some x) (nv : ¬ Vis X.env.scope x) : Inv X pins (σ.set i (some v)) H s := by
  obtain ⟨m, hm, hl⟩ := I.loc
  refine ⟨I.ok, I.os, I.bare, I.base, ⟨m, hm, fun j y w e1 e2 e3 => ?_⟩, I.cell, I.free, I.freeC, I.pin, I.hok, by rw [List.length_set]; exact I.len⟩
  by_cases q : j = i
  · subst q
    rw [hN] at e1
    cases e1
    exact (nv e3).elim
  · rw [List.getElem?_set_ne (Ne.symm q)] at e2
    exact hl j y w e1 e2 e3
theorem pss_ghost {X : Cx} {sts : List Stmt} {t : L2.TS} {i : Nat} {x : Str} (v : V) (hN : X.N[i]? = some x) (nv : ¬ Vis X.env.scope x) (h : PSs X sts t) : PSs X sts (fun D σ H => t D (σ.set i (some v)) H) :=
  ⟨fun pins s σ H D I q => h.run pins s _ H D (Inv.ghost I v hN nv) q⟩
def hidB (sc : Scope) (x : Str) : Bool := (sc.names.lookup x).isNone
theorem hid_by {sc : Scope} {x : Str} (h : hidB sc x = true) : ¬ Vis sc x := by
  unfold hidB at h
  rw [Option.isNone_iff_eq_none] at h
  rintro (k | k | k)
  · rw [show sc.names.lookup x = _ from k] at h; cases h
  · rw [show sc.names.lookup x = _ from k] at h; cases h
  · rw [show sc.names.lookup x = _ from k] at h; cases h
/-! ### __init__ of an own exception: each field from a parameter -/
inductive InitB (X : Cx) (self : Str) : List Stmt → List (Str × Nat) → Prop
  | nil : InitB X self [] []
  | cons {f x : Str} {i : Nat} {p1 p2 p3 p4 : Pos} {sts : List Stmt} {l : List (Str × Nat)} (hN : X.N[i]? = some x) (hv : Vis X.env.scope x) (hd : (x == ("__debug__" : Str)) = false) (hcd : (x == ("__classdict__" : Str)) = false)
      (hs : swapsWith (.Name x p3) (some (.Attribute (.Name self p1) f p2)) p4.line X.env = pure false) (r : InitB X self sts l) : InitB X self (.Assign [.Attribute (.Name self p1) f p2] (.Name x p3) p4 :: sts) ((f, i) :: l)
def tIn (K : PySem.W.Frag) : List (Str × Nat) → L2.TS
  | [] => tNext
  | (f, i) :: r => tSeq (tOst K f (tVar 0) (tVar i)) (tIn K r)
theorem pss_in {X : Cx} {self : Str} (hN : X.N[0]? = some self) (hv : Vis X.env.scope self) (hd : (self == ("__debug__" : Str)) = false) (hcd : (self == ("__classdict__" : Str)) = false) : ∀ {sts : List Stmt} {l : List (Str × Nat)}, InitB X self sts l → PSs X sts (tIn X.K l) := by
  intro sts l h
  induction h with
  | nil => exact pss_nil
  | cons h1 h2 h3 h4 h5 _ ih => exact pss_cons (ps_ost (pe_var hN hv hd hcd) (pe_var h1 h2 h3 h4) h5) ih
/-- what such an __init__ promises -/
def spI (C : Addr) (fields : List Str) : Sp := fun vs H Q _ => ∃ (a : Addr) (ws : List V), vs = .ref a :: ws ∧ ws.length = fields.length ∧ H a = some (exo a C none) ∧
  ∀ dx, H dx = none → dx ≠ a → ∀ H2, H2 a = some (exo a C (some dx)) → H2 dx = some (exd dx (fields.zip ws).reverse) → (∀ b, b ≠ a → b ≠ dx → H2 b = H b) → Q .non H2
/-- from the first field on -/
theorem in_rd {K : PySem.W.Frag} {C a dx : Addr} (T : OexC K C) : ∀ (l : List (Str × Nat)) (ws : List V) (fs : List (Str × V)) (D : L2.Ends) (σ : L2.St) (H : Hp), (∀ p ∈ l, PySem.W.findIn K (.ref C) p.1 = some none) → ws.length = l.length → fs.length + l.length ≤ 900 →
    σ[0]? = some (some (.ref a)) → (∀ (j : Nat) (p : Str × Nat) (w : V), l[j]? = some p → ws[j]? = some w → σ[p.2]? = some (some w)) → dx ≠ a → H a = some (exo a C (some dx)) → H dx = some (exd dx fs) →
    (∀ H2, H2 a = some (exo a C (some dx)) → H2 dx = some (exd dx (((l.map (·.1)).zip ws).reverse ++ fs)) → (∀ b, b ≠ a → b ≠ dx → H2 b = H b) → D.nx σ H2) → tIn K l D σ H
  | [], ws, fs, D, σ, H, _, _, _, _, _, _, ha, hd, q => q H ha (by simpa using hd) fun _ _ _ => rfl
  | (f, i) :: l, [], fs, D, σ, H, _, hl, _, _, _, _, _, _, _ => by simp at hl
  | (f, i) :: l, w :: ws, fs, D, σ, H, hno, hl, hz, h0, hi, ne, ha, hd, q => by
    refine ⟨w, hi 0 (f, i) w rfl rfl, .ref a, h0, a, C, rfl, T, hno (f, i) (List.mem_cons_self ..), .inr ⟨dx, fs, ha, hd, by simp at hz; omega, ?_⟩⟩
    refine in_rd T l ws ((f, w) :: fs) D σ _ (fun p hp => hno p (List.mem_cons_of_mem _ hp)) (by simpa using hl) (by simp at hz ⊢; omega) h0 (fun j p w h1 h2 => hi (j + 1) p w (by simpa using h1) (by simpa using h2)) ne (by rw [upd_ne (Ne.symm ne)]; exact ha) upd_same fun H2 h1 h2 h3 => ?_
    refine q H2 h1 (by rw [h2]; simp) fun b hb1 hb2 => ?_
    rw [h3 b hb1 hb2, upd_ne hb2]
theorem in_rd0 {K : PySem.W.Frag} {C a : Addr} (T : OexC K C) {l : List (Str × Nat)} {ws : List V} {D : L2.Ends} {σ : L2.St} {H : Hp} (hne : l ≠ []) (hno : ∀ p ∈ l, PySem.W.findIn K (.ref C) p.1 = some none) (hl : ws.length = l.length) (hz : l.length ≤ 900)
    (h0 : σ[0]? = some (some (.ref a))) (hi : ∀ (j : Nat) (p : Str × Nat) (w : V), l[j]? = some p → ws[j]? = some w → σ[p.2]? = some (some w)) (ha : H a = some (exo a C none))
    (q : ∀ dx, H dx = none → dx ≠ a → ∀ H2, H2 a = some (exo a C (some dx)) → H2 dx = some (exd dx ((l.map (·.1)).zip ws).reverse) → (∀ b, b ≠ a → b ≠ dx → H2 b = H b) → D.nx σ H2) : tIn K l D σ H := by
  match l, ws, hne, hl with
  | (f, i) :: l, w :: ws, _, hl =>
    refine ⟨w, hi 0 (f, i) w rfl rfl, .ref a, h0, a, C, rfl, T, hno (f, i) (List.mem_cons_self ..), .inl ⟨ha, fun dx n ne => ?_⟩⟩
    refine in_rd T l ws [(f, w)] D σ _ (fun p hp => hno p (List.mem_cons_of_mem _ hp)) (by simpa using hl) (by simp at hz ⊢; omega) h0 (fun j p w h1 h2 => hi (j + 1) p w (by simpa using h1) (by simpa using h2)) ne upd_same (by rw [upd_ne ne, upd_same]) fun H2 h1 h2 h3 => ?_
    refine q dx n ne H2 h1 (by rw [h2]; simp) fun b hb1 hb2 => ?_
    rw [h3 b hb1 hb2, upd_ne hb1, upd_ne hb2]
/-- an own exception class with its __init__ -/
structure VXc (P : Program) (w : World) (K : PySem.W.Frag) (mg : Str → Option Value) (base : Heap) (x : Str) (fields : List Str) : Prop where
  ex : ∃ (C fI : Addr) (fd : FuncData) (ps : List Str), mg x = some (.ref C) ∧ OexC K C ∧ PySem.W.findIn K (.ref C) "__init__" = some (some (.ref fI)) ∧ PySem.W.typeIn K (.ref fI) = some (.type "function") ∧ Binds K fd ps [] ∧ fields.length ≤ 900 ∧ FnOk P w K mg base (L2.CX P w) 1 fI fd ps (spI C fields)
theorem vxc_of {P : Program} {w : World} {K : PySem.W.Frag} {mg : Str → Option Value} {base : Heap} {x qual self : Str} {st : Stmt} {f C : Addr} {fd : FuncData} {N : List Str} {l : List (Str × Nat)} (F : Fun K "__init__" qual st f fd) (S : FnScope N N (defScope st)) (hb : Binds K fd N []) (hm : mg x = some (.ref C)) (T : OexC K C)
    (iC : PySem.W.findIn K (.ref C) "__init__" = some (some (.ref f))) (tI : PySem.W.typeIn K (.ref f) = some (.type "function")) (hno : ∀ p ∈ l, PySem.W.findIn K (.ref C) p.1 = some none) (hne : l ≠ []) (hz : l.length ≤ 900) (hNl : N.length = l.length + 1) (hi : ∀ j p, l[j]? = some p → p.2 = j + 1)
    (hself : N[0]? = some self) (hd : (self == ("__debug__" : Str)) = false) (hcd : (self == ("__classdict__" : Str)) = false) (hv : Vis (defScope st) self)
    (B : ∀ (cdv : Value) (A : Around) (outer : List PySem.Env) (s : Shared) (H : Hp) (E : XK), InitB (cxOf (L2.CX P w) P w K mg base N qual (defScope st) f cdv A outer s H E) self (defBody st) l) :
    VXc P w K mg base x (l.map (·.1)) := by
  have run : FnOk P w K mg base (L2.CX P w) 1 f fd N (spI C (l.map (·.1))) := by
    refine F.okX S (fun vs H Q E h => ?_) fun cdv A outer s H vs Q E hr h => ?_
    · obtain ⟨a, ws, rfl, h1, _⟩ := h
      rw [List.length_cons, h1, List.length_map, hNl]
    · obtain ⟨a, ws, rfl, h1, h2, q⟩ := h
      refine ⟨_, pss_in (X := cxOf (L2.CX P w) P w K mg base N qual (defScope st) f cdv A outer s H E) hself hv hd hcd (B cdv A outer s H E), ?_⟩
      rw [List.length_map] at h1
      have eS : L2.start N (.ref a :: ws) = (V.ref a :: ws).map some := by
        unfold L2.start
        rw [List.length_cons, hNl, h1, Nat.sub_self, List.replicate_zero, List.append_nil]
      refine in_rd0 T hne hno h1 hz (by rw [eS]; rfl) (fun j p w e1 e2 => ?_) h2 fun dx n ne H2 g1 g2 g3 => q dx n ne H2 g1 g2 g3
      rw [hi j p e1, eS, List.getElem?_map, List.getElem?_cons_succ, e2]
      rfl
  exact ⟨C, f, fd, N, hm, T, iC, tI, hb, by rw [List.length_map]; exact hz, run⟩
end VL

set_option Elab.async false
set_option linter.all false
set_option maxRecDepth 100000
/-! Layer V: raise, try, fields of a caught exception. -/
namespace VL
open PySem PySem.Spec PyProof.Rows L2
section
variable {K : PySem.W.Frag} {mg : Str → Option Value} {fx : Fx} {kd kd1 kd' : Kds} {Fs Fs1 : Nat → AS} {P H P1 H1 : Hp} {σ : L2.St} {δ : Env} {D : L2.Ends}
theorem stmA {r : Res (List VL.D)} {g : List VL.D → Env → SRes} (hx : fx.XR kd) (h : PostS K mg fx kd' Fs P H D (r.stm g)) :
    PostA K mg kd fx.W σ Fs P H (fun vs H1 => ∃ (ds : List VL.D) (δ1 : Env) (Fs1 : Nat → AS) (P1 : Hp), EnvR K mg kd Fs1 P1 H1 σ δ1 ∧ Stp (All Fs) P H (All Fs1) P1 H1 ∧ RepL K mg P1 vs ds ∧ PostS K mg fx kd' Fs1 P1 H1 D (g ds δ1)) r := by
  cases r with
  | ok d δ1 => exact fun v Fs1 P1 H1 E s o => ⟨d, δ1, Fs1, P1, E, s, o, PostS.later s h⟩
  | exn e δ1 => exact fun cls dx Fs' P' H' E s x => h kd hx cls dx σ Fs' P' H' E s x
  | no => exact h
end
/-! ### raise -/
def dRaise (x : Str) (fields : List Str) (g : DA) : DS := fun δ => (g δ).stm fun ds δ1 => if ds.length = fields.length then .exn (.ins x (fields.zip ds).reverse) δ1 else .no
theorem zip_rep {K : PySem.W.Frag} {mg : Str → Option Value} {P : Hp} : ∀ {fields : List Str} {vs : List V} {ds : List D}, RepL K mg P vs ds → (fields.zip vs).map (·.1) = (fields.zip ds).map (·.1) ∧ RepL K mg P ((fields.zip vs).map (·.2)) ((fields.zip ds).map (·.2))
  | [], _, _, _ => ⟨rfl, .nil⟩
  | _ :: _, _, _, .nil => ⟨rfl, .nil⟩
  | f :: fields, _, _, .cons a b => by
    obtain ⟨h1, h2⟩ := zip_rep (fields := fields) b
    exact ⟨by simp only [List.zip_cons_cons, List.map_cons, h1], .cons a h2⟩
theorem RepL.rev {K : PySem.W.Frag} {mg : Str → Option Value} {P : Hp} : ∀ {vs : List V} {ds : List D}, RepL K mg P vs ds → RepL K mg P vs.reverse ds.reverse
  | _, _, .nil => .nil
  | _, _, .cons a b => by
    rw [List.reverse_cons, List.reverse_cons]
    exact (RepL.rev b).append (.cons a .nil)
theorem vs_raise {X : Cx} {fx : Fx} {kd kd' : Kds} {x : Str} {fields : List Str} {e : Expr} {es : List Expr} {g : DA} {p pos pos' : Pos} (V : VXc X.prog X.w X.K X.mg X.base x fields) (hr : Room 2 X.A) (tk : Takes X fx.W) (ha : VA X kd fx.W (e :: es) g)
    (hx : fx.XR kd := by first | trivial | rfl) (hc : X.calm = true := by rfl) (hg : Gl X x := by rfl) (hdb : (x == ("__debug__" : Str)) = false := by decide) (he : starEach (e :: es) X.env = (false, eval e X.env) :: starEach es X.env := by rfl) (hpl : (backTo pos (starEach es X.env)).any (·.1) = false := by rfl) :
    VS X fx kd kd' (.Raise (some (.Call (.Name x p) (e :: es) [] pos)) none pos') (dRaise x fields g) := by
  obtain ⟨C, fI, fd, ps, hm, T, iC, tI, hb, hz, F⟩ := V.ex
  refine PS.imp (ps_raise hc tk (pmk_oex T iC tI F hr hb .nil (fun _ _ _ _ _ _ _ ⟨_, _, _, _, _, _, _, _, _, _, _, _, z⟩ => z.elim) hg hm ha hdb he hpl)) fun D σ H ⟨Fs, P, δ, E, q⟩ => ?_
  refine ⟨Fs, P, δ, E, ?_⟩
  have q1 := stmA (σ := σ) hx q
  revert q1
  cases g δ with
  | no => exact fun q => q
  | exn e δ1 => exact fun q => q
  | ok d δ1 =>
    intro q1 vs Fs1 P1 H1 E1 s1 r1
    obtain ⟨ds, δ1', Fs1', P1', E1', s1', r1', q2⟩ := q1 vs Fs1 P1 H1 E1 s1 r1
    by_cases hl : ds.length = fields.length
    · rw [if_pos hl] at q2
      have hv : vs.length = fields.length := by rw [r1'.length, hl]
      refine ⟨by omega, fun a na => ⟨a, vs ++ [], rfl, by rw [List.append_nil]; exact hv, upd_same, fun dx nd ne H2 h1 h2 h3 => ?_⟩⟩
      rw [List.append_nil] at h2
      have nd1 : H1 dx = none := by rw [upd_ne ne] at nd; exact nd
      refine ⟨rfl, dx, _, h1, h2, nd1, ?_⟩
      have eH : upd (del H2 a) dx (.xd (fields.zip vs).reverse) = upd H1 dx (.xd (fields.zip vs).reverse) := by
        funext b
        by_cases q : b = dx
        · subst q; rw [upd_same, upd_same]
        · rw [upd_ne q, upd_ne q]
          by_cases q2 : b = a
          · subst q2; rw [del_same, na]
          · rw [del_ne q2, h3 b q2 q, upd_ne q2]
      rw [eH]
      obtain ⟨st, sb⟩ := alloc_sh (o := .xd (fields.zip vs).reverse) E1'.sub nd1
      obtain ⟨z1, z2⟩ := zip_rep (fields := fields) r1'
      refine q2 kd hx (.ref C) (some dx) σ Fs1' _ _ (E1'.grow st sb) st.wid ⟨x, _, C, rfl, hm, rfl, .inr ⟨dx, _, rfl, upd_same, ?_, ?_⟩⟩
      · rw [List.map_reverse, List.map_reverse, z1]
      · rw [List.map_reverse, List.map_reverse]
        exact z2.rev.mono st.grow
    · rw [if_neg hl] at q2; exact q2.elim
/-! ### try -/
/-- a clause's worth: its class, the slot of its name, the slot of the exception's dict, its suite -/
structure HdD where
  c : Str
  nm : Option (Nat × Nat)
  g : DS
def goneD (δ : Env) : Option (Nat × Nat) → Env
  | none => δ
  | some (i, j) => (δ.set i none).set j none
/-- what a suite leaves: it goes on, or the def ends -/
def goneS (o : Option (Nat × Nat)) : SRes → SRes
  | .next δ => .next (goneD δ o)
  | .ret d δ => .ret d δ
  | _ => .no
def dHs (sub : List (Str × List (Str × Bool))) : List HdD → D → Env → SRes
  | [], e, δ => .exn e δ
  | h :: r, e, δ => match e with
    | .ins c gs => (match (sub.lookup c).bind (·.lookup h.c) with
      | some true => (match h.nm with
        | none => goneS none (h.g δ)
        | some (i, j) => if gs = [] then .no else goneS h.nm (h.g ((δ.set i (some (.gh "any" []))).set j (some (.gh "xd" gs)))))
      | some false => dHs sub r e δ
      | none => .no)
    | _ => .no
def dTry (sub : List (Str × List (Str × Bool))) (g : DS) (hs : List HdD) : DS := fun δ => match g δ with
  | .exn e δ1 => dHs sub hs e δ1
  | r => r
section
variable {K : PySem.W.Frag} {mg : Str → Option Value}
/-- what is told of the classes: which are of which -/
def SubT (K : PySem.W.Frag) (mg : Str → Option Value) (sub : List (Str × List (Str × Bool))) (h : Str) (ch : Value) : Prop := ∀ (c : Str) (b : Bool) (C : Addr), (sub.lookup c).bind (·.lookup h) = some b → mg c = some (.ref C) → PySem.W.exmOne K (.ref C) ch = some b
def tsBare (K : PySem.W.Frag) (mg : Str → Option Value) (fx : Fx) (kx kd' : Kds) (g : DS) : Addr → Value → Option Addr → L2.TS := fun _ _ _ => rdS K mg fx kd' kx g
def pin2 (kd : Kds) (i j : Nat) (a dx : Addr) : Kds := (kd.set i (.pin a .sh)).set j (.pin dx .sh)
def tsAs (K : PySem.W.Frag) (mg : Str → Option Value) (fx : Fx) (kx kd' : Kds) (i j : Nat) (cs : List Str) (g : DS) : Addr → Value → Option Addr → L2.TS := fun a cls d D σ H => ∃ (dx C : Addr) (c : Str), d = some dx ∧ cls = .ref C ∧ mg c = some (.ref C) ∧ c ∈ cs ∧
  rdS K mg fx (pin2 kd' i j a dx) (pin2 kx i j a dx) g D (σ.set j (some (.ref dx))) H
end
/-- clauses -/
inductive VHs (X : Cx) (fx : Fx) (kx kd' : Kds) (sub : List (Str × List (Str × Bool))) : List ExceptHandler → List HdD → List Hdl → Prop
  | nil : VHs X fx kx kd' sub [] [] []
  | bare {x : Str} {ch : Value} {g : DS} {b0 : Stmt} {suite : List Stmt} {np hp : Pos} {hds : List ExceptHandler} {l : List HdD} {m : List Hdl} (hc : Names X x ch) (hS : SubT X.K X.mg sub x ch)
      (hs : ∀ (a : Addr) (oe : Obj) (pn : List (Addr × Obj)), VSs (X.suite a ((a, oe) :: pn)) ⟨fun _ _ _ _ => False, fx.rk, fx.KR, fun _ => True, fx.kl⟩ kx kd' (b0 :: suite) g) (r : VHs X fx kx kd' sub hds l m) :
      VHs X fx kx kd' sub (.ExceptHandler (some (.Name x np)) none (b0 :: suite) hp :: hds) (⟨x, none, g⟩ :: l) ((ch, none, tsBare X.K X.mg ⟨fun _ _ _ _ => False, fx.rk, fx.KR, fun _ => True, fx.kl⟩ kx kd' g) :: m)
  | as {x n y : Str} {i j : Nat} {ch : Value} {g : DS} {b0 : Stmt} {suite : List Stmt} {np hp : Pos} {hds : List ExceptHandler} {l : List HdD} {m : List Hdl} (hc : Names X x ch) (hS : SubT X.K X.mg sub x ch) (hi : X.N[i]? = some n) (hl : X.env.kindOf n = some .local) (hj : X.N[j]? = some y) (hv : ¬ Vis X.env.scope y) (hij : i ≠ j)
      (hki : kx.at i = .sh) (hkj : kx.at j = .sh) (hli : i < kx.length) (hlj : j < kx.length) (hdi : kd'.at i = .sh) (hdj : kd'.at j = .sh) (hdl : kd'.length = kx.length)
      (hs : ∀ (a dx C : Addr) (c : Str) (oe : Obj) (pn : List (Addr × Obj)), X.mg c = some (.ref C) → c ∈ sub.map (·.1) → Zc (.ref C) (some dx) oe → (∃ vs, oe.data = .fields vs) →
        VSs (X.suite a ((a, oe) :: pn)) ⟨fun _ _ _ _ => False, fx.rk, fx.KR, fun _ => True, fx.kl⟩ (pin2 kx i j a dx) (pin2 kd' i j a dx) (b0 :: suite) g) (r : VHs X fx kx kd' sub hds l m) :
      VHs X fx kx kd' sub (.ExceptHandler (some (.Name x np)) (some n) (b0 :: suite) hp :: hds) (⟨x, some (i, j), g⟩ :: l) ((ch, some i, tsAs X.K X.mg ⟨fun _ _ _ _ => False, fx.rk, fx.KR, fun _ => True, fx.kl⟩ kx kd' i j (sub.map (·.1)) g) :: m)
theorem VHs.ok {X : Cx} {fx : Fx} {kx kd' : Kds} {sub : List (Str × List (Str × Bool))} {hds : List ExceptHandler} {l : List HdD} {m : List Hdl} (h : VHs X fx kx kd' sub hds l m) : HdlOk X hds m := by
  induction h with
  | nil => exact .nil
  | bare hc hS hs _ ih => exact .bare hc (fun a oe cls d pn _ _ => hs a oe pn) ih
  | @as x n y i j ch g b0 suite np hp hds l m hc hS hi hl hj hv hij hki hkj hli hlj hdi hdj hdl hs _ ih =>
    refine .as hc hi hl (fun a oe cls d pn hz hf => ⟨fun pins s σ H D I q => ?_⟩) ih
    obtain ⟨dx, C, c, rfl, rfl, hm, hcs, q⟩ := q
    exact (pss_ghost (X := X.suite a ((a, oe) :: pn)) (.ref dx) hj hv (hs a dx C c oe pn hm hcs hz hf)).run pins s σ H D I q
section
variable {K : PySem.W.Frag} {mg : Str → Option Value} {fx : Fx} {kd kd' kx : Kds} {Fs Fs1 : Nat → AS} {P H P1 H1 : Hp} {σ : L2.St} {δ : Env} {D : L2.Ends}
/-- a slot is emptied, its kind as one likes -/
theorem EnvR.drop {kd2 : Kds} {σ2 : L2.St} {i : Nat} (E : EnvR K mg kd Fs P H σ δ) (hk : ∀ l, l ≠ i → kd2.at l = kd.at l) (hl : kd2.length = kd.length) (hs : ∀ l, l ≠ i → σ2[l]? = σ[l]?) (hsl : σ2.length = σ.length) : EnvR K mg kd2 (upF Fs i Non) P H σ2 (δ.set i none) where
  sub := E.sub
  slot j d h := by
    by_cases q : j = i
    · subst q
      by_cases hl : j < δ.length
      · rw [List.getElem?_set_self hl] at h; cases h
      · rw [List.getElem?_eq_none (by rw [List.length_set]; omega)] at h; cases h
    · rw [List.getElem?_set_ne (Ne.symm q)] at h
      obtain ⟨v, h1, h2⟩ := E.slot j d h
      exact ⟨v, by rw [hs j q]; exact h1, by rw [upF_ne q, hk j q]; exact h2⟩
  only j a h := by
    by_cases q : j = i
    · subst q; rw [upF_same] at h; exact h.elim
    · rw [upF_ne q] at h
      obtain ⟨d, e⟩ := E.only j a h
      exact ⟨d, by rw [List.getElem?_set_ne (Ne.symm q)]; exact e⟩
  sep j l a h1 h2 := by
    by_cases q : j = i
    · subst q; rw [upF_same] at h1; exact h1.elim
    · by_cases q2 : l = i
      · subst q2; rw [upF_same] at h2; exact h2.elim
      · rw [upF_ne q] at h1; rw [upF_ne q2] at h2; exact E.sep j l a h1 h2
  out j a h := by
    by_cases q : j = i
    · subst q; rw [upF_same] at h; exact h.elim
    · rw [upF_ne q] at h; exact E.out j a h
  len := by rw [List.length_set, hsl]; exact E.len
  lenK := by rw [hl, hsl]; exact E.lenK
theorem less_stp {i : Nat} : Stp (All Fs) P H (All (upF Fs i Non)) P H := ⟨fun _ _ h _ _ => h, Sub.refl _, fun a o h => .inl h, fun a h => .inl ((all_upF h).elim id fun z => z.elim), fun a o h => ⟨o, h⟩⟩
theorem at_pin2 {i j l : Nat} {a dx : Addr} (h1 : l ≠ i) (h2 : l ≠ j) : (pin2 kd i j a dx).at l = kd.at l := by
  unfold pin2
  rw [Kds.at_set_ne h2, Kds.at_set_ne h1]
theorem len_pin2 {i j : Nat} {a dx : Addr} : (pin2 kd i j a dx).length = kd.length := by unfold pin2; rw [List.length_set, List.length_set]
/-- behind a suite -/
theorem EnvR.unpin {i j : Nat} {a dx : Addr} (E : EnvR K mg (pin2 kd i j a dx) Fs P H σ δ) : EnvR K mg kd (upF (upF Fs i Non) j Non) P H (σ.set i none) ((δ.set i none).set j none) := by
  have E1 : EnvR K mg (pin2 kd i j a dx) (upF Fs i Non) P H (σ.set i none) (δ.set i none) := E.drop (fun _ _ => rfl) rfl (fun l h => List.getElem?_set_ne (Ne.symm h)) (by rw [List.length_set])
  have E2 : EnvR K mg (kd.set i (.pin a .sh)) (upF (upF Fs i Non) j Non) P H (σ.set i none) ((δ.set i none).set j none) := E1.drop (fun l h => by unfold pin2; rw [Kds.at_set_ne h]) (by rw [len_pin2, List.length_set]) (fun _ _ => rfl) rfl
  refine ⟨E2.sub, fun l d h => ?_, E2.only, E2.sep, E2.out, E2.len, by rw [← E2.lenK, List.length_set]⟩
  obtain ⟨v, h1, h2⟩ := E2.slot l d h
  refine ⟨v, h1, ?_⟩
  have hl : l ≠ i := fun z => by
    subst z
    by_cases q : l = j
    · subst q
      by_cases ll : l < (δ.set l none).length
      · rw [List.getElem?_set_self ll] at h; cases h
      · rw [List.getElem?_eq_none (by rw [List.length_set]; omega)] at h; cases h
    · rw [List.getElem?_set_ne (Ne.symm q)] at h
      by_cases ll : l < δ.length
      · rw [List.getElem?_set_self ll] at h; cases h
      · rw [List.getElem?_eq_none (by rw [List.length_set]; omega)] at h; cases h
  rw [Kds.at_set_ne hl] at h2
  exact h2
end
theorem hs_rd {X : Cx} {fx : Fx} {kx kd' : Kds} {sub : List (Str × List (Str × Bool))} {hds : List ExceptHandler} {l : List HdD} {m : List Hdl} (hx : fx.XR kx) (V : VHs X fx kx kd' sub hds l m) {Fs : Nat → AS} {P H : Hp} {σ : L2.St} {δ : Env} {D : L2.Ends} {cls : Value} {d : Option Addr} {e : VL.D}
    (E : EnvR X.K X.mg kx Fs P H σ δ) (hE : ExR X.K X.mg P cls d e) (q : PostS X.K X.mg fx kd' Fs P H D (dHs sub l e δ)) : wHdl X.K fx.W D m cls d σ H := by
  obtain ⟨c, gs, C, rfl, hm, rfl, hd⟩ := hE
  induction V with
  | nil => exact q kx hx (.ref C) d σ Fs P H E Stp.refl ⟨c, gs, C, rfl, hm, rfl, hd⟩
  | @bare x ch g b0 suite np hp hds l m hc hS hs r ih =>
    unfold dHs at q
    simp only at q
    cases eb : (sub.lookup c).bind (·.lookup x) with
    | none => rw [eb] at q; exact q.elim
    | some b =>
      rw [eb] at q
      refine ⟨b, hS c b C eb hm, fun h => ?_, fun h => ?_⟩
      · subst h
        refine fun a na => ⟨Fs, P, δ, E, ?_⟩
        simp only at q
        revert q
        cases g δ with
        | next δ2 => exact fun q => q
        | ret d2 δ2 => exact fun q => q
        | brk δ2 => exact fun q => q.elim
        | cont δ2 => exact fun q => q.elim
        | exn e2 δ2 => exact fun q => q.elim
        | no => exact fun q => q
      · subst h
        exact ih q
  | @as x n y i j ch g b0 suite np hp hds l m hc hS hi hl hj hv hij hki hkj hli hlj hdi hdj hdl hs r ih =>
    unfold dHs at q
    simp only at q
    cases eb : (sub.lookup c).bind (·.lookup x) with
    | none => rw [eb] at q; exact q.elim
    | some b =>
      rw [eb] at q
      refine ⟨b, hS c b C eb hm, fun h => ?_, fun h => ?_⟩
      · subst h
        simp only at q
        by_cases hg : gs = []
        · rw [if_pos hg] at q; exact q.elim
        · rw [if_neg hg] at q
          rcases hd with ⟨h1, _⟩ | ⟨dx, fs, rfl, h1, h2, h3⟩
          · exact (hg h1).elim
          · intro a na
            have hcs : c ∈ sub.map (·.1) := by
              cases ec : sub.lookup c with
              | none => rw [ec] at eb; cases eb
              | some row => exact List.mem_map.mpr ⟨(c, row), PySem.mem_of_lookup ec, rfl⟩
            refine ⟨dx, C, c, rfl, rfl, hm, hcs, ?_⟩
            have o1 : Own X.K X.mg (.pin a .sh) Non P H (.ref a) (.gh "any" []) := ⟨rfl, fun _ z => z, .gh0 _⟩
            have o2 : Own X.K X.mg (.pin dx .sh) Non P H (.ref dx) (.gh "xd" gs) := ⟨rfl, fun _ z => z, .ghx h1 h2 h3⟩
            have E1 := E.set (i := i) (H0 := H) hli Fr.non o1
            have E2 := E1.set (i := j) (H0 := H) (by rw [List.length_set]; exact hlj) Fr.non o2
            have S : Stp (All Fs) P H (All (upF (upF Fs i Non) j Non)) P H := (less_stp (i := i)).trans less_stp
            refine ⟨_, P, _, E2, ?_⟩
            have q' := PostS.later S q
            revert q'
            cases g ((δ.set i (some (.gh "any" []))).set j (some (.gh "xd" gs))) with
            | next δ2 => exact fun q' σ' Fs' P' H' E' s' => q' _ _ P' H' E'.unpin (s'.trans ((less_stp (i := i)).trans less_stp))
            | ret d2 δ2 => exact fun q' => q'
            | brk δ2 => exact fun q' => q'.elim
            | cont δ2 => exact fun q' => q'.elim
            | exn e2 δ2 => exact fun q' => q'.elim
            | no => exact fun q' => q'
      · subst h
        exact ih q
theorem vs_try {X : Cx} {fx : Fx} {kd kd' kx : Kds} {sub : List (Str × List (Str × Bool))} {body : List Stmt} {h0 : ExceptHandler} {hds : List ExceptHandler} {l : List HdD} {m : List Hdl} {g : DS} {pos : Pos} (hN : X.N.Nodup) (tk : Takes X fx.W) (hx : fx.XR kx)
    (hb : ∀ (W : L2.WX) (pn : List (Addr × Obj)) (xe : Value → Shared → Prop), Takes (X.tr pn xe) W → PassesOwn (model X.prog X.w) X.A X.env xe → VSs (X.tr pn xe) ⟨W, fx.rk, fx.KR, fun k => k = kx, fx.kl⟩ kd kd' body g)
    (hh : VHs X fx kx kd' sub (h0 :: hds) l m) (hs : X.stack = X.env :: X.outer := by rfl) (hf : X.env.frame = some X.env.locals := by rfl) : VS X fx kd kd' (.Try body (h0 :: hds) [] [] pos) (dTry sub g l) := by
  refine PS.imp (ps_tryN (tb := fun W => rdS X.K X.mg ⟨W, fx.rk, fx.KR, fun k => k = kx, fx.kl⟩ kd' kd g) hs hf hN tk (fun W pn xe tkW po => hb W pn xe tkW po) hh.ok) fun D σ H ⟨Fs, P, δ, E, q⟩ => ?_
  refine ⟨Fs, P, δ, E, ?_⟩
  unfold dTry at q
  revert q
  cases g δ with
  | next δ2 => exact fun q => q
  | ret d2 δ2 => exact fun q => q
  | brk δ2 => exact fun q => q
  | cont δ2 => exact fun q => q
  | no => exact fun q => q
  | exn e δ2 =>
    intro q kdr hk cls dx σ' Fs' P' H' E' s' x
    have hk' : kdr = kx := hk
    subst hk'
    exact hs_rd hx hh E' x (PostS.later s' q)
/-! ### the field of a caught exception -/
def xfD (f : Str) : D → Option D
  | .gh c gs => if c = "xd" then gs.lookup f else none
  | _ => none
def dXf (i j : Nat) (f : Str) : DE := fun δ => match δ[i]?, δ[j]? with
  | some (some _), some (some d) => lift (xfD f d) δ
  | _, _ => .no
theorem ve_xf {X : Cx} {a dx C : Addr} {oe : Obj} {pn : List (Addr × Obj)} {kd : Kds} {W : L2.WX} {f n : Str} (i j : Nat) {p p1 : Pos} (T : XfC X.K C) (hno : PySem.W.findIn X.K (.ref C) f = some none) (hz : Zc (.ref C) (some dx) oe) (hf : ∃ vs, oe.data = .fields vs)
    (hki : kd.at i = .pin a .sh) (hkj : kd.at j = .pin dx .sh) (hN : X.N[i]? = some n := by rfl) (hv : Vis X.env.scope n := by first | exact Or.inl rfl | exact Or.inr (Or.inl rfl) | exact Or.inr (Or.inr rfl)) (hd : (n == ("__debug__" : Str)) = false := by decide) (hcd : (n == ("__classdict__" : Str)) = false := by decide)
    (hb : attributeBase (.Name n p1) f X.env (eval (.Name n p1) X.env) = eval (.Name n p1) X.env := by rfl) :
    VE (X.suite a ((a, oe) :: pn)) kd W .sh (.Attribute (.Name n p1) f p) (dXf i j f) := by
  refine PE.imp (pe_xf (X := X) (d := some dx) T hno hz hf (pe_var (X := X.suite a ((a, oe) :: pn)) (i := i) hN hv hd hcd) hb) fun σ H Q ⟨Fs, P, δ, E, q⟩ => ?_
  unfold dXf at q
  cases ei : δ[i]? with
  | none => rw [ei] at q; exact q.elim
  | some oi =>
    cases oi with
    | none => rw [ei] at q; exact q.elim
    | some di =>
      cases ej : δ[j]? with
      | none => rw [ei, ej] at q; exact q.elim
      | some oj =>
        cases oj with
        | none => rw [ei, ej] at q; exact q.elim
        | some dj =>
          rw [ei, ej] at q
          obtain ⟨v1, h1, o1⟩ := E.slot i di ei
          rw [hki] at o1
          obtain ⟨rfl, _⟩ := o1
          obtain ⟨v2, h2, o2⟩ := E.slot j dj ej
          rw [hkj] at o2
          obtain ⟨rfl, _, r2⟩ := o2
          refine ⟨_, h1, rfl, rfl, dx, ?_⟩
          cases r2 with
          | @ghx _ fs gs hp hk hl =>
            simp only [xfD, if_true] at q
            cases el : gs.lookup f with
            | none => rw [el] at q; exact q.elim
            | some d =>
              rw [el] at q
              obtain ⟨v, e1, rv⟩ := RepF.get (K := X.K) (mg := X.mg) (P := P) ⟨hk, hl⟩ el
              exact ⟨fs, v, rfl, E.sub.at hp, e1, PostE.pure E rv q⟩
          | ght hp =>
            have : ¬ ("tab" : Str) = "xd" := by decide
            simp only [xfD, if_neg this] at q
            exact q.elim
          | gh0 _ =>
            have : ¬ ("any" : Str) = "xd" := by decide
            simp only [xfD, if_neg this] at q
            exact q.elim
          | _ => exact q.elim
end VL

set_option Elab.async false
set_option linter.all false
set_option maxRecDepth 100000
/-! Layer V: a lambda without parameters handed to a def that calls it. -/
namespace VL
open PySem PySem.Spec PyProof.Rows L2 LamX
section
variable {X : Cx} {pins : List (Addr × Obj)} {σ : L2.St} {H : Hp} {s : Shared}
/-- a() in the def that got the lambda; what is raised is wished for at the def's own slots -/
theorem pe_actS {Eg : XK} {Ng : List Str} {qg : Str} {sg : Scope} {g f c' : Addr} {cdg pm ctv : Value} {params : Arguments} {body : Expr} {scope : Scope} {k i : Nat} {a : Str} {pn : List (Addr × Obj)} {xe : Value → Shared → Prop} {W : L2.WX} {tb : XK → TE} {p1 p2 : Pos}
    (I : Inv X pins σ H s) (L : LamS X.env.scope scope) (hf : s.heap.get? f = some (PySem.W.kla_obj "<lambda>" (X.env.qual ++ "<lambda>") params body scope (cloFrom X.env.cells scope.names []) pm c' ctv)) (hfn : H f = none) (hfr : f ∉ frs X.stack)
    (hbind : bindArgs (PySem.W.kla_fn "<lambda>" (X.env.qual ++ "<lambda>") params body scope (cloFrom X.env.cells scope.names []) pm (.ref c') ctv) ⟨[], []⟩ = pure [])
    (tk : Takes ((cxOf (L2.CX X.prog X.w) X.prog X.w X.K X.mg X.base Ng qg sg g cdg X.A X.stack s H Eg).tr pn xe) W) (hr : Room (k + 1) (X.A.deeper (envOfC qg sg s.heap.objs.size g cdg)))
    (hbody : ∀ (E : XK) (A : Around) (outer : List PySem.Env) (s : Shared) (H : Hp), Room k (A.deeper (lamEnv X scope s.heap.objs.size f c')) → PE (lamCx X A outer s H E scope f c') body (tb E))
    (hN : Ng[i]? = some a) (hv : Vis sg a) (hd : (a == ("__debug__" : Str)) = false) (hcd : (a == ("__classdict__" : Str)) = false) :
    PE ((cxOf (L2.CX X.prog X.w) X.prog X.w X.K X.mg X.base Ng qg sg g cdg X.A X.stack s H Eg).tr pn xe) (.Call (.Name a p1) [] [] p2)
      (fun σZ HZ Q => σZ[i]? = some (some (.ref f)) ∧ HZ c' = some (CodeO c' (X.env.qual ++ "<lambda>")) ∧ tb (fun cls d H' => W cls d σZ H') σ HZ Q) := by
  refine ⟨fun pinsZ sZ σZ HZ Q IZ ⟨hs, hc, ht⟩ => ?_⟩
  refine wpAny_Call_Name_kw (thn ((pe_var (pos := p1) (i := i) hN hv hd hcd).run pinsZ sZ σZ HZ (fun v H1 => v = .ref f ∧ H1 = HZ) IZ ⟨.ref f, hs, rfl, rfl⟩) fun u s1 ⟨v, H1, I1, r1, ev, eH⟩ => ?_)
  subst ev
  rw [eH] at I1
  obtain rfl : u = Value.ref f := r1
  have of1 := I1.base.keep f _ hf hfn hfr (fun z => nomatch (show f ∈ ([] : List Addr) from z))
  refine PySem.W.callWith_F0 ⟨_, _, _, _, of1⟩ ?_
  obtain ⟨⟨oc, vs, t, hoc, hdc, hvc⟩, _, _⟩ := I1.hok c' _ hc
  have rc : codeAny (model X.prog X.w) (X.A.deeper (envOfC qg sg s.heap.objs.size g cdg)) (.call (.ref f) ⟨[], []⟩) (CR (L2.CX X.prog X.w) (envOfC qg sg s.heap.objs.size g cdg :: X.stack) X.prog X.w HZ s1 Q (fun cls d H' => W cls d σZ H')) s1 := by
    refine PySem.W.kla_callFunE hr.depth of1 rfl L.co L.gen rfl ⟨c', oc, vs, t, rfl, hoc, hdc, hvc⟩ ?_
    rw [hbind]
    refine wpAny_pure (wpAny_newFunctionEnv (fun y hy => (L.own y hy).2) (fun y hy => absurd hy (by simp)) (fun h₁ hns hsb => ⟨I1.nolimit.fresh _ hsb, ?_⟩) L.kind)
    have J := lam_start2 (f := f) (c' := c') (E := fun cls d H' => W cls d σZ H') (tk := s1.toks + ([] : List (Str × Value)).length) I L I1.env0 hr.hd I1.base hns fun b o e => hsb.extBut b o (Nat.ne_of_lt (Heap.lt_size e)) (Heap.get?_push_of_some _ e)
    refine PySem.W.kla_codeExpr (wpAny_mono ((hbody _ _ _ s1 HZ (hr.deeper _)).run [] _ _ HZ Q J ht) (fun v s' ⟨w', H', J', rv, q⟩ => ?_) fun e s' hq => hq)
    exact ⟨w', H', J'.os, J'.bare, J'.base, J'.hok, rv, q⟩
  refine wpAny_call (codeAny_mono rc fun r s' hq => ?_)
  cases r with
  | error e => exact tk e s' (XE.of_call I1 (fun _ _ _ h => h) hq)
  | ok fl =>
    cases fl with
    | ret u => exact I1.after hq
    | next => exact False.elim hq
    | brk => exact False.elim hq
    | cont => exact False.elim hq
end
/-! ### a def that gets a thunk -/
/-- what is wanted of an end, told by its worth -/
def Want (K : PySem.W.Frag) (mg : Str → Option Value) (P H : Hp) (Q : L2.VK) (E : XK) : FRes → Prop
  | .ok d _ => ∀ (v : V) (P' H' : Hp), Lie P' H' → Stp Non P H Non P' H' → Rep K mg P' v d → Q v H'
  | .exn e => ∀ (cls : Value) (dx : Option Addr) (P' H' : Hp), Lie P' H' → Stp Non P H Non P' H' → ExR K mg P' cls dx e → E cls dx H'
  | .no => False
/-- a def x(work): fnT its worth by the thunk's -/
structure VTh (P : Program) (w : World) (K : PySem.W.Frag) (mg : Str → Option Value) (base : Heap) (lvl : Nat) (x : Str) (fnT : FRes → FRes) : Prop where
  ex : ∃ g : Addr, mg x = some (.ref g) ∧ PySem.W.keepIn K (.ref g) = true ∧ ∀ (A : Around) (outer : List PySem.Env) (s : Shared) (H P0 : Hp) (f : Addr) (Q : L2.VK) (E : XK) (r : FRes) (Th : XK → Hp → L2.VK → Prop), Room (lvl + 1) A → A.guards = some [] → Env0 P w K mg base A outer s H → Lie P0 H →
    (∀ (N : List Str) (qual : Str) (sg : Scope) (cdg : Value) (i : Nat) (a : Str) (pn : List (Addr × Obj)) (xe : Value → Shared → Prop) (W : L2.WX) (Eg : XK) (p1 p2 : Pos), Takes ((cxOf (L2.CX P w) P w K mg base N qual sg g cdg A outer s H Eg).tr pn xe) W → Room lvl (A.deeper (envOfC qual sg s.heap.objs.size g cdg)) → N[i]? = some a → Vis sg a →
      (a == ("__debug__" : Str)) = false → (a == ("__classdict__" : Str)) = false →
      PE ((cxOf (L2.CX P w) P w K mg base N qual sg g cdg A outer s H Eg).tr pn xe) (.Call (.Name a p1) [] [] p2) (fun σZ HZ Q => σZ[i]? = some (some (.ref f)) ∧ HZ = H ∧ Th (fun cls d H' => W cls d σZ H') HZ Q)) →
    (∀ (Q' : L2.VK) (E' : XK), Want K mg P0 H Q' E' r → Th E' H Q') → Want K mg P0 H Q E (fnT r) → codeAny (model P w) A (.call (.ref g) ⟨[.ref f], []⟩) (CR (L2.CX P w) outer P w H s Q E) s
/-- the worth of: try: a() (or told = a()) / except ..: .. / and what follows -/
def fTh (sub : List (Str × List (Str × Bool))) (n : Nat) (st : Option Nat) (hs : List HdD) (rest : DS) : FRes → FRes := fun r =>
  let δ0 : Env := some (.gh "any" []) :: List.replicate (n - 1) none
  match (match r with
    | .ok d _ => SRes.next (match st with
      | none => δ0
      | some i => δ0.set i (some d))
    | .exn e => dHs sub hs e δ0
    | .no => .no) with
  | .next δ => (match rest δ with
    | .ret d _ => .ok d []
    | .next _ => .ok .non []
    | .exn e _ => .exn e
    | _ => .no)
  | .ret d _ => .ok d []
  | .exn e _ => .exn e
  | _ => .no
section
variable {P : Program} {w : World} {K : PySem.W.Frag} {mg : Str → Option Value} {base : Heap}
theorem own_sh0 {P0 H : Hp} {v : V} {d : VL.D} {G : AS} (o : Own K mg .sh G P0 H v d) : Rep K mg P0 v d := o.2
/-- the first statement of such a def: work() -/
theorem vth_of {x qual : Str} {st : Stmt} {f : Addr} {fd : FuncData} {N : List Str} {a : Str} {sub : List (Str × List (Str × Bool))} {h0 : ExceptHandler} {hds : List ExceptHandler} {l : List HdD} {rest : List Stmt} {g : DS} {kdE : Kds} {lvl : Nat} {p1 p2 p3 p4 : Pos} (F : Fun K x qual st f fd) (S : FnScope N [a] (defScope st)) (hb : Binds K fd [a] []) (hm : mg x = some (.ref f))
    (hB : defBody st = .Try [.Expr (.Call (.Name a p1) [] [] p2) p3] (h0 :: hds) [] [] p4 :: rest) (hN : N[0]? = some a) (hv : Vis (defScope st) a) (hd : (a == ("__debug__" : Str)) = false) (hcd : (a == ("__classdict__" : Str)) = false)
    (hh : ∀ (cdv : Value) (A : Around) (outer : List PySem.Env) (s : Shared) (H : Hp) (E : XK), Room lvl (A.deeper (envOfC qual (defScope st) s.heap.objs.size f cdv)) → (A.deeper (envOfC qual (defScope st) s.heap.objs.size f cdv)).guards = some [] →
      ∃ m, VHs (cxOf (L2.CX P w) P w K mg base N qual (defScope st) f cdv A outer s H E) (fxOf .sh (fun _ => True) E) (List.replicate N.length .sh) (List.replicate N.length .sh) sub (h0 :: hds) l m)
    (hr : ∀ (cdv : Value) (A : Around) (outer : List PySem.Env) (s : Shared) (H : Hp) (E : XK), Room lvl (A.deeper (envOfC qual (defScope st) s.heap.objs.size f cdv)) → (A.deeper (envOfC qual (defScope st) s.heap.objs.size f cdv)).guards = some [] →
      VSs (cxOf (L2.CX P w) P w K mg base N qual (defScope st) f cdv A outer s H E) (fxOf .sh (fun _ => True) E) (List.replicate N.length .sh) kdE rest g)
    (hs : ∀ (cdv : Value) (A : Around) (outer : List PySem.Env) (s : Shared) (H : Hp) (E : XK), swapsWith (.Call (.Name a p1) [] [] p2) none p3.line (cxOf (L2.CX P w) P w K mg base N qual (defScope st) f cdv A outer s H E).env = pure false := by intros; rfl) :
    VTh P w K mg base lvl x (fTh sub N.length none l g) := by
  obtain ⟨oc, od, kV, doc, pm, an, cdv, ct, osl, rfl, lk, hco⟩ := F.ex
  refine ⟨f, hm, F.kp, fun A outer s H P0 fa Q E r Th hroom hgu e0 hP act hTh want => ?_⟩
  have KX : K.In s.heap := e0.mod.kin.keeps fun b o e => (e0.bs b o e).1
  refine run_ofS (us := [.ref fa]) (vs := [.ref fa]) lk hco S hroom e0 (hb s [.ref fa] KX rfl) (.cons rfl .nil) rfl fun hr' => ?_
  obtain ⟨m, V⟩ := hh cdv A outer s H E hr' hgu
  have tk0 : Takes (cxOf (L2.CX P w) P w K mg base N qual (defScope st) f cdv A outer s H E) (fun cls d _ H => E cls d H) := takes_def
  have T := ps_tryN (X := cxOf (L2.CX P w) P w K mg base N qual (defScope st) f cdv A outer s H E) (pos := p4) (Wout := fun cls d _ H => E cls d H)
    (tb := fun W D σ H' => σ[0]? = some (some (.ref fa)) ∧ H' = H ∧ Th (fun cls d H' => W cls d σ H') H' (fun v H1 => D.nx σ H1)) (body := [.Expr (.Call (.Name a p1) [] [] p2) p3]) rfl rfl S.nd tk0 (fun W pn xe tkW _ => by
      have := act N qual (defScope st) cdv 0 a pn xe W E p1 p2 tkW hr' hN hv hd hcd
      exact pss_one (ps_expr this (hs cdv A outer s H E))) V.ok
  rw [hB]
  refine ⟨_, pss_cons T (hr cdv A outer s H E hr' hgu), ?_⟩
  have h1N : 1 ≤ N.length := by
    have := (List.getElem?_eq_some_iff.mp hN).1
    omega
  have eS : L2.start N [.ref fa] = some (.ref fa) :: List.replicate (N.length - 1) none := by
    unfold L2.start
    rfl
  rw [eS]
  refine ⟨rfl, rfl, hTh _ _ ?_⟩
  -- the slots at the beginning
  have E0 : ∀ {P' H' : Hp}, Lie P' H' → EnvR K mg (List.replicate N.length .sh) (fun _ => Non) P' H' (some (.ref fa) :: List.replicate (N.length - 1) none) (some (.gh "any" []) :: List.replicate (N.length - 1) none) := fun {P' H'} hl => by
    refine ⟨hl, fun i d h => ?_, fun _ _ z => z.elim, fun _ _ _ z => z.elim, fun _ _ z => z.elim, by simp, by simp; omega⟩
    cases i with
    | zero =>
      simp only [List.getElem?_cons_zero, Option.some.injEq] at h
      subst h
      exact ⟨_, rfl, by rw [Kds.at_rep]; exact Own.sh_of (.gh0 _)⟩
    | succ i =>
      rw [List.getElem?_cons_succ, List.getElem?_replicate] at h
      split at h <;> cases h
  -- what follows the try
  have after : ∀ {δ : Env} {σ' : L2.St} {Fs' : Nat → AS} {P' H' : Hp}, (Want K mg P0 H Q E (match g δ with
      | .ret d _ => .ok d []
      | .next _ => .ok .non []
      | .exn e _ => .exn e
      | _ => .no)) → EnvR K mg (List.replicate N.length .sh) Fs' P' H' σ' δ → Stp Non P0 H Non P' H' → rdS K mg (fxOf .sh (fun _ => True) E) kdE (List.replicate N.length .sh) g { nx := fun _ H' => Q .non H', rt := Q } σ' H' := fun {δ σ' Fs' P' H'} hq E' s' => by
    have en : All Fs' = Non := E'.pure_non
    refine ⟨Fs', P', δ, E', ?_⟩
    revert hq
    cases g δ with
    | ret d δ2 =>
      intro hq kdr _ v σ2 Fs2 P2 H2 G E2 s2 f2 o2
      rw [en] at s2
      exact hq v P2 H2 E2.sub (s'.trans ⟨s2.keep, s2.grow, s2.newP, fun _ z => z.elim, s2.dom⟩) o2.2
    | next δ2 =>
      intro hq σ2 Fs2 P2 H2 E2 s2
      rw [en] at s2
      exact hq .non P2 H2 E2.sub (s'.trans ⟨s2.keep, s2.grow, s2.newP, fun _ z => z.elim, s2.dom⟩) .non
    | exn e δ2 =>
      intro hq kdr _ cls dx σ2 Fs2 P2 H2 E2 s2 x2
      rw [en] at s2
      exact hq cls dx P2 H2 E2.sub (s'.trans ⟨s2.keep, s2.grow, s2.newP, fun _ z => z.elim, s2.dom⟩) x2
    | brk δ2 => exact fun hq => hq.elim
    | cont δ2 => exact fun hq => hq.elim
    | no => exact fun hq => hq.elim
  revert want
  unfold fTh
  cases r with
  | no => exact fun want => want
  | ok d outs =>
    intro want v P' H' hl st' _
    exact after want (E0 hl) st'
  | exn e =>
    intro want cls dx P' H' hl st' hx
    refine hs_rd (fx := fxOf .sh (fun _ => True) E) (D := _) trivial V (E0 hl) hx ?_
    revert want
    simp only
    cases dHs sub l e (some (.gh "any" []) :: List.replicate (N.length - 1) none) with
    | next δ2 =>
      intro want σ2 Fs2 P2 H2 E2 s2
      rw [all_non] at s2
      have en2 : All Fs2 = Non := E2.pure_non
      rw [en2] at s2
      exact after want E2 (st'.trans s2)
    | ret d δ2 =>
      intro want kdr _ v σ2 Fs2 P2 H2 G E2 s2 f2 o2
      rw [all_non] at s2
      exact want v P2 H2 E2.sub (st'.trans ⟨s2.keep, s2.grow, s2.newP, fun _ z => z.elim, s2.dom⟩) o2.2
    | exn e2 δ2 =>
      intro want kdr _ cls dx σ2 Fs2 P2 H2 E2 s2 x2
      rw [all_non] at s2
      exact want cls dx P2 H2 E2.sub (st'.trans ⟨s2.keep, s2.grow, s2.newP, fun _ z => z.elim, s2.dom⟩) x2
    | brk δ2 => exact fun want => want.elim
    | cont δ2 => exact fun want => want.elim
    | no => exact fun want => want.elim
end
end VL

set_option Elab.async false
set_option linter.all false
set_option maxRecDepth 100000
set_option maxHeartbeats 2000000
/-! Layer V: the maker of a lambda. -/
namespace VL
open PySem PySem.Spec PyProof.Rows L2 LamX
/-- a freed object stands nowhere -/
theorem no_freed {h : Heap} {a : Addr} {o : Obj} (e : h.get? a = some o) : o.data ≠ .freed := by
  unfold Heap.get? at e
  split at e
  · cases e
  · rename_i h1
    intro z
    obtain ⟨c, d, dt, sl⟩ := o
    simp only at z
    subst z
    exact h1 _ _ _ e
section
variable {X : Cx} {pins : List (Addr × Obj)} {σ : L2.St} {H : Hp} {s : Shared}
/-- a lambda is made: the table alone is another, the rest of what is known stays -/
theorem lam_makeV {c P : Addr} {params : Arguments} {body : Expr} {scope : Scope} {pos : Pos} {E : Value → Shared → Prop} {Q : Value → Shared → Prop} (I : Inv X pins σ H s) (B : TabB X.base X.mg c P) (hcode : X.env.code = .ref c)
    (hT : TabS H P (X.env.qual ++ "<lambda>")) (hdef : defaultsOf params X.env = ([], [])) (hfree : ∀ y ∈ scope.names, y.2 = .free → ∃ c, X.env.cells.lookup y.1 = some c)
    (h : ∀ (f c' : Addr) (pm ctv : Value) (H1 : Hp) (s' : Shared), Inv X pins σ H1 s' → (∀ b o, b ≠ P → H b = some o → H1 b = some o) → TabS H1 P (X.env.qual ++ "<lambda>") →
      s'.heap.get? f = some (PySem.W.kla_obj "<lambda>" (X.env.qual ++ "<lambda>") params body scope (cloFrom X.env.cells scope.names []) pm c' ctv) → H1 f = none → f ∉ frs X.stack → H1 c' = some (CodeO c' (X.env.qual ++ "<lambda>")) → Q (.ref f) s') :
    wpAny (model X.prog X.w) X.A (eval (.Lambda params body scope pos) X.env) Q E s := by
  obtain ⟨ps, hP, ht, ha⟩ := hT
  have hP' : s.heap.get? P = some { cls := .none, data := .fields ps } := I.hok P _ hP
  have away : ∀ f, s.heap.objs.size ≤ f → f ∉ frs X.stack := fun f hf z => by
    rcases List.mem_cons.mp (I.stkSub _ z) with e | e
    · have h1 := I.lt
      rw [← e] at h1
      exact Nat.lt_irrefl _ (Nat.lt_of_lt_of_le h1 hf)
    · exact I.nofs hf e
  refine PySem.W.kla_eval hdef ?_
  cases hc : codeAmong pos ps.toList with
  | some cv =>
    obtain ⟨c', rfl, hco⟩ := ha pos cv hc
    refine PySem.W.kla_makeFunctionHit (mg := X.mg) (c := c) (P := P) (ps := ps) (closure_ok hfree) I.ok.glob (I.mod.glob.keeps I.bk) hcode (B.code.keeps I.bk) hP' ht hc (B.bm.keeps I.bk) fun ctv h' tk hx hsz => ?_
    exact h h'.objs.size c' ((X.mg "__name__").getD .none) ctv H _ (I.kept fun b o e => Heap.get?_push_of_some _ (hx b o e)) (fun _ _ _ e => e) ⟨ps, hP, ht, ha⟩ (Heap.get?_push_size _ rfl) (I.hok.fresh hsz) (away _ hsz) hco
  | none =>
    refine PySem.W.kla_makeFunction (mg := X.mg) (c := c) (P := P) (ps := ps) (closure_ok hfree) I.ok.glob (I.mod.glob.keeps I.bk) hcode (B.code.keeps I.bk) hP' ht hc B.gP (B.bm.keeps I.bk) fun c' ctv h' tk hx hge hlt hrec htb => ?_
    obtain ⟨c2, oc, vs, t, e2, hoc, hd, hv⟩ := hrec
    cases e2
    have nC : H c' = none := I.hok.fresh hge
    have hsz : s.heap.objs.size ≤ h'.objs.size := Nat.le_trans hge (Nat.le_of_lt hlt)
    have J := inv_table (t' := tk) (more := #[rawInt pos.line, rawInt pos.col, .ref c']) (h' := h'.push (PySem.W.kla_obj "<lambda>" (X.env.qual ++ "<lambda>") params body scope (cloFrom X.env.cells scope.names []) ((X.mg "__name__").getD .none) c' ctv)) I hP
      (fun b o hb e => Heap.get?_push_of_some _ (hx b o hb e)) (Heap.get?_push_of_some _ htb) hge ⟨oc, vs, t, Heap.get?_push_of_some _ hoc, hd, hv⟩
    have keep : ∀ b o, b ≠ P → H b = some o → upd (upd H P (.tbl (ps ++ #[rawInt pos.line, rawInt pos.col, .ref c']))) c' (CodeO c' (X.env.qual ++ "<lambda>")) b = some o := fun b o nb e => by
      rw [upd_ne (ne_of_none e nC), upd_ne nb]
      exact e
    have eL : (ps ++ #[rawInt pos.line, rawInt pos.col, .ref c']).toList = ps.toList ++ [rawInt pos.line, rawInt pos.col, .ref c'] := by simp
    have nP : ∀ c0, H c0 = some (CodeO c0 (X.env.qual ++ "<lambda>")) → c0 ≠ P := fun c0 e z => by
      rw [z, hP] at e
      exact codeO_ne ps (Option.some.inj e).symm
    refine h h'.objs.size c' ((X.mg "__name__").getD .none) ctv _ _ J keep ⟨_, by rw [upd_ne (ne_of_none hP nC), upd_same], by rw [eL]; exact PySem.TriplesOk_snoc _ _ _ _ ht, fun p' cv hcv => ?_⟩ (Heap.get?_push_size _ rfl) ?_ (away _ hsz) upd_same
    · rw [eL] at hcv
      rcases among_app _ ht hcv with z | z
      · obtain ⟨c0, e1, e2⟩ := ha p' cv z
        exact ⟨c0, e1, keep _ _ (nP c0 e2) e2⟩
      · exact ⟨c', z, upd_same⟩
    · rw [upd_ne (Nat.ne_of_gt hlt), upd_ne (Nat.ne_of_gt (Nat.lt_of_lt_of_le (Heap.lt_size hP') hsz))]
      exact I.hok.fresh hsz
end
section
variable {K : PySem.W.Frag} {mg : Str → Option Value} {kd : Kds} {Fs : Nat → AS} {P H P' H' : Hp} {σ : L2.St} {δ : Env}
/-- what was lent comes back -/
theorem cut_back (E : EnvR K mg kd Fs P H σ δ) (s' : Stp Non (add P H (All Fs)) H Non P' H') (sub' : Lie P' H') :
    EnvR K mg kd Fs (cutP P' (All Fs)) H' σ δ ∧ Stp (All Fs) P H (All Fs) (cutP P' (All Fs)) H' ∧ ∀ a xs, All Fs a → ¬ Rd P' a (.tup xs) := by
  have keep : ∀ a o, H a = some o → NoTb o → H' a = some o := fun a o e => s'.keep a o e fun z => z
  have gr : VL.Sub P (cutP P' (All Fs)) := fun a o e => by
    have nm : ¬ All Fs a := fun m => by rw [E.all_out a m] at e; cases e
    rw [cutP_out nm]
    exact s'.grow a o (by rw [add_out nm]; exact e)
  have sb : Lie (cutP P' (All Fs)) H' := fun a o e => by
    by_cases m : All Fs a
    · rw [cutP_in m] at e; cases e
    · rw [cutP_out m] at e; exact sub' a o e
  refine ⟨⟨sb, fun i e h => (let ⟨u, h1, o⟩ := E.slot i e h; ⟨u, h1, o.stay gr fun a w _ y => keep a w y⟩), E.only, E.sep, fun i a m => ⟨cutP_in ⟨i, m⟩, (let ⟨_, u, hu⟩ := E.out i a m; s'.dom a u hu)⟩, E.len, E.lenK⟩, ⟨fun a o e _ t => keep a o e t, gr, fun a o e => ?_, fun a m => .inl m, s'.dom⟩, fun a xs m z => ?_⟩
  · by_cases m : All Fs a
    · exact .inr (.inr m)
    · rw [cutP_out m] at e
      rcases s'.newP a o e with z | z | z
      · rw [add_out m] at z; exact .inl z
      · exact .inr (.inl z)
      · exact z.elim
  · obtain ⟨u, hu, mu⟩ := E.mu a m
    have hu' := keep a u hu mu.noTb
    refine E.noTup m (xs := xs) ?_
    rcases z with z | ⟨o, z⟩
    · have := sub'.at z; rw [hu'] at this; cases this; exact .inl hu
    · have := sub'.at z (by intro q y; unfold TbK at y; injection y with _ y; cases y); rw [hu'] at this; cases this; exact .inr ⟨o, hu⟩
/-- the state behind the making of a lambda -/
theorem EnvR.lam {P0 : Addr} {q : Str} {H1 : Hp} (E : EnvR K mg kd Fs P H σ δ) (hq : P P0 = some (TbK q)) (keep : ∀ b o, b ≠ P0 → H b = some o → H1 b = some o) (t0 : TabS H P0 q) (t1 : TabS H1 P0 q) : EnvR K mg kd Fs P H1 σ δ ∧ Stp (All Fs) P H (All Fs) P H1 := by
  obtain ⟨ps0, h0, _, _⟩ := t0
  have nt : ∀ a o, H a = some o → NoTb o → H1 a = some o := fun a o e n => keep a o (fun z => by subst z; rw [h0] at e; cases e; exact n _ rfl) e
  have dom : ∀ a o, H a = some o → ∃ o', H1 a = some o' := fun a o e => by
    by_cases z : a = P0
    · subst z; obtain ⟨ps, h, _⟩ := t1; exact ⟨_, h⟩
    · exact ⟨o, keep a o z e⟩
  have sb : Lie P H1 := fun a o e => by
    rcases E.sub a o e with ⟨h, n⟩ | ⟨r, rfl, t⟩
    · exact .inl ⟨nt a o h n, n⟩
    · refine .inr ⟨r, rfl, ?_⟩
      by_cases z : a = P0
      · subst z
        rw [hq] at e
        cases TbK.inj (Option.some.inj e)
        exact t1
      · obtain ⟨ps, h1, h2, h3⟩ := t
        refine ⟨ps, keep a _ z h1, h2, fun pos cv hc => ?_⟩
        obtain ⟨c, e1, e2⟩ := h3 pos cv hc
        exact ⟨c, e1, nt c _ e2 fun ps z => codeO_ne ps z⟩
  exact ⟨⟨sb, fun i d h => (let ⟨v, h1, o⟩ := E.slot i d h; ⟨v, h1, o.stay (Sub.refl _) fun a o _ e n => nt a o e n⟩), E.only, E.sep, fun i a h => (let ⟨h1, o, h2⟩ := E.out i a h; ⟨h1, dom a o h2⟩), E.len, E.lenK⟩, ⟨fun a o e _ n => nt a o e n, Sub.refl _, fun a o e => .inl e, fun a m => .inl m, dom⟩⟩
end
def toF : Res D → FRes
  | .ok d _ => .ok d []
  | .exn e _ => .exn e
  | .no => .no
/-- x(lambda: body): jt the slot of the table, q the lambda's name -/
def dLamF (jt : Nat) (q : Str) (fnT : FRes → FRes) (th : DE) : DE := fun δ => match δ[jt]? with
  | some (some (.gh c [(r, _)])) => if c = "tab" ∧ r = q then (match fnT (toF (th δ)) with
    | .ok d _ => if froz d = true then .ok d δ else .no
    | _ => .no) else .no
  | _ => .no
theorem ve_lamF {X : Cx} {kd : Kds} {W : L2.WX} {lvl : Nat} {x : Str} {fnT : FRes → FRes} {params : Arguments} {body : Expr} {scope : Scope} {th : DE} {c P0 : Addr} {p lpos pos : Pos} (jt : Nat) (q : Str) (V : VTh X.prog X.w X.K X.mg X.base (lvl + 1) x fnT) (hr : Room (lvl + 2) X.A) (hgd : X.A.guards = some []) (B : TabB X.base X.mg c P0) (hcode : X.env.code = .ref c)
    (hq : X.env.qual ++ "<lambda>" = q) (hk : kd.at jt = .pin P0 .sh) (L : LamS X.env.scope scope) (hdef : defaultsOf params X.env = ([], [])) (hbind : ∀ (q : Str) (cl : List (Str × Addr)) (pm cv ctv : Value), bindArgs (PySem.W.kla_fn "<lambda>" q params body scope cl pm cv ctv) ⟨[], []⟩ = pure [])
    (hbody : ∀ (A : Around) (outer : List PySem.Env) (s : Shared) (H : Hp) (E : XK) (f c' : Addr), Room lvl (A.deeper (lamEnv X scope s.heap.objs.size f c')) → VE (lamCx X A outer s H E scope f c') (List.replicate kd.length .sh) (fun cls d _ H => E cls d H) .sh body th)
    (hg : Gl X x := by rfl) (hdb : (x == ("__debug__" : Str)) = false := by decide) : VE X kd W .sh (.Call (.Name x p) [.Lambda params body scope lpos] [] pos) (dLamF jt q fnT th) := by
  subst hq
  obtain ⟨g, hm, hkp, run⟩ := V.ex
  refine ⟨fun pins s σ H Q I ⟨Fs, P, δ, E, h⟩ => ?_⟩
  unfold dLamF at h
  split at h
  · rename_i c0 r d0 ej
    by_cases hcr : c0 = "tab" ∧ r = X.env.qual ++ "<lambda>"
    · rw [if_pos hcr] at h
      obtain ⟨rfl, rfl⟩ := hcr
      obtain ⟨v0, hv0, o0⟩ := E.slot jt _ ej
      rw [hk] at o0
      obtain ⟨rfl, _, r0⟩ := o0
      have hP0 : P P0 = some (TbK (X.env.qual ++ "<lambda>")) := by
        cases r0 with
        | ght hp => exact hp
      have t0 : TabS H P0 (X.env.qual ++ "<lambda>") := by
        rcases E.sub P0 _ hP0 with ⟨e, _⟩ | ⟨r, e, t⟩
        · have := I.hok P0 _ e
          unfold TbK at this
          exact (no_freed this.1 rfl).elim
        · rw [TbK.inj e]; exact t
      refine wpAny_Call_Name_kw (ld_glob I hg hm ?_ hdb)
      refine PySem.W.callWith_K (h₀ := X.base) I.ok.mod.kin hkp ?_ (by rfl) (by rfl)
      show wpAny _ _ (spliced ((false, eval (.Lambda params body scope lpos) X.env) :: backTo pos (starEach [] X.env))) _ _ s
      refine Calls.spliced_cons (lam_makeV I B hcode t0 hdef (L.has I.ok) fun f c' pm' ctv H1 s' I1 keep t1 hf hfn hfr hco => ?_)
      refine Calls.spliced_nil ⟨I1.kIn, ?_⟩
      obtain ⟨E1, S1⟩ := E.lam hP0 keep t0 t1
      have ES := E1.seen
      have rc := run X.A X.stack s' H1 (add P H1 (All Fs)) f Q (fun _ _ _ => False) (toF (th δ)) (fun E' HZ Q' => rdE X.K X.mg (List.replicate kd.length .sh) (fun cls d _ H => E' cls d H) .sh th σ HZ Q') hr hgd I1.env0 ES.sub
        (fun N qual sg cdg i a pn xe W' Eg p1 p2 tk hr' hN hv hd hcd => PE.imp (pe_actS (tb := fun E' => rdE X.K X.mg (List.replicate kd.length .sh) (fun cls d _ H => E' cls d H) .sh th) I1 L hf hfn hfr (hbind _ _ _ _ _) tk hr' (fun E' A outer s2 H2 hr2 => hbody A outer s2 H2 E' f c' hr2) hN hv hd hcd) fun σZ HZ Q' ⟨z1, z2, z3⟩ => ⟨z1, by rw [z2]; exact hco, z3⟩)
        (fun Q' E' hw => ?_) ?_
      · refine wpAny_call (codeAny_mono rc fun r s2 hq => ?_)
        cases r with
        | error e => obtain ⟨_, _, _, _, _, _, _, _, _, _, _, _, z⟩ := hq; exact z.elim
        | ok fl =>
          cases fl with
          | ret u => exact I1.after hq
          | next => exact False.elim hq
          | brk => exact False.elim hq
          | cont => exact False.elim hq
      · refine ⟨fun _ => Non, _, δ, ES, ?_⟩
        revert hw
        cases th δ with
        | no => exact fun hw => hw
        | ok d δ2 =>
          intro hw v Fs' P' H' G E' s2 f2 o2
          rw [all_non, E'.pure_non] at s2
          exact hw v P' H' E'.sub s2 o2.2
        | exn e δ2 =>
          intro hw cls dx Fs' P' H' E' s2 x2
          rw [all_non, E'.pure_non] at s2
          exact hw cls dx P' H' E'.sub s2 x2
      · revert h
        cases fnT (toF (th δ)) with
        | no => exact fun h => h
        | exn e => exact fun h => h.elim
        | ok d outs =>
          intro h v P' H' hl st rv
          simp only at h
          by_cases hz : froz d = true
          · rw [if_pos hz] at h
            obtain ⟨E2, S2, noT⟩ := cut_back E1 st hl
            exact h v Fs _ H' Non E2 (S1.trans S2) Fr.non (Own.sh_of (rv.cut noT hz))
          · rw [if_neg hz] at h; exact h.elim
    · rw [if_neg hcr] at h; exact h.elim
  · exact h.elim
end VL

set_option Elab.async false
set_option linter.all false
set_option maxRecDepth 100000
/-! Layer V: repr of data, where nothing is being shown. -/
namespace VL
open PySem PySem.Spec PyProof.Rows L2
def kPy : Key → PyData
  | .inl i => .int i
  | .inr x => .str x
/-- a dict of flat values, as data -/
def dctPy (es : List (Key × D)) : PyData := .dict (es.map fun p => (kPy p.1, toPy p.2))
def flatD : D → Bool
  | .non => true
  | .bl _ => true
  | .int _ => true
  | .str _ => true
  | _ => false
def shOk (p : PyData) : Bool := p.showable && decide (p.shown.length ≤ sizeLine)
def reprPy : D → PyData
  | .dct es => dctPy es
  | d => toPy d
def reprB : D → Bool
  | .dct es => (es.all fun p => flatD p.2) && shOk (dctPy es)
  | d => okD d && shOk (toPy d)
def reprD : List D → Option D
  | [d] => if reprB d = true then some (.str (reprPy d).shown) else none
  | _ => none
/-- what is to be shown, as it lies -/
def Sp1 (K : PySem.W.Frag) (H : Hp) (v : V) (p : PyData) : Prop := (∃ d, p = d ∧ Dp K H v p ∧ p.hasDict = false ∧ p.depth ≤ 64) ∨
  ∃ (a : Addr) (kvs : List (Key × V)) (ps : List PyData), v = .ref a ∧ H a = some (.dK kvs) ∧ p = .dict ((kvs.map fun q => kPy q.1).zip ps) ∧ DpAll K H (kvs.map (·.2)) ps ∧ ps.length = kvs.length ∧ (∀ q ∈ ps, q.depth = 0 ∧ q.hasDict = false)
def rRepr (K : PySem.W.Frag) : List V → Hp → L2.VK → Prop := fun xs H Q => ∃ v p, xs = [v] ∧ Sp1 K H v p ∧ p.showable = true ∧ p.shown.length ≤ sizeLine ∧ Q (.str p.shown) H
mutual
theorem flat_as {h : Heap} : ∀ {u : Value} {d : PyData} {as : List Addr}, Reads h u d as → d.depth = 0 → as = []
  | _, _, _, .none, _ => rfl
  | _, _, _, .bool _, _ => rfl
  | _, _, _, .int _ _, _ => rfl
  | _, _, _, .str _ _, _ => rfl
  | _, _, _, .list _ _ _ _, e => by simp [PyData.depth] at e
  | _, _, _, .tuple _ _ _ _, e => by simp [PyData.depth] at e
  | _, _, _, .dict _ _ _ _ _, e => by simp [PyData.depth] at e
end
theorem flatAll_as {h : Heap} : ∀ {us : List Value} {ds : List PyData} {as : List Addr}, ReadsAll h us ds as → (∀ d ∈ ds, d.depth = 0) → as = []
  | _, _, _, .nil, _ => rfl
  | _, _, _, .cons a b, e => by
    rw [flat_as a (e _ (List.mem_cons_self ..)), flatAll_as b fun d hd => e d (List.mem_cons_of_mem _ hd)]
    rfl
theorem keys_read {h : Heap} {P : Program} {w : World} : ∀ {es : List DictEntry} {kvs : List (Key × Value)}, Pairs (mixKind P w) es kvs → ReadsAll h (es.map (·.key)) (kvs.map fun p => kPy p.1) []
  | _, _, .nil => .nil
  | _, _, .cons (e := e) (kv := kv) h1 h2 r => by
    have t := keys_read (h := h) r
    have h1' : keyIs kv.1 e.key = true := h1
    rcases keyIs_shape h1' with ⟨i, t0, e1, e2⟩ | ⟨x, t0, e1, e2⟩
    · rw [List.map_cons, List.map_cons, e1, e2]
      exact .cons (as := []) (.int i t0) t
    · rw [List.map_cons, List.map_cons, e1, e2]
      exact .cons (as := []) (.str x t0) t
theorem vals_pair {P : Program} {w : World} : ∀ {es : List DictEntry} {kvs : List (Key × Value)}, Pairs (mixKind P w) es kvs → es.map (·.val) = kvs.map (·.2)
  | _, _, .nil => rfl
  | _, _, .cons _ h2 r => by rw [List.map_cons, List.map_cons, h2, vals_pair r]
theorem cr_repr {X : Cx} (hg : X.A.guards = some []) (hu : X.A.units + 70 < cLine) : CallR X (.builtin "repr") (rRepr X.K) := by
  intro pins s σ H xs us Q I r hr
  obtain ⟨v, p, rfl, hp, hs, hz, q⟩ := hr
  obtain ⟨u, rfl, rv⟩ : ∃ u, us = [u] ∧ RelV v u := by
    cases r with
    | cons a b => cases b; exact ⟨_, rfl, a⟩
  have fin : ∀ (h' : Heap) (t tk : Tok), (∀ b o, s.heap.get? b = some o → h'.get? b = some o) → EP X pins σ Q (.str p.shown t) { s with heap := h', toks := tk } := fun h' t tk k => ⟨.str p.shown, H, I.kept (t' := tk) k, ⟨_, rfl⟩, q⟩
  rcases hp with ⟨d, rfl, hd, hn, hdp⟩ | ⟨a, kvs, ps, rfl, ha, rfl, hps, hl, hf⟩
  · obtain ⟨as, R⟩ := Dp.reads I p v u hd rv
    have flat : ∀ a, u = .ref a → wpAny (model X.prog X.w) X.A (call (.builtin "repr") [u]) (EP X pins σ Q) X.xe s := fun a e => by
      subst e
      exact repr_of_reads' R hs (PyData.noDict_hsm hn) hg (by omega) (fun _ _ e => e) (fun h' t tk k => fin h' t tk k) hz
    cases R with
    | none => exact PySem.P.repr_of_none (by simpa [PyData.shown] using fin s.heap s.toks (s.toks + 1) fun _ _ e => e)
    | bool b => exact PySem.P.repr_of_bool (by simpa [PyData.shown] using fin s.heap s.toks (s.toks + 1) fun _ _ e => e)
    | int i t => exact PySem.P.repr_of_int (by simpa [PyData.showable] using hs) (by simpa [PyData.shown] using fin s.heap s.toks (s.toks + 1) fun _ _ e => e)
    | str x t => exact PySem.P.repr_of_str (by simpa [PyData.shown] using fin s.heap s.toks (s.toks + 1) fun _ _ e => e) (by simpa [PyData.shown] using hz)
    | list _ _ _ _ => exact flat _ rfl
    | tuple _ _ _ _ => exact flat _ rfl
    | dict _ _ _ _ _ => exact flat _ rfl
  · obtain rfl : u = Value.ref a := rv
    obtain ⟨hz0, hsys, vs, hkv, o, es, ep, ho, hx, hdt, hk, hpr, hnd⟩ := (show ObjOk X.prog X.w H s.heap a (.dK kvs) from I.hok a _ ha)
    have hkv' : kvs.map (·.1) = vs.map (·.1) ∧ Vals (kvs.map (·.2)) (vs.map (·.2)) := by
      clear ha hps hl q hpr hnd hs hz fin hz0
      induction hkv with
      | nil => exact ⟨rfl, .nil⟩
      | cons a b ih => exact ⟨by rw [List.map_cons, List.map_cons, a.1, ih.1], .cons a.2 ih.2⟩
    obtain ⟨bs, RV⟩ := Dp.readsAll I ps _ _ hps hkv'.2
    have eb := flatAll_as RV fun d hd => (hf d hd).1
    subst eb
    have RK : ReadsAll s.heap (es.toList.map (·.key)) (kvs.map fun p => kPy p.1) [] := by
      have := keys_read (h := s.heap) hpr
      have ek : (kvs.map fun q => kPy q.1) = vs.map fun q => kPy q.1 := by
        have := congrArg (List.map kPy) hkv'.1
        rw [List.map_map, List.map_map] at this
        exact this
      rw [ek]
      exact this
    have R : Reads s.heap (.ref a) (.dict ((kvs.map fun q => kPy q.1).zip ps)) (a :: [] ++ []) := by
      refine .dict ho hx.1 hdt ?_ ?_
      · rw [List.map_fst_zip (by rw [List.length_map, hl]; exact Nat.le_refl _)]
        exact RK
      · rw [List.map_snd_zip (by rw [List.length_map, hl]; exact Nat.le_refl _), vals_pair hpr]
        exact RV
    refine repr_of_reads' R hs (fun _ m => ?_) hg ?_ (fun _ _ e => e) (fun h' t tk k => fin h' t tk k) hz
    · simp only [List.append_nil, List.mem_singleton] at m
      rw [← m] at hsys
      simp at hsys
    · have : ∀ l : List (PyData × PyData), (∀ p ∈ l, p.1.depth = 0 ∧ p.2.depth = 0) → PyData.depthKv l = 0 := by
        intro l
        induction l with
        | nil => intro _; simp [PyData.depthKv]
        | cons p l ih => intro h; obtain ⟨h1, h2⟩ := h p (List.mem_cons_self ..); simp [PyData.depthKv, h1, h2, ih fun p hp => h p (List.mem_cons_of_mem _ hp)]
      have e : PyData.depthKv ((kvs.map fun q => kPy q.1).zip ps) = 0 := this _ fun p hp => by
        have h1 := (List.of_mem_zip hp).1
        have h2 := (List.of_mem_zip hp).2
        obtain ⟨k, _, e⟩ := List.mem_map.mp h1
        refine ⟨?_, (hf _ h2).1⟩
        rw [← e]
        cases k.1 <;> simp [kPy, PyData.depth]
      simp only [PyData.depth, e]
      omega
theorem flat_dp {K : PySem.W.Frag} {mg : Str → Option Value} {P H : Hp} {v : V} {d : D} (hf : flatD d = true) (r : Rep K mg P v d) : Dp K H v (toPy d) ∧ (toPy d).depth = 0 ∧ (toPy d).hasDict = false := by
  cases r with
  | non => exact ⟨.non, by simp [toPy, PyData.depth], by simp [toPy, PyData.hasDict]⟩
  | bl b => exact ⟨.bl b, by simp [toPy, PyData.depth], by simp [toPy, PyData.hasDict]⟩
  | int i => exact ⟨.int i, by simp [toPy, PyData.depth], by simp [toPy, PyData.hasDict]⟩
  | str x => exact ⟨.str x, by simp [toPy, PyData.depth], by simp [toPy, PyData.hasDict]⟩
  | _ => cases hf
theorem flats_dp {K : PySem.W.Frag} {mg : Str → Option Value} {P H : Hp} : ∀ {vs : List V} {ds : List D}, (∀ d ∈ ds, flatD d = true) → RepL K mg P vs ds → DpAll K H vs (ds.map toPy) ∧ ∀ q ∈ ds.map toPy, q.depth = 0 ∧ q.hasDict = false
  | _, _, _, .nil => ⟨.nil, by simp⟩
  | _, _, h, .cons a b => by
    obtain ⟨h1, h2, h3⟩ := flat_dp (H := H) (h _ (List.mem_cons_self ..)) a
    obtain ⟨g1, g2⟩ := flats_dp (H := H) (fun d hd => h d (List.mem_cons_of_mem _ hd)) b
    refine ⟨.cons h1 g1, fun q hq => ?_⟩
    rw [List.map_cons] at hq
    rcases List.mem_cons.mp hq with rfl | hq
    · exact ⟨h2, h3⟩
    · exact g2 q hq
theorem zip_maps {α β γ δ : Type} (f : α → γ) (g : β → δ) : ∀ l : List (α × β), (l.map fun p => f p.1).zip ((l.map (·.2)).map g) = l.map fun p => (f p.1, g p.2)
  | [] => rfl
  | p :: l => by simp only [List.map_cons, List.zip_cons_cons, zip_maps f g l]
theorem d_repr {K : PySem.W.Frag} {mg : Str → Option Value} : ArD K mg (rRepr K) .sh reprD := by
  intro P H vs ds z Q s r h c
  unfold reprD at h
  split at h
  · rename_i d
    obtain ⟨v, rfl, rv⟩ := ar1 r
    split at h
    · rename_i hb
      cases h
      have gen : ∀ d, Rep K mg P v d → okD d = true → shOk (toPy d) = true → (∀ v P' H' G, Stp Non P H Non P' H' → Lie P' H' → Fr G H Non P' H' → Own K mg .sh G P' H' v (.str (toPy d).shown) → Q v H') → rRepr K [v] H Q := fun d rv h1 h2 c => by
        unfold shOk at h2
        rw [Bool.and_eq_true, decide_eq_true_eq] at h2
        have hd := dp_of s (plain_of h1) rv
        have hdep : (toPy d).depth ≤ 64 := by
          rw [depth_py]
          unfold okD at h1
          rw [Bool.and_eq_true, decide_eq_true_eq] at h1
          exact h1.2
        exact ⟨v, toPy d, rfl, .inl ⟨_, rfl, hd, PyData.hasDict_of_canLay _ (canLay_of_plain d (plain_of h1)), hdep⟩, h2.1, h2.2, Cont.val c s (.str _)⟩
      cases d with
      | dct es =>
        have hb' : (es.all fun p => flatD p.2) = true ∧ shOk (dctPy es) = true := by simpa [reprB] using hb
        obtain ⟨h1, h2⟩ := hb'
        unfold shOk at h2
        rw [Bool.and_eq_true, decide_eq_true_eq] at h2
        cases rv with
        | @dct a kvs _ hp he hr =>
          have hfl : ∀ d ∈ es.map (·.2), flatD d = true := fun d hd => by
            obtain ⟨p, hp, rfl⟩ := List.mem_map.mp hd
            exact List.all_eq_true.mp h1 p hp
          obtain ⟨g1, g2⟩ := flats_dp (H := H) hfl hr
          have hlen : kvs.length = es.length := by have := congrArg List.length he; simpa using this
          have epy : dctPy es = .dict ((kvs.map fun q => kPy q.1).zip ((es.map (·.2)).map toPy)) := by
            unfold dctPy
            have ek : (kvs.map fun q => kPy q.1) = es.map fun q => kPy q.1 := by
              have := congrArg (List.map kPy) he
              rw [List.map_map, List.map_map] at this
              exact this
            rw [ek, zip_maps]
          refine ⟨_, dctPy es, rfl, .inr ⟨a, kvs, (es.map (·.2)).map toPy, rfl, s.at hp, epy, g1, by simp [hlen], g2⟩, h2.1, h2.2, Cont.val c s (.str _)⟩
      | _ =>
        simp only [reprB, Bool.and_eq_true] at hb
        exact gen _ rv hb.1 hb.2 c
    · cases h
  · cases h
section
variable {X : Cx} {kd : Kds} {W : L2.WX} {pos p : Pos} {e : Expr} {f : DE}
theorem ve_repr (hgd : X.A.guards = some []) (hu : X.A.units + 70 < cLine) (he : VE X kd W .sh e f) (hm : X.mg "repr" = none) (hg : Gl X "repr" := by rfl) (hs : starEach [e] X.env = (false, eval e X.env) :: starEach [] X.env := by rfl) :
    VE X kd W .sh (.Call (.Name "repr" p) [e] [] pos) (dAr reprD (dCons f dNil)) :=
  ve_callB (cr_repr hgd hu) d_repr hm (by decide +kernel) (va_cons he va_nil hs) hg (by decide) (by decide) hs (by rfl)
end
end VL

set_option Elab.async false
set_option linter.all false
set_option maxRecDepth 100000
set_option maxHeartbeats 2000000
/-! Layer V: the end of a law whose def makes lambdas and shows values: the law's own call, where nothing else is under way. -/
namespace VL
open PySem PySem.Spec PyProof.Rows L2 LamX
/-- what the law's call asks, told of the very state at which it is made -/
def CallG (P : Program) (w : World) (K : PySem.W.Frag) (mg : Str → Option Value) (fa : Addr) (T : List (Addr × Addr)) (n : Nat) : Prop :=
  ∀ (base : Heap) (s : Shared) (H : Hp) (a : Addr) (ns : List Int), K.In base → base.Ns mainGlobals mg → (∀ p ∈ T, TabB base mg p.1 p.2) → (∀ p ∈ T, H p.2 = some (.tbl #[])) → SqL K H a (ns.map V.int) → ns.length ≤ n →
    Env0 P w K mg base callerA [] s H → codeAny (model P w) callerA (.call (.ref fa) ⟨[.ref a], []⟩) (CR (L2.CX P w) [] P w H s (fun v _ => v = .bl true) fun _ _ _ => False) s
section
variable {P : Program} {w : World} {K : PySem.W.Frag} {mg mb : Str → Option Value} {fa a : Addr} {T : List (Addr × Addr)} {n : Nat} {s : Shared} {vs : List Value} {ns : List Int}
/-- the heap that is known at the beginning: the tables, and the script where the written part does not hold it -/
def H0 (K : PySem.W.Frag) (T : List (Addr × Addr)) (a : Addr) (vs : List Value) (ns : List Int) : Hp := fun b =>
  if b ∈ T.map (·.2) then some (.tbl #[]) else if b = a ∧ (K.lookup a).isNone = true then some (.frz { cls := .type "list", data := .seq vs.toArray } (.lst (ns.map V.int))) else none
theorem H0_tab {b : Addr} (h : b ∈ T.map (·.2)) : H0 K T a vs ns b = some (.tbl #[]) := if_pos h
theorem H0_cases (b : Addr) : (b ∈ T.map (·.2) ∧ H0 K T a vs ns b = some (.tbl #[])) ∨ (b ∉ T.map (·.2) ∧ b = a ∧ K.lookup a = none ∧ H0 K T a vs ns b = some (.frz { cls := .type "list", data := .seq vs.toArray } (.lst (ns.map V.int)))) ∨ (b ∉ T.map (·.2) ∧ H0 K T a vs ns b = none) := by
  unfold H0
  by_cases h1 : b ∈ T.map (·.2)
  · exact .inl ⟨h1, if_pos h1⟩
  · rw [if_neg h1]
    by_cases h2 : b = a ∧ (K.lookup a).isNone = true
    · rw [if_pos h2]
      exact .inr (.inl ⟨h1, h2.1, Option.isNone_iff_eq_none.mp h2.2, rfl⟩)
    · rw [if_neg h2]
      exact .inr (.inr ⟨h1, rfl⟩)
theorem callG_ok (KX : K.In s.heap) (hns : s.heap.Ns mainGlobals mg) (hb : s.heap.Ns builtinsNs mb) (hbb : ∀ x : Str, x ≠ "__name__" → mb x = bootBuiltins x) (hlim : s.heap.NoLimit) (hg : s.gens = #[])
    (hT : ∀ p ∈ T, s.heap.get? p.2 = some { cls := .none, data := .fields #[] }) (nT : ∀ p ∈ T, K.lookup p.2 = none) (hC : ∀ p ∈ T, PySem.W.CodeHd s.heap p.1 p.2)
    (hbm : ∃ (bm : Addr) (ob : Obj), mg "__builtins__" = some (.ref bm) ∧ bm ≠ builtinsNs ∧ s.heap.get? bm = some ob ∧ ob.cls = .type "module" ∧ ob.dict = some builtinsNs ∧ ob.data = .plain)
    (ha : s.heap.get? a = some { cls := .type "list", data := .seq vs.toArray }) (hi : IntsAre vs ns) (hl : ns.length ≤ n) (hl2 : n ≤ sizeLine) (F : CallG P w K mg fa T n) :
    codeAny (model P w) callerA (.call (.ref fa) ⟨[.ref a], []⟩) (fun r s' => r = .ok (.ret (.bool true)) ∧ OldK s.heap s'.heap ∧ s'.os = s.os ∧ AllBare s'.gens) s := by
  have tabO : ∀ {b : Addr}, b ∈ T.map (·.2) → s.heap.get? b = some { cls := .none, data := .fields #[] } := fun {b} h => by
    obtain ⟨p, hp, rfl⟩ := List.mem_map.mp h
    exact hT p hp
  obtain ⟨H, eH⟩ : ∃ H, H = H0 K T a vs ns := ⟨_, rfl⟩
  have cs := fun b => H0_cases (K := K) (T := T) (a := a) (vs := vs) (ns := ns) b
  rw [← eH] at cs
  -- what is not a table and no list of values is not tracked
  have free : ∀ {b : Addr} {o : Obj}, s.heap.get? b = some o → o.data ≠ .fields #[] → (∀ z m, o.data ≠ .seq z m) → H b = none := fun {b o} e n1 n2 => by
    rcases cs b with ⟨h, _⟩ | ⟨_, h, _, _⟩ | ⟨_, h⟩
    · rw [tabO h] at e; cases e; exact (n1 rfl).elim
    · rw [h, ha] at e; cases e; exact (n2 _ _ rfl).elim
    · exact h
  have stay : ∀ {b : Addr} {o : Obj}, s.heap.get? b = some o → o.data ≠ .fields #[] → (∀ z m, o.data ≠ .seq z m) → (hidT s.heap H).get? b = some o := fun e n1 n2 => hidT_get e (free e n1 n2)
  have nsB : ∀ {b : Addr} {m : Str → Option Value}, s.heap.Ns b m → (hidT s.heap H).Ns b m := fun ⟨o, es, ep, e, d, r⟩ => ⟨o, es, ep, stay e (by rw [d]; intro z; cases z) (by rw [d]; intro _ _ z; cases z), d, r⟩
  have kB : K.In (hidT s.heap H) := fun b o e => hidT_get (KX b o e) (by
    rcases cs b with ⟨h, _⟩ | ⟨_, h, h2, _⟩ | ⟨_, h⟩
    · obtain ⟨p, hp, rfl⟩ := List.mem_map.mp h
      rw [nT p hp] at e; cases e
    · rw [h, h2] at e; cases e
    · exact h)
  have modB : L2.Mod K mg (hidT s.heap H) := ⟨kB, nsB hns, ⟨mb, nsB hb, hbb⟩, let ⟨mc, h1, h2⟩ := hlim; ⟨mc, nsB h1, h2⟩⟩
  have tabB : ∀ p ∈ T, TabB (hidT s.heap H) mg p.1 p.2 := fun p hp => by
    have hTp := hT p hp
    refine ⟨?_, ?_, fun z => ?_⟩
    · obtain ⟨o, us, file, tf, flags, tg, inF, text, tt, e1, r1, r2, r3, rest⟩ := hC p hp
      refine ⟨o, us, file, tf, flags, tg, inF, text, tt, stay e1 (fun z => ?_) (fun _ _ z => ?_), r1, r2, r3, rest⟩
      · rw [r2] at z; cases z; simp at r3
      · rw [r2] at z; cases z
    · obtain ⟨bm, ob, b1, b2, b3, b4, b5, b6⟩ := hbm
      refine ⟨bm, ob, b1, b2, fun q => ?_, fun q => ?_, stay b3 (by rw [b6]; intro z; cases z) (by rw [b6]; intro _ _ z; cases z), b4, b5, b6⟩
      · obtain ⟨o, es, ep, e, hd, _⟩ := hns
        rw [q, e] at b3; cases b3; rw [hd] at b6; cases b6
      · rw [q, hTp] at b3; cases b3; cases b6
    · obtain ⟨o, es, ep, e, hd, _⟩ := hns
      rw [z, hTp] at e; cases e; cases hd
  have hlen : (ns.map V.int).length ≤ sizeLine := by rw [List.length_map]; omega
  have okH : HOk P w H s.heap := fun b u e => by
    rcases cs b with ⟨h, h2⟩ | ⟨_, rfl, _, h2⟩ | ⟨_, h2⟩
    · rw [h2] at e; cases e; exact tabO h
    · rw [h2] at e; cases e; exact ⟨ha, hlen, vs, _, vals_ints hi, ha⟩
    · rw [h2] at e; cases e
  have sq : SqL K H a (ns.map V.int) := by
    rcases cs a with ⟨h, _⟩ | ⟨_, _, _, h2⟩ | ⟨h1, h2⟩
    · have := tabO h; rw [ha] at this; cases this
    · exact .inl (.inr ⟨_, h2⟩)
    · cases hk : K.lookup a with
      | none =>
        rw [eH] at h2
        unfold H0 at h2
        rw [if_neg h1, if_pos ⟨rfl, by rw [hk]; rfl⟩] at h2
        cases h2
      | some o =>
        have e := KX a o hk
        rw [ha] at e
        cases e
        have := hi.length
        exact .inr ⟨_, vs.toArray, _, hk, rfl, rfl, rfl, by rw [List.size_toArray, this]; omega, by simpa using vals_ints hi⟩
  have e0 : Env0 P w K mg (hidT s.heap H) callerA [] s H := ⟨rfl, modB, fun b o e => of_hidT e, Nat.le_of_eq (hidT_size _ _), trivial, fun b z => absurd (show b ∈ ([] : List Addr) from z) (by simp), okH, .of_eq hg⟩
  refine codeAny_mono (F _ s H a ns kB (nsB hns) tabB (fun p hp => by
    rcases cs p.2 with ⟨_, h⟩ | ⟨h, _⟩ | ⟨h, _⟩
    · exact h
    · exact (h (List.mem_map.mpr ⟨p, hp, rfl⟩)).elim
    · exact (h (List.mem_map.mpr ⟨p, hp, rfl⟩)).elim) sq hl e0) fun r s' h => ?_
  cases r with
  | error e => obtain ⟨_, _, _, _, _, _, _, _, _, _, _, _, z⟩ := h; exact z.elim
  | ok fl =>
    cases fl with
    | next => exact False.elim h
    | brk => exact False.elim h
    | cont => exact False.elim h
    | ret u =>
      obtain ⟨v, H', os, bare, un, ok', rv, rfl⟩ := h
      obtain rfl : u = Value.bool true := rv
      have old : ∀ b o, b ∉ T.map (·.2) → s.heap.get? b = some o → s'.heap.get? b = some o := fun b o nb e => by
        rcases cs b with ⟨h, _⟩ | ⟨_, rfl, _, h2⟩ | ⟨_, h2⟩
        · exact (nb h).elim
        · have := (ok' b _ (un.frzs b _ _ h2)).1
          rw [ha] at e
          cases e
          exact this
        · exact un.keep b o e h2 (by intro z; exact absurd (show b ∈ ([] : List Addr) from z) (by simp)) (by simp)
      have grown : ∀ {b : Addr}, b ∈ T.map (·.2) → ∃ more : Array Value, s'.heap.get? b = some { cls := .none, data := .fields more } := fun {b} h => by
        rcases cs b with ⟨_, h2⟩ | ⟨h2, _⟩ | ⟨h2, _⟩
        · obtain ⟨more, z⟩ := un.tbls b #[] h2
          exact ⟨_, ok' b _ z⟩
        · exact (h2 h).elim
        · exact (h2 h).elim
      refine ⟨rfl, ⟨fun b o e => ?_, fun b o e => ?_⟩, os, bare⟩
      · by_cases hb2 : b ∈ T.map (·.2)
        · obtain ⟨more, hm⟩ := grown hb2
          obtain ⟨p, hp, rfl⟩ := List.mem_map.mp hb2
          rw [hT p hp] at e
          cases e
          exact .inr (.inl ⟨((hC p hp).tab (hT p hp)).isCodeTable, rfl, #[], more, rfl, by rw [Array.empty_append]; exact hm⟩)
        · exact .inl (old b o hb2 e)
      · by_cases hb2 : b ∈ T.map (·.2)
        · obtain ⟨more, hm⟩ := grown hb2
          exact ⟨_, hm⟩
        · exact ⟨o, old b o hb2 e⟩
end
/-- the end of such a law -/
theorem walkG {l : PySem.W.OpenLaw} {q : Program} {loose : List Str} {XP : (Str → Option Value) → Heap → Prop} {YP : World → Heap → Prop} {d : DefRec} {K : Params → PySem.W.Frag} (hn : l.most = some 63) (hdf : d.params.defaults = []) (hY : ∀ (w : World) (h : Heap), YP w h → (K w.params).In h)
    (F : ∀ (w : World) (mg : Str → Option Value) (fa : Addr) (h : Heap), YP w h → (K w.params).In h → h.Ns mainGlobals mg → mg d.name = some (.ref fa) →
      ∃ T : List (Addr × Addr), (∀ p ∈ T, h.get? p.2 = some { cls := .none, data := .fields #[] }) ∧ (∀ p ∈ T, (K w.params).lookup p.2 = none) ∧ (∀ p ∈ T, PySem.W.CodeHd h p.1 p.2) ∧ CallG l.prog w (K w.params) mg fa T 63) :
    PySem.W.WalkO q loose XP YP l.row.toRowW d [] (fun f vs => PySem.call f vs) := by
  refine Att.attach_callB hn hdf fun w s₀ s₁ mg mb fa o pm cd doc a vs ns G Y ho hd hcd hmg hobj hints hlen hbits hg => ?_
  have KX := hY w _ Y
  obtain ⟨T, hT, nT, hC, hF⟩ := F w mg fa _ Y KX G.T.g hmg
  exact callG_ok KX G.T.g G.T.b G.T.builtins G.T.nolimit hg hT nT hC G.T.bmain hobj hints hlen (by decide) hF
end VL

set_option Elab.async false
set_option linter.all false
set_option maxRecDepth 100000
/-! Layer V: the law's call from its body's judgement; defs that show values. -/
namespace VL
open PySem PySem.Spec PyProof.Rows L2 LamX
/-- the law's slots at the beginning: the script, nothing, the table of its lambdas -/
def envG (ns : List Int) (jt : Nat) (q : Str) : Env := some (.frz (ns.map .int)) :: (List.replicate (jt - 1) none ++ [some (.gh "tab" [(q, .non)])])
/-- the law's worth is True -/
def TellsG (g : DS) (jt : Nat) (q : Str) : Prop := ∀ ns : List Int, ns.length ≤ 63 → ∃ δ, g (envG ns jt q) = .ret (.bl true) δ
def kdG (jt : Nat) (P0 : Addr) : Kds := List.replicate jt .sh ++ [.pin P0 .sh]
theorem callG_law {P : Program} {w : World} {K : PySem.W.Frag} {mg : Str → Option Value} {st : Stmt} {f c P0 : Addr} {N : List Str} {y q : Str} {g : DS} {kdE : Kds} {lvl jt : Nat} {oc kV doc pm ct : Value} {an od : Option Addr} {osl : Array (Option Value)}
    (lk : K.lookup f = some ⟨oc, od, .func (PySem.W.fnOf "law" "law" (defArgs st) (defBody st) (defScope st) .none kV doc pm an (.ref c) ct), osl⟩) (hco : PySem.W.codeIn K (.ref c) "law" = true) (S : FnScope N ["script"] (defScope st)) (hb : Binds K (PySem.W.fnOf "law" "law" (defArgs st) (defBody st) (defScope st) .none kV doc pm an (.ref c) ct) ["script"] [])
    (hN : N.length = jt + 1) (h1 : 1 ≤ jt) (hy : N[jt]? = some y) (hv : ¬ Vis (defScope st) y) (hr : Room (lvl + 1) callerA) (M : TellsG g jt q)
    (body : ∀ (base : Heap) (s : Shared) (H : Hp) (E : XK), TabB base mg c P0 → Room lvl (callerA.deeper (envOfC "law" (defScope st) s.heap.objs.size f (.ref c))) → (callerA.deeper (envOfC "law" (defScope st) s.heap.objs.size f (.ref c))).guards = some [] →
      VSs (cxOf (L2.CX P w) P w K mg base N "law" (defScope st) f (.ref c) callerA [] s H E) (fxOf .sh (fun _ => True) E) (kdG jt P0) kdE (defBody st) g) :
    CallG P w K mg f [(c, P0)] 63 := by
  intro base s H a ns kb nsb tb tabs sq hl e0
  have TB : TabB base mg c P0 := tb (c, P0) (List.mem_singleton.mpr rfl)
  have hP0 : H P0 = some (.tbl #[]) := tabs (c, P0) (List.mem_singleton.mpr rfl)
  have KX : K.In s.heap := e0.mod.kin.keeps fun b o e => (e0.bs b o e).1
  refine run_ofS (us := [.ref a]) (vs := [.ref a]) lk hco S hr e0 (hb s [.ref a] KX rfl) (.cons rfl .nil) rfl fun hr' => ?_
  refine ⟨_, pss_ghost (i := jt) (x := y) (.ref P0) hy hv (body base s H (fun _ _ _ => False) TB hr' rfl), ?_⟩
  obtain ⟨P1, eP⟩ : ∃ P1 : Hp, P1 = fun b => if b = P0 then some (TbK q) else cutT H b := ⟨_, rfl⟩
  have p0 : P1 P0 = some (TbK q) := by rw [eP]; exact if_pos rfl
  have pn : ∀ b, b ≠ P0 → P1 b = cutT H b := fun b h => by rw [eP]; exact if_neg h
  have sub : Lie P1 H := fun b o e => by
    by_cases h : b = P0
    · rw [h, p0] at e
      cases e
      exact .inr ⟨q, rfl, h ▸ TabS.nil hP0⟩
    · rw [pn b h] at e
      exact cutT_lie H b o e
  have sq1 : SqL K P1 a (ns.map V.int) := by
    rcases cutT_sql sq with (h | ⟨o, h⟩) | h
    · refine .inl (.inl ?_)
      rw [pn a (fun z => by rw [z] at h; unfold cutT at h; rw [hP0] at h; cases h)]
      exact h
    · refine .inl (.inr ⟨o, ?_⟩)
      rw [pn a (fun z => by rw [z] at h; unfold cutT at h; rw [hP0] at h; cases h)]
      exact h
    · exact .inr h
  have rs : Rep K mg P1 (.ref a) (.frz (ns.map D.int)) := by
    refine .frz sq1 (RepL.of (by simp) fun j v d h1 h2 => ?_)
    rw [List.getElem?_map] at h1 h2
    cases e : ns[j]? with
    | none => rw [e] at h1; cases h1
    | some i => rw [e] at h1 h2; cases h1; cases h2; exact .int i
  have eS : (L2.start N [.ref a]).set jt (some (.ref P0)) = some (.ref a) :: (List.replicate (jt - 1) none ++ [some (.ref P0)]) := by
    unfold L2.start
    obtain ⟨k, rfl⟩ : ∃ k, jt = k + 1 := ⟨jt - 1, by omega⟩
    rw [hN]
    simp only [List.map_cons, List.map_nil, List.length_cons, List.length_nil, List.cons_append, List.nil_append, Nat.add_sub_cancel]
    rw [List.replicate_succ', List.set_cons_succ]
    congr 1
    rw [List.set_append_right _ _ (by simp)]
    simp
  have E : EnvR K mg (kdG jt P0) (fun _ => Non) P1 H ((L2.start N [.ref a]).set jt (some (.ref P0))) (envG ns jt q) := by
    rw [eS]
    refine ⟨sub, fun i d h => ?_, fun _ _ z => z.elim, fun _ _ _ z => z.elim, fun _ _ z => z.elim, by simp [envG], by simp [kdG]; omega⟩
    unfold envG at h
    cases i with
    | zero =>
      simp only [List.getElem?_cons_zero, Option.some.injEq] at h
      subst h
      refine ⟨_, rfl, ?_⟩
      have : (kdG jt P0).at 0 = .sh := by
        unfold kdG Kds.at
        rw [List.getD_eq_getElem?_getD, List.getElem?_append_left (by simp; omega), List.getElem?_replicate]
        split <;> rfl
      rw [this]
      exact Own.sh_of rs
    | succ i =>
      rw [List.getElem?_cons_succ] at h
      by_cases hi : i < jt - 1
      · rw [List.getElem?_append_left (by simpa using hi), List.getElem?_replicate] at h
        split at h <;> cases h
      · by_cases hi2 : i = jt - 1
        · subst hi2
          rw [List.getElem?_append_right (by simp)] at h
          simp at h
          subst h
          refine ⟨.ref P0, ?_, ?_⟩
          · rw [List.getElem?_cons_succ, List.getElem?_append_right (by simp)]
            simp
          · have : (kdG jt P0).at (jt - 1 + 1) = .pin P0 .sh := by
              rw [show jt - 1 + 1 = jt from by omega]
              unfold kdG Kds.at
              rw [List.getD_eq_getElem?_getD, List.getElem?_append_right (by simp)]
              simp
            rw [this]
            exact ⟨rfl, fun _ z => z, .ght p0⟩
        · rw [List.getElem?_eq_none (by simp; omega)] at h
          cases h
  obtain ⟨δ, e⟩ := M ns hl
  refine ⟨_, P1, _, E, ?_⟩
  rw [e]
  intro kdr _ v σ' Fs' P' H' G _ _ _ o
  cases o.2 with
  | bl _ => rfl
end VL

set_option Elab.async false
set_option linter.all false
set_option maxRecDepth 100000
/-! Layer V: what a printed walk of exceptions and lambdas leans on. -/
namespace VL
open PySem PySem.Spec PyProof.Rows L2 LamX
section
variable {K : PySem.W.Frag} {mg : Str → Option Value}
theorem exm_pair {C S : Addr} {b : Bool} (h1 : PySem.W.subIn K (.ref S) (.type "BaseException") = some true) (h2 : PySem.W.isClsIn K S = true) (h3 : PySem.W.typeIn K (.ref S) = some (.type "type")) (h4 : PySem.W.subIn K (.ref C) (.ref S) = some b) :
    PySem.W.exmOne K (.ref C) (.ref S) = some b := by
  have e1 : (PySem.W.subIn K (.ref S) (.type "BaseException") == some true) = true := by rw [h1] <;> rfl
  have e2 : ((PySem.W.clsIn K S).isSome && PySem.W.typeIn K (.ref S) == some (.type "type")) = true := by
    have h5 : (PySem.W.clsIn K S).isSome = true := h2
    rw [h5, h3] <;> rfl
  unfold PySem.W.exmOne
  rw [if_pos e1]
  show (if ((PySem.W.clsIn K S).isSome && PySem.W.typeIn K (.ref S) == some (.type "type")) = true then PySem.W.subIn K (.ref C) (.ref S) else none) = some b
  rw [if_pos e2]
  exact h4
theorem SubT.nil {h : Str} {ch : Value} : SubT K mg [] h ch := fun c b C e _ => by cases e
theorem SubT.cons {h c : Str} {row : List (Str × Bool)} {r : List (Str × List (Str × Bool))} {C : Addr} {b : Bool} {ch : Value} (hm : mg c = some (.ref C)) (hb : row.lookup h = some b) (he : PySem.W.exmOne K (.ref C) ch = some b) (t : SubT K mg r h ch) : SubT K mg ((c, row) :: r) h ch := fun c2 b2 C2 e m => by
  rw [List.lookup_cons] at e
  by_cases q : c2 = c
  · subst q
    rw [beq_self_eq_true] at e
    simp only [Option.bind_some, hb, Option.some.injEq] at e
    subst e
    rw [hm] at m
    cases m
    exact he
  · rw [show (c2 == c) = false from beq_false_of_ne q] at e
    exact t c2 b2 C2 e m
/-- a class that a clause names -/
def HName (K : PySem.W.Frag) (mg : Str → Option Value) (sub : List (Str × List (Str × Bool))) (h : Str) : Prop := ∃ ch, mg h = some ch ∧ SubT K mg sub h ch
/-- the fields of caught exceptions may be read -/
def XFld (K : PySem.W.Frag) (mg : Str → Option Value) (cs : List Str) (f : Str) : Prop := ∀ c ∈ cs, ∀ C, mg c = some (.ref C) → XfC K C ∧ PySem.W.findIn K (.ref C) f = some none
theorem XFld.nil {f : Str} : XFld K mg [] f := fun c h => by cases h
theorem XFld.cons {c f : Str} {cs : List Str} {C : Addr} (hm : mg c = some (.ref C)) (x : PySem.W.findIn K (.ref C) "__getattribute__" = some (some (.builtin "BaseException.__getattribute__")) ∧ PySem.W.findIn K (.ref C) "__getattr__" = some none ∧ PySem.W.subIn K (.ref C) (.type "BaseException") = some true ∧ PySem.W.hasDictIn K C = true)
    (n : PySem.W.findIn K (.ref C) f = some none) (t : XFld K mg cs f) : XFld K mg (c :: cs) f := fun d h D m => by
  rcases List.mem_cons.mp h with rfl | h
  · rw [hm] at m
    cases m
    exact ⟨⟨x.1, x.2.1, x.2.2.1, x.2.2.2⟩, n⟩
  · exact t d h D m
theorem un70 {k : Nat} {A : Around} (hr : Room k A) : A.units + 70 < cLine := by have := hr.un; omega
theorem takes_lam {X : Cx} {A : Around} {outer : List PySem.Env} {s : Shared} {H : Hp} {E : XK} {scope : Scope} {f c' : Addr} : Takes (lamCx X A outer s H E scope f c') (fun cls d _ H => E cls d H) := takes_of rfl rfl rfl rfl
end
end VL

set_option Elab.async false
set_option linter.all false
set_option maxRecDepth 100000
namespace Z
open PySem PySem.Spec PyProof.Rows L2 VL
def top (i : Nat) : Stmt := PySem.Challenge.pw_calmwebs_k57_arrows_and_rounds.main.body.getD i (.Pass ⟨0, 0, 0, 0⟩)
def subT : List (Str × List (Str × Bool)) := [("BadWeb", [("BadValue", false)]), ("BadValue", [("BadValue", true)])]
structure Txt (K : PySem.W.Frag) (mg : Str → Option Value) : Prop where
  n_int : mg "int" = none
  n_list : mg "list" = none
  n_len : mg "len" = none
  n_tuple : mg "tuple" = none
  n_isinstance : mg "isinstance" = none
  n_bool : mg "bool" = none
  n_all : mg "all" = none
  f_rows : ∀ c ∈ (["Web"] : List Str), ClsF K mg c "rows"
  f_size : ∀ c ∈ (["Web"] : List Str), ClsF K mg c "size"
  n_range : mg "range" = none
  n_max : mg "max" = none
  n_sorted : mg "sorted" = none
  h_BadValue : HName K mg subT "BadValue"
  xf_what : XFld K mg (subT.map (·.1)) "what"
  xf_value : XFld K mg (subT.map (·.1)) "value"
  n_repr : mg "repr" = none

noncomputable section
variable {P : Program} {w : World} {K : PySem.W.Frag} {mg : Str → Option Value} {base : Heap}
set_option maxHeartbeats 0
abbrev s_BadWeb_init : Stmt := inClass (top 2) 0
theorem sc_BadWeb_init : FnScope ["self", "what", "value"] ["self", "what", "value"] (defScope s_BadWeb_init) := ⟨rfl, rfl, rfl, by decide +kernel, rfl, by decide +kernel, by decide +kernel⟩
theorem v_exc_BadWeb {f C : Addr} {fd : FuncData} (F : Fun K "__init__" "BadWeb.__init__" s_BadWeb_init f fd) (hb : Binds K fd ["self", "what", "value"] []) (hm : mg "BadWeb" = some (.ref C)) (E : OexC K C) (iC : PySem.W.findIn K (.ref C) "__init__" = some (some (.ref f))) (tI : PySem.W.typeIn K (.ref f) = some (.type "function")) (hno : ∀ p ∈ ([("what", 1), ("value", 2)] : List (Str × Nat)), PySem.W.findIn K (.ref C) p.1 = some none) : VXc P w K mg base "BadWeb" ["what", "value"] :=
  vxc_of (l := [("what", 1), ("value", 2)]) F sc_BadWeb_init hb hm E iC tI hno (by decide) (by decide) rfl (fun j p h => by rcases j with _ | _ | _ | _ | j <;> first | (cases h; rfl) | cases h) rfl (by decide) (by decide) (.inl rfl) (fun cdv A outer s H E => (.cons rfl (.inl rfl) (by decide) (by decide) rfl (.cons rfl (.inl rfl) (by decide) (by decide) rfl .nil)))
abbrev s_BadValue_init : Stmt := inClass (top 3) 0
theorem sc_BadValue_init : FnScope ["self", "what", "value"] ["self", "what", "value"] (defScope s_BadValue_init) := ⟨rfl, rfl, rfl, by decide +kernel, rfl, by decide +kernel, by decide +kernel⟩
theorem v_exc_BadValue {f C : Addr} {fd : FuncData} (F : Fun K "__init__" "BadValue.__init__" s_BadValue_init f fd) (hb : Binds K fd ["self", "what", "value"] []) (hm : mg "BadValue" = some (.ref C)) (E : OexC K C) (iC : PySem.W.findIn K (.ref C) "__init__" = some (some (.ref f))) (tI : PySem.W.typeIn K (.ref f) = some (.type "function")) (hno : ∀ p ∈ ([("what", 1), ("value", 2)] : List (Str × Nat)), PySem.W.findIn K (.ref C) p.1 = some none) : VXc P w K mg base "BadValue" ["what", "value"] :=
  vxc_of (l := [("what", 1), ("value", 2)]) F sc_BadValue_init hb hm E iC tI hno (by decide) (by decide) rfl (fun j p h => by rcases j with _ | _ | _ | _ | j <;> first | (cases h; rfl) | cases h) rfl (by decide) (by decide) (.inl rfl) (fun cdv A outer s H E => (.cons rfl (.inl rfl) (by decide) (by decide) rfl (.cons rfl (.inl rfl) (by decide) (by decide) rfl .nil)))
abbrev s__law_pen : Stmt := top 32
theorem sc__law_pen : FnScope ["script", "fold", "cell"] ["script"] (defScope s__law_pen) := ⟨rfl, rfl, rfl, by decide +kernel, rfl, by decide +kernel, by decide +kernel⟩
def d__law_pen : DS := (dSeq (dSet 1 (dC (.int 0))) (dSeq (dFor (dSeqI (dVar 0)) (gV 2) (dSet 1 (dBin modD (dAr intD (dCons (dBin add4D (dBin mulD (dVar 1) (dC (.int 59))) (dVar 2)) dNil)) (dC (.int 1000000009))))) (dRet (dDisp (((dC (.str "cells")), (dAr lstOf (dCons (dVar 0) dNil))) :: (((dC (.str "at")), (dC (.int 0))) :: (((dC (.str "digits")), (dC (.int 0))) :: (((dC (.str "count")), (dC (.int 0))) :: (((dC (.str "fold")), (dVar 1)) :: [])))))))))
def fn__law_pen : List D → FRes := dFn (List.replicate 1 .sh) .dc 3 d__law_pen
theorem v__law_pen {f : Addr} {fd : FuncData} (F : Fun K "_law_pen" "_law_pen" s__law_pen f fd) (hb : Binds K fd ["script"] []) (T : Txt K mg) : VFnA P w K mg base 1 f (List.replicate 1 .sh) .dc fn__law_pen :=
  vfa_of (kdE := [.sh, .sh, .sh]) F sc__law_pen hb rfl (fun cdv A outer s H E hr => vss_fr [.sh, .sh, .sh]
  (vss_cons (vs_to [.sh, .sh, .sh] (vs_set 1 sc__law_pen.nd ve_int))
  (vss_cons (vs_for (ws := [2]) (passes_of rfl) (vi_seq (ve_var 0)) (vg_name 2 sc__law_pen.nd) (vss_one (vs_to [.sh, .sh, .sh] (vs_set 1 sc__law_pen.nd (ve_op op_mod d_mod (ve_intOf (ve_op op_add4 d_add4 (ve_op op_mulW d_mul (ve_var 1) ve_int) (ve_var 2)) T.n_int) ve_int)))))
  (vss_one (vs_ret (ve_disp (l := (((dC (.str "cells")), (dAr lstOf (dCons (dVar 0) dNil))) :: (((dC (.str "at")), (dC (.int 0))) :: (((dC (.str "digits")), (dC (.int 0))) :: (((dC (.str "count")), (dC (.int 0))) :: (((dC (.str "fold")), (dVar 1)) :: [])))))) (vpps_cons ve_str (ve_rel (ve_listOf (ve_var 0) T.n_list)) (vpps_cons ve_str ve_int (vpps_cons ve_str ve_int (vpps_cons ve_str ve_int (vpps_cons ve_str (ve_var 1) vpps_nil))))) rfl))))))
abbrev s__law_draw : Stmt := top 33
theorem sc__law_draw : FnScope ["pen", "many", "blend", "cell", "digit"] ["pen", "many"] (defScope s__law_draw) := ⟨rfl, rfl, rfl, by decide +kernel, rfl, by decide +kernel, by decide +kernel⟩
def d__law_draw : DS := (dSeq (dDPut 0 (dBin add4D (dDGetO 0 (dC (.str "count"))) (dC (.int 1))) (dC (.str "count"))) (dSeq (dIf (dAnd (dTst asB (dBin (eqD false) (dDGetO 0 (dC (.str "digits"))) (dC (.int 0)))) (dTst asB (dBin ltD (dDGetO 0 (dC (.str "at"))) (dAr lenD (dCons (dDGetO 0 (dC (.str "cells"))) dNil))))) (dSeq (dSet 3 (dBin idxD (dDGetO 0 (dC (.str "cells"))) (dDGetO 0 (dC (.str "at"))))) (dSeq (dDPut 0 (dBin add4D (dDGetO 0 (dC (.str "at"))) (dC (.int 1))) (dC (.str "at"))) (dIf (dTst asB (dBin geD (dVar 3) (dBin powD (dC (.int 10)) (dC (.int 18))))) (dDPut 0 (dBin subD (dVar 3) (dBin powD (dC (.int 10)) (dC (.int 18)))) (dC (.str "digits"))) (dDPut 0 (dBin modD (dAr intD (dCons (dBin add4D (dBin mulD (dDGetO 0 (dC (.str "fold"))) (dC (.int 48271))) (dVar 3)) dNil)) (dC (.int 2147483563))) (dC (.str "fold")))))) dSkip) (dSeq (dIf (dTst asB (dBin gtD (dDGetO 0 (dC (.str "digits"))) (dC (.int 0)))) (dSeq (dSet 4 (dBin modD (dAr intD (dCons (dDGetO 0 (dC (.str "digits"))) dNil)) (dVar 1))) (dSeq (dDPut 0 (dBin divD (dDGetO 0 (dC (.str "digits"))) (dVar 1)) (dC (.str "digits"))) (dRet (dVar 4)))) dSkip) (dSeq (dSet 2 (dBin add4D (dBin add4D (dDGetO 0 (dC (.str "fold"))) (dBin mulD (dDGetO 0 (dC (.str "count"))) (dC (.int 8513)))) (dC (.int 61)))) (dRet (dBin modD (dBin divD (dAr intD (dCons (dBin modD (dBin powD (dVar 2) (dC (.int 19))) (dC (.int 2305843009213693951))) dNil)) (dC (.int 256))) (dVar 1)))))))
def fn__law_draw : List D → FRes := dFnIO (.dc :: List.replicate 1 .sh) .sh 5 d__law_draw
theorem v__law_draw {f : Addr} {fd : FuncData} (F : Fun K "_law_draw" "_law_draw" s__law_draw f fd) (hb : Binds K fd ["pen", "many"] []) (T : Txt K mg) : VFnA P w K mg base 1 f (.dc :: List.replicate 1 .sh) .sh fn__law_draw :=
  vfa_ofIO (kdE := fun a => [(.pin a .dc), .sh, .sh, .sh, .sh]) F sc__law_draw hb rfl cell_dc rfl (fun a cdv A outer s H E hr => vss_fr [(.pin a .dc), .sh, .sh, .sh, .sh]
  (vss_cons (vs_dput 0 (hu_of hr) (ve_op op_add4 d_add4 (ve_dgetO 0 (hu_of hr) ve_str) ve_int) ve_str)
  (vss_cons (vs_if (vt_bool (vw_and (vt_cmp (op_eqD hr.units) b_eq.d (ve_dgetO 0 (hu_of hr) ve_str) ve_int) (vw_and1 (vt_cmp op_lt (b_cmp _).d (ve_dgetO 0 (hu_of hr) ve_str) (ve_len (ve_dgetO 0 (hu_of hr) ve_str) T.n_len))))) (vss_cons (vs_to [(.pin a .dc), .sh, .sh, .sh, .sh] (vs_set 3 sc__law_draw.nd (ve_idx (ve_dgetO 0 (hu_of hr) ve_str) (ve_dgetO 0 (hu_of hr) ve_str))))
  (vss_cons (vs_dput 0 (hu_of hr) (ve_op op_add4 d_add4 (ve_dgetO 0 (hu_of hr) ve_str) ve_int) ve_str)
  (vss_one (vs_if (vt_cmp op_ge (b_cmp _).d (ve_var 3) (ve_op op_pow d_pow ve_int ve_int)) (vss_one (vs_dput 0 (hu_of hr) (ve_op op_sub d_sub (ve_var 3) (ve_op op_pow d_pow ve_int ve_int)) ve_str)) (vss_one (vs_dput 0 (hu_of hr) (ve_op op_mod d_mod (ve_intOf (ve_op op_add4 d_add4 (ve_op op_mulW d_mul (ve_dgetO 0 (hu_of hr) ve_str) ve_int) (ve_var 3)) T.n_int) ve_int) ve_str)))))) vss_nil)
  (vss_cons (vs_if (vt_cmp op_gt (b_cmp _).d (ve_dgetO 0 (hu_of hr) ve_str) ve_int) (vss_cons (vs_to [(.pin a .dc), .sh, .sh, .sh, .sh] (vs_set 4 sc__law_draw.nd (ve_op op_mod d_mod (ve_intOf (ve_dgetO 0 (hu_of hr) ve_str) T.n_int) (ve_var 1))))
  (vss_cons (vs_dput 0 (hu_of hr) (ve_op op_fdivW d_div (ve_dgetO 0 (hu_of hr) ve_str) (ve_var 1)) ve_str)
  (vss_one (vs_ret (ve_var 4))))) vss_nil)
  (vss_cons (vs_to [(.pin a .dc), .sh, .sh, .sh, .sh] (vs_set 2 sc__law_draw.nd (ve_op op_add4 d_add4 (ve_op op_add4 d_add4 (ve_dgetO 0 (hu_of hr) ve_str) (ve_op op_mulW d_mul (ve_dgetO 0 (hu_of hr) ve_str) ve_int)) ve_int)))
  (vss_one (vs_ret (ve_op op_mod d_mod (ve_op op_fdivW d_div (ve_intOf (ve_op op_mod d_mod (ve_op op_pow d_pow (ve_var 2) ve_int) ve_int) T.n_int) ve_int) (ve_var 1))))))))) (fun _ => rfl)
abbrev s__law_pick : Stmt := top 34
theorem sc__law_pick : FnScope ["pen", "some"] ["pen", "some"] (defScope s__law_pick) := ⟨rfl, rfl, rfl, by decide +kernel, rfl, by decide +kernel, by decide +kernel⟩
def d__law_pick : DS := (dRet (dBin idxD (dVar 1) (dCallIO 0 1 fn__law_draw (dCons (dAr lenD (dCons (dVar 1) dNil)) dNil))))
def fn__law_pick : List D → FRes := dFnIO (.dc :: List.replicate 1 .sh) .sh 2 d__law_pick
theorem v__law_pick {f : Addr} {fd : FuncData} (F : Fun K "_law_pick" "_law_pick" s__law_pick f fd) (hb : Binds K fd ["pen", "some"] []) (T : Txt K mg) (v__law_draw : VFn P w K mg base 1 "_law_draw" (.dc :: List.replicate 1 .sh) .sh fn__law_draw) : VFnA P w K mg base 2 f (.dc :: List.replicate 1 .sh) .sh fn__law_pick :=
  vfa_ofIO (kdE := fun a => [(.pin a .dc), .sh]) F sc__law_pick hb rfl cell_dc rfl (fun a cdv A outer s H E hr => vss_fr [(.pin a .dc), .sh]
  (vss_one (vs_ret (ve_idx (ve_var 1) (ve_callIO (j := 0) v__law_draw (hr.mono (by decide)) takes_def (va_cons (ve_len (ve_var 1) T.n_len) va_nil)))))) (fun _ => rfl)
abbrev s_is_list : Stmt := top 9
theorem sc_is_list : FnScope ["value"] ["value"] (defScope s_is_list) := ⟨rfl, rfl, rfl, by decide +kernel, rfl, by decide +kernel, by decide +kernel⟩
def d_is_list : DS := (dRet (dIsi ["tuple", "list"] [] (dVar 0)))
def fn_is_list : List D → FRes := dFn (List.replicate 1 .sh) .sh 1 d_is_list
theorem v_is_list {f : Addr} {fd : FuncData} (F : Fun K "is_list" "is_list" s_is_list f fd) (hb : Binds K fd ["value"] []) (T : Txt K mg) : VFnA P w K mg base 1 f (List.replicate 1 .sh) .sh fn_is_list :=
  vfa_of (kdE := [.sh]) F sc_is_list hb rfl (fun cdv A outer s H E hr => vss_fr [.sh]
  (vss_one (vs_ret (ve_isiT (isi_builtin ["tuple", "list"] (by decide)) (.cons (.ty "tuple") (.cons (.ty "list") .nil)) (ve_var 0) (pa_cons (pe_btN T.n_tuple boot_tuple) (pa_cons (pe_btN T.n_list boot_list) pa_nil)) T.n_isinstance))))
abbrev s_is_whole : Stmt := top 6
theorem sc_is_whole : FnScope ["value"] ["value"] (defScope s_is_whole) := ⟨rfl, rfl, rfl, by decide +kernel, rfl, by decide +kernel, by decide +kernel⟩
def d_is_whole : DS := (dRet (dAndV (dIsi ["int"] [] (dVar 0)) (dNotV (dIsi ["bool"] [] (dVar 0)))))
def fn_is_whole : List D → FRes := dFn (List.replicate 1 .sh) .sh 1 d_is_whole
theorem v_is_whole {f : Addr} {fd : FuncData} (F : Fun K "is_whole" "is_whole" s_is_whole f fd) (hb : Binds K fd ["value"] []) (T : Txt K mg) : VFnA P w K mg base 1 f (List.replicate 1 .sh) .sh fn_is_whole :=
  vfa_of (kdE := [.sh]) F sc_is_whole hb rfl (fun cdv A outer s H E hr => vss_fr [.sh]
  (vss_one (vs_ret (ve_and (ve_isi (isi_builtin ["int"] (by decide)) (.ty "int") (ve_var 0) (pe_btN T.n_int boot_int) T.n_isinstance) (ve_one (ve_not (ve_isi (isi_builtin ["bool"] (by decide)) (.ty "bool") (ve_var 0) (pe_btN T.n_bool boot_bool) T.n_isinstance)))))))
abbrev s_is_signs : Stmt := top 11
theorem sc_is_signs : FnScope ["value", "row", "sign"] ["value"] (defScope s_is_signs) := ⟨rfl, rfl, rfl, by decide +kernel, rfl, by decide +kernel, by decide +kernel⟩
def d_is_signs : DS := (dSeq (dIf (dOr (dNot (dTst truth (dCall 1 fn_is_list (dCons (dVar 0) dNil)))) (dTst asB (dBin (eqD false) (dAr lenD (dCons (dVar 0) dNil)) (dC (.int 0))))) (dRet (dC (.bl false))) dSkip) (dSeq (dFor (dSeqI (dVar 0)) (gV 1) (dIf (dOr (dNot (dTst truth (dCall 1 fn_is_list (dCons (dVar 1) dNil)))) (dOr (dTst asB (dBin (eqD true) (dAr lenD (dCons (dVar 1) dNil)) (dAr lenD (dCons (dVar 0) dNil)))) (dNot (dTst truth (dAr allD (dCons (dLc [2] (dSeqI (dVar 1)) (gV 2) dYes (dAndV (dCall 1 fn_is_whole (dCons (dVar 2) dNil)) (dChain leD leD (dUn negD (dC (.int 1))) (dVar 2) (dC (.int 1))))) dNil)))))) (dRet (dC (.bl false))) dSkip)) (dRet (dC (.bl true)))))
def fn_is_signs : List D → FRes := dFn (List.replicate 1 .sh) .sh 3 d_is_signs
theorem v_is_signs {f : Addr} {fd : FuncData} (F : Fun K "is_signs" "is_signs" s_is_signs f fd) (hb : Binds K fd ["value"] []) (T : Txt K mg) (v_is_list : VFn P w K mg base 1 "is_list" (List.replicate 1 .sh) .sh fn_is_list) (v_is_whole : VFn P w K mg base 1 "is_whole" (List.replicate 1 .sh) .sh fn_is_whole) : VFnA P w K mg base 2 f (List.replicate 1 .sh) .sh fn_is_signs :=
  vfa_of (kdE := [.sh, .sh, .sh]) F sc_is_signs hb rfl (fun cdv A outer s H E hr => vss_fr [.sh, .sh, .sh]
  (vss_cons (vs_if (vt_bool (vw_or (vt_not (vt_truth (ve_call v_is_list (hr.mono (by decide)) takes_def (va_cons (ve_var 0) va_nil)))) (vw_or1 (vt_cmp (op_eqD hr.units) b_eq.d (ve_len (ve_var 0) T.n_len) ve_int)))) (vss_one (vs_ret ve_bl)) vss_nil)
  (vss_cons (vs_for (ws := [1]) (passes_of rfl) (vi_seq (ve_var 0)) (vg_name 1 sc_is_signs.nd) (vss_one (vs_if (vt_bool (vw_or (vt_not (vt_truth (ve_call v_is_list (hr.mono (by decide)) takes_def (va_cons (ve_var 1) va_nil)))) (vw_or (vt_cmp (op_neD hr.units) b_ne.d (ve_len (ve_var 1) T.n_len) (ve_len (ve_var 0) T.n_len)) (vw_or1 (vt_not (vt_truth (ve_all (ve_rel (ve_lc [("sign", 2)] sc_is_signs.nd (vi_seq (ve_var 1)) (blkOk_by rfl) (fun _ _ _ _ _ => (vg_name 2 sc_is_signs.nd)) (fun _ _ _ _ _ => vts_nil) (fun _ _ _ _ _ => (ve_and (ve_call v_is_whole (hr.mono (by decide)) takes0 (va_cons (ve_var 2) va_nil)) (ve_one (ve_chain op_le (b_cmp _) op_le (b_cmp _) (ve_un un_neg d_neg ve_int) (ve_var 2) ve_int)))))) T.n_all))))))) (vss_one (vs_ret ve_bl)) vss_nil)))
  (vss_one (vs_ret ve_bl)))))
abbrev s_Web_init : Stmt := inClass (top 12) 0
theorem sc_Web_init : FnScope ["self", "rows", "row"] ["self", "rows"] (defScope s_Web_init) := ⟨rfl, rfl, rfl, by decide +kernel, rfl, by decide +kernel, by decide +kernel⟩
def d_Web_init : DS := (dSeq (dIf (dNot (dTst truth (dCall 1 fn_is_signs (dCons (dVar 1) dNil)))) (dRaise "BadWeb" ["what", "value"] (dCons (dC (.str "rows")) (dCons (dVar 1) dNil))) dSkip) (dSeq (dFPut 0 ["Web"] "rows" (dAr tupOf (dCons (dLc [2] (dSeqI (dVar 1)) (gV 2) dYes (dAr tupOf (dCons (dVar 2) dNil))) dNil))) (dFPut 0 ["Web"] "size" (dAr lenD (dCons (dFldO 0 ["Web"] "rows") dNil)))))
def fn_Web_init : List D → FRes := dFnIO (.ob :: List.replicate 1 .sh) .sh 3 d_Web_init
theorem v_Web_init {f : Addr} {fd : FuncData} (F : Fun K "__init__" "Web.__init__" s_Web_init f fd) (hb : Binds K fd ["self", "rows"] []) (T : Txt K mg) (v_is_signs : VFn P w K mg base 2 "is_signs" (List.replicate 1 .sh) .sh fn_is_signs) (v_exc_BadWeb : VXc P w K mg base "BadWeb" ["what", "value"]) : VFnA P w K mg base 3 f (.ob :: List.replicate 1 .sh) .sh fn_Web_init :=
  vfa_ofIO (kdE := fun a => [(.pin a .ob), .sh, .sh]) F sc_Web_init hb rfl cell_ob rfl (fun a cdv A outer s H E hr => vss_fr [(.pin a .ob), .sh, .sh]
  (vss_cons (vs_if (vt_not (vt_truth (ve_call v_is_signs (hr.mono (by decide)) takes_def (va_cons (ve_var 1) va_nil)))) (vss_one (vs_raise v_exc_BadWeb (hr.mono (by decide)) takes_def (va_cons ve_str (va_cons (ve_var 1) va_nil)))) vss_nil)
  (vss_cons (vs_fput 0 ["Web"] T.f_rows (ve_tupleOf (ve_rel (ve_lc [("row", 2)] sc_Web_init.nd (vi_seq (ve_var 1)) (blkOk_by rfl) (fun _ _ _ _ _ => (vg_name 2 sc_Web_init.nd)) (fun _ _ _ _ _ => vts_nil) (fun _ _ _ _ _ => (ve_tupleOf (ve_var 2) T.n_tuple)))) T.n_tuple))
  (vss_one (vs_fput 0 ["Web"] T.f_size (ve_len (ve_fldO 0 ["Web"] T.f_rows) T.n_len)))))) (fun _ => rfl)
abbrev s__law_shuffled : Stmt := top 35
theorem sc__law_shuffled : FnScope ["pen", "some", "lap", "remain", "found"] ["pen", "some"] (defScope s__law_shuffled) := ⟨rfl, rfl, rfl, by decide +kernel, rfl, by decide +kernel, by decide +kernel⟩
def d__law_shuffled : DS := (dSeq (dPar2 3 4 (dCons (dAr lstOf (dCons (dVar 1) dNil)) (dCons (dAr dLstD dNil) dNil))) (dSeq (dFor (dRng1 (dCons (dAr lenD (dCons (dVar 1) dNil)) dNil)) (gV 2) (dApp 4 (dMet 3 popI (dCons (dCallIO 0 1 fn__law_draw (dCons (dBor .sh (dAr lenD (dCons (dVar 3) dNil))) dNil)) dNil)))) (dRet (dVar 4))))
def fn__law_shuffled : List D → FRes := dFnIO (.dc :: List.replicate 1 .sh) .sh 5 d__law_shuffled
theorem v__law_shuffled {f : Addr} {fd : FuncData} (F : Fun K "_law_shuffled" "_law_shuffled" s__law_shuffled f fd) (hb : Binds K fd ["pen", "some"] []) (T : Txt K mg) (v__law_draw : VFn P w K mg base 1 "_law_draw" (.dc :: List.replicate 1 .sh) .sh fn__law_draw) : VFnA P w K mg base 2 f (.dc :: List.replicate 1 .sh) .sh fn__law_shuffled :=
  vfa_ofIO (kdE := fun a => [(.pin a .dc), .sh, .sh, .sh, .sh]) F sc__law_shuffled hb rfl cell_dc rfl (fun a cdv A outer s H E hr => vss_fr [(.pin a .dc), .sh, .sh, .sh, .sh]
  (vss_cons (vs_to [(.pin a .dc), .sh, .sh, (.li .sh), (.li .sh)] (vs_par2 3 4 sc__law_shuffled.nd (vk_cons (ve_listOf (ve_var 1) T.n_list) (vk_cons (ve_lst va_nil) vk_nil))))
  (vss_cons (vs_for (ws := [2]) (passes_of rfl) (vi_range1 (va_cons (ve_len (ve_var 1) T.n_len) va_nil) T.n_range) (vg_name 2 sc__law_shuffled.nd) (vss_one (vs_append 4 (ve_popAt 3 (va_cons (ve_callIO (j := 0) v__law_draw (hr.mono (by decide)) takes_def (va_cons (ve_bor (W' := W0) 5 (ve_len (ve_var 3) T.n_len)) va_nil)) va_nil)))))
  (vss_relT 3 [(.pin a .dc), .sh, .sh, .sh, (.li .sh)] (vss_relT 4 [(.pin a .dc), .sh, .sh, .sh, .sh] (vss_one (vs_ret (ve_var 4)))))))) (fun _ => rfl)
abbrev s__law_tree_ties : Stmt := top 27
theorem sc__law_tree_ties : FnScope ["pen", "size", "at", "way", "order", "ties", "up"] ["pen", "size"] (defScope s__law_tree_ties) := ⟨rfl, rfl, rfl, by decide +kernel, rfl, by decide +kernel, by decide +kernel⟩
def d__law_tree_ties : DS := (dSeq (dPar3 3 4 5 (dCons (dCallIO 0 1 fn__law_draw (dCons (dC (.int 3)) dNil)) (dCons (dCallIO 0 1 fn__law_shuffled (dCons (dLRg1 (dVar 1)) dNil)) (dCons (dAr dLstD dNil) dNil)))) (dSeq (dFor (dRng2 (dCons (dC (.int 1)) (dCons (dVar 1) dNil))) (gV 2) (dSeq (dSet 6 (dIte (dTst asB (dBin (eqD false) (dVar 3) (dC (.int 0)))) (dBin subD (dVar 2) (dC (.int 1))) (dIte (dTst asB (dBin (eqD false) (dVar 3) (dC (.int 1)))) (dCallIO 0 1 fn__law_draw (dCons (dVar 2) dNil)) (dAr max2D (dCons (dC (.int 0)) (dCons (dBin subD (dBin subD (dVar 2) (dC (.int 1))) (dCallIO 0 1 fn__law_draw (dCons (dC (.int 3)) dNil))) dNil)))))) (dApp 5 (dAr dTupD (dCons (dBin idxD (dVar 4) (dVar 6)) (dCons (dBin idxD (dVar 4) (dVar 2)) dNil)))))) (dRet (dVar 5))))
def fn__law_tree_ties : List D → FRes := dFnIO (.dc :: List.replicate 1 .sh) .sh 7 d__law_tree_ties
theorem v__law_tree_ties {f : Addr} {fd : FuncData} (F : Fun K "_law_tree_ties" "_law_tree_ties" s__law_tree_ties f fd) (hb : Binds K fd ["pen", "size"] []) (T : Txt K mg) (v__law_draw : VFn P w K mg base 1 "_law_draw" (.dc :: List.replicate 1 .sh) .sh fn__law_draw) (v__law_shuffled : VFn P w K mg base 2 "_law_shuffled" (.dc :: List.replicate 1 .sh) .sh fn__law_shuffled) : VFnA P w K mg base 3 f (.dc :: List.replicate 1 .sh) .sh fn__law_tree_ties :=
  vfa_ofIO (kdE := fun a => [(.pin a .dc), .sh, .sh, .sh, .sh, .sh, .sh]) F sc__law_tree_ties hb rfl cell_dc rfl (fun a cdv A outer s H E hr => vss_fr [(.pin a .dc), .sh, .sh, .sh, .sh, .sh, .sh]
  (vss_cons (vs_to [(.pin a .dc), .sh, .sh, .sh, .sh, (.li .sh), .sh] (vs_par3 3 4 5 sc__law_tree_ties.nd (vk_cons (ve_callIO (j := 0) v__law_draw (hr.mono (by decide)) takes_def (va_cons ve_int va_nil)) (vk_cons (ve_callIO (j := 0) v__law_shuffled (hr.mono (by decide)) takes_def (va_cons (ve_rel (ve_listRg1 (ve_var 1) T.n_list T.n_range)) va_nil)) (vk_cons (ve_lst va_nil) vk_nil)))))
  (vss_cons (vs_for (ws := [2]) (passes_of rfl) (vi_range2 (va_cons ve_int (va_cons (ve_var 1) va_nil)) T.n_range) (vg_name 2 sc__law_tree_ties.nd) (vss_cons (vs_to [(.pin a .dc), .sh, .sh, .sh, .sh, (.li .sh), .sh] (vs_set 6 sc__law_tree_ties.nd (ve_ite (vt_cmp (op_eqD hr.units) b_eq.d (ve_var 3) ve_int) (ve_op op_sub d_sub (ve_var 2) ve_int) (ve_ite (vt_cmp (op_eqD hr.units) b_eq.d (ve_var 3) ve_int) (ve_callIO (j := 0) v__law_draw (hr.mono (by decide)) takes_def (va_cons (ve_var 2) va_nil)) (ve_max2 ve_int (ve_op op_sub d_sub (ve_op op_sub d_sub (ve_var 2) ve_int) (ve_callIO (j := 0) v__law_draw (hr.mono (by decide)) takes_def (va_cons ve_int va_nil))) T.n_max)))))
  (vss_one (vs_append 5 (ve_tup (va_cons (ve_idx (ve_var 4) (ve_var 6)) (va_cons (ve_idx (ve_var 4) (ve_var 2)) va_nil)))))))
  (vss_relT 5 [(.pin a .dc), .sh, .sh, .sh, .sh, .sh, .sh] (vss_one (vs_ret (ve_var 5))))))) (fun _ => rfl)
abbrev s__law_forest_rows : Stmt := top 28
theorem sc__law_forest_rows : FnScope ["pen", "size", "ties", "much", "rows", "tree", "lap", "line", "place", "i", "j", "sign", "tie", "k"] ["pen", "size"] (defScope s__law_forest_rows) := ⟨rfl, rfl, rfl, by decide +kernel, rfl, by decide +kernel, by decide +kernel⟩
def d__law_forest_rows : DS := (dSeq (dSet 2 (dLc [12] (dSeqI (dCallIO 0 1 fn__law_tree_ties (dCons (dVar 1) dNil))) (gV 12) (dTst asB (dBin gtD (dCallIO 0 1 fn__law_draw (dCons (dC (.int 6)) dNil)) (dC (.int 0)))) (dVar 12))) (dSeq (dSet 3 (dCallIO 0 1 fn__law_pick (dCons (dAr dLstD (dCons (dAr dLstD (dCons (dC (.int 0)) (dCons (dUn negD (dC (.int 1))) dNil))) (dCons (dAr dLstD (dCons (dC (.int 0)) (dCons (dC (.int 0)) (dCons (dUn negD (dC (.int 1))) dNil)))) (dCons (dAr dLstD (dCons (dC (.int 0)) (dCons (dC (.int 0)) (dCons (dC (.int 0)) (dCons (dC (.int 0)) (dCons (dUn negD (dC (.int 1))) dNil)))))) (dCons (dAr dLstD (dCons (dC (.int 0)) (dCons (dUn negD (dC (.int 1))) (dCons (dUn negD (dC (.int 1))) (dCons (dUn negD (dC (.int 1))) dNil))))) dNil))))) dNil))) (dSeq (dSet 4 (dLc [9] (dRng1 (dCons (dVar 1) dNil)) (gV 9) dYes (dLc [10] (dRng1 (dCons (dVar 1) dNil)) (gV 10) dYes (dIte (dTst asB (dBin (eqD false) (dVar 9) (dVar 10))) (dCallIO 0 1 fn__law_pick (dCons (dVar 3) dNil)) (dC (.int 0)))))) (dSeq (dIf (dTst truth (dBor .sh (dAr allD (dCons (dLc [9] (dRng1 (dCons (dVar 1) dNil)) (gV 9) dYes (dBin (eqD false) (dBin idxD (dBin idxD (dVar 4) (dVar 9)) (dVar 9)) (dC (.int 0)))) dNil)))) (dSeq (dLine 4 7 8 (dCallIO 0 1 fn__law_draw (dCons (dVar 1) dNil)) (dCallIO 0 1 fn__law_draw (dCons (dVar 1) dNil))) (dAsg (dUn negD (dC (.int 1))) (uIx2 4 (dVar 8) (dVar 8)))) dSkip) (dSeq (dSet 5 (dLRg1 (dVar 1))) (dSeq (dFor (dSeqI (dVar 2)) (gT 2 (gC (gV 9) (gC (gV 10) gN))) (dSeq (dSet 11 (dBin subD (dC (.int 1)) (dBin mulD (dC (.int 2)) (dCallIO 0 1 fn__law_draw (dCons (dC (.int 2)) dNil))))) (dSeq (dAsg (dAr dTupD (dCons (dVar 11) (dCons (dUn negD (dVar 11)) dNil))) (uT 2 (uC (uIx2 4 (dVar 9) (dVar 10)) (uC (uIx2 4 (dVar 10) (dVar 9)) uN)))) (dSet 5 (dLc [13] (dRng1 (dCons (dVar 1) dNil)) (gV 13) dYes (dIte (dTst asB (dBin (eqD false) (dBin idxD (dVar 5) (dVar 13)) (dBin idxD (dVar 5) (dVar 9)))) (dBin idxD (dVar 5) (dVar 10)) (dBin idxD (dVar 5) (dVar 13)))))))) (dSeq (dFor (dRng1 (dCons (dCallIO 0 1 fn__law_draw (dCons (dC (.int 3)) dNil)) dNil)) (gV 6) (dSeq (dAsg (dAr dTupD (dCons (dCallIO 0 1 fn__law_draw (dCons (dVar 1) dNil)) (dCons (dCallIO 0 1 fn__law_draw (dCons (dVar 1) dNil)) dNil))) (uT 2 (uC (uV 9) (uC (uV 10) uN)))) (dIf (dTst asB (dBin ltD (dBin idxD (dVar 5) (dVar 9)) (dBin idxD (dVar 5) (dVar 10)))) (dAsg (dBin subD (dC (.int 1)) (dBin mulD (dC (.int 2)) (dCallIO 0 1 fn__law_draw (dCons (dC (.int 2)) dNil)))) (uIx2 4 (dVar 9) (dVar 10))) dSkip))) (dRetO 4))))))))
def fn__law_forest_rows : List D → FRes := dFnIO (.dc :: List.replicate 1 .sh) (.li (.li .sh)) 14 d__law_forest_rows
theorem v__law_forest_rows {f : Addr} {fd : FuncData} (F : Fun K "_law_forest_rows" "_law_forest_rows" s__law_forest_rows f fd) (hb : Binds K fd ["pen", "size"] []) (T : Txt K mg) (v__law_tree_ties : VFn P w K mg base 3 "_law_tree_ties" (.dc :: List.replicate 1 .sh) .sh fn__law_tree_ties) (v__law_draw : VFn P w K mg base 1 "_law_draw" (.dc :: List.replicate 1 .sh) .sh fn__law_draw) (v__law_pick : VFn P w K mg base 2 "_law_pick" (.dc :: List.replicate 1 .sh) .sh fn__law_pick) : VFnA P w K mg base 4 f (.dc :: List.replicate 1 .sh) (.li (.li .sh)) fn__law_forest_rows :=
  vfa_ofIO (kdE := fun a => [(.pin a .dc), .sh, .sh, .sh, .sh, .sh, .sh, .sh, .sh, .sh, .sh, .sh, .sh, .sh]) F sc__law_forest_rows hb rfl cell_dc rfl (fun a cdv A outer s H E hr => vss_fr [(.pin a .dc), .sh, .sh, .sh, .sh, .sh, .sh, .sh, .sh, .sh, .sh, .sh, .sh, .sh]
  (vss_cons (vs_to [(.pin a .dc), .sh, (.li .sh), .sh, .sh, .sh, .sh, .sh, .sh, .sh, .sh, .sh, .sh, .sh] (vs_setLc 2 [("tie", 12)] sc__law_forest_rows.nd rfl (vi_seq (ve_callIO (j := 0) v__law_tree_ties (hr.mono (by decide)) takes_def (va_cons (ve_var 1) va_nil))) (blkOk_by rfl) (fun _ _ _ _ _ => (vg_name 12 sc__law_forest_rows.nd)) (fun _ _ _ _ _ => (vts_one (vt_cmp op_gt (b_cmp _).d (ve_callIO (j := 0) v__law_draw (hr.mono (by decide)) takes0 (va_cons ve_int va_nil)) ve_int))) (fun _ _ _ _ _ => (ve_var 12))))
  (vss_relT 2 [(.pin a .dc), .sh, .sh, .sh, .sh, .sh, .sh, .sh, .sh, .sh, .sh, .sh, .sh, .sh] (vss_cons (vs_to [(.pin a .dc), .sh, .sh, .sh, .sh, .sh, .sh, .sh, .sh, .sh, .sh, .sh, .sh, .sh] (vs_set 3 sc__law_forest_rows.nd (ve_callIO (j := 0) v__law_pick (hr.mono (by decide)) takes_def (va_cons (ve_rel (ve_lst (va_cons (ve_rel (ve_lst (va_cons ve_int (va_cons (ve_un un_neg d_neg ve_int) va_nil)))) (va_cons (ve_rel (ve_lst (va_cons ve_int (va_cons ve_int (va_cons (ve_un un_neg d_neg ve_int) va_nil))))) (va_cons (ve_rel (ve_lst (va_cons ve_int (va_cons ve_int (va_cons ve_int (va_cons ve_int (va_cons (ve_un un_neg d_neg ve_int) va_nil))))))) (va_cons (ve_rel (ve_lst (va_cons ve_int (va_cons (ve_un un_neg d_neg ve_int) (va_cons (ve_un un_neg d_neg ve_int) (va_cons (ve_un un_neg d_neg ve_int) va_nil)))))) va_nil)))))) va_nil))))
  (vss_cons (vs_to [(.pin a .dc), .sh, .sh, .sh, (.li (.li .sh)), .sh, .sh, .sh, .sh, .sh, .sh, .sh, .sh, .sh] (vs_set 4 sc__law_forest_rows.nd (ve_lc [("i", 9)] sc__law_forest_rows.nd (vi_range1 (va_cons (ve_var 1) va_nil) T.n_range) (blkOk_by rfl) (fun _ _ _ _ _ => (vg_name 9 sc__law_forest_rows.nd)) (fun _ _ _ _ _ => vts_nil) (fun _ _ _ _ _ => (ve_lc [("j", 10)] sc__law_forest_rows.nd (vi_range1 (va_cons (ve_var 1) va_nil) T.n_range) (blkOk_by rfl) (fun _ _ _ _ _ => (vg_name 10 sc__law_forest_rows.nd)) (fun _ _ _ _ _ => vts_nil) (fun _ _ _ _ _ => (ve_ite (vt_cmp (op_eqD hr.units) b_eq.d (ve_var 9) (ve_var 10)) (ve_callIO (j := 0) v__law_pick (hr.mono (by decide)) takes0 (va_cons (ve_var 3) va_nil)) ve_int)))))))
  (vss_cons (vs_if (vt_truth (ve_bor (W' := W0) 14 (ve_all (ve_rel (ve_lc [("i", 9)] sc__law_forest_rows.nd (vi_range1 (va_cons (ve_var 1) va_nil) T.n_range) (blkOk_by rfl) (fun _ _ _ _ _ => (vg_name 9 sc__law_forest_rows.nd)) (fun _ _ _ _ _ => vts_nil) (fun _ _ _ _ _ => (ve_cmp (op_eqD hr.units) b_eq.d (ve_idx (ve_idx (ve_var 4) (ve_var 9)) (ve_var 9)) ve_int)))) T.n_all))) (vss_line 4 7 8 hr.units1 sc__law_forest_rows.nd (ve_callIO (j := 0) v__law_draw (hr.mono (by decide)) takes_def (va_cons (ve_var 1) va_nil)) (ve_callIO (j := 0) v__law_draw (hr.mono (by decide)) takes_def (va_cons (ve_var 1) va_nil)) 
  (vss_one (vs_asg (ve_un un_neg d_neg ve_int) (vu_ix2 4 (ve_var 8) (ve_var 8))))) vss_nil)
  (vss_cons (vs_to [(.pin a .dc), .sh, .sh, .sh, (.li (.li .sh)), .sh, .sh, .sh, .sh, .sh, .sh, .sh, .sh, .sh] (vs_set 5 sc__law_forest_rows.nd (ve_rel (ve_listRg1 (ve_var 1) T.n_list T.n_range))))
  (vss_cons (vs_for (ws := [9, 10]) (passes_of rfl) (vi_seq (ve_var 2)) (vg_tup (pg_tup rfl (vgs_cons (vg_name 9 sc__law_forest_rows.nd) (vgs_cons (vg_name 10 sc__law_forest_rows.nd) vgs_nil (pgs_cons (vg_name 10 sc__law_forest_rows.nd) vgs_nil)) (pgs_cons (vg_name 9 sc__law_forest_rows.nd) (vgs_cons (vg_name 10 sc__law_forest_rows.nd) vgs_nil (pgs_cons (vg_name 10 sc__law_forest_rows.nd) vgs_nil)))))) (vss_cons (vs_to [(.pin a .dc), .sh, .sh, .sh, (.li (.li .sh)), .sh, .sh, .sh, .sh, .sh, .sh, .sh, .sh, .sh] (vs_set 11 sc__law_forest_rows.nd (ve_op op_sub d_sub ve_int (ve_op op_mulW d_mul ve_int (ve_callIO (j := 0) v__law_draw (hr.mono (by decide)) takes_def (va_cons ve_int va_nil))))))
  (vss_cons (vs_asg (ve_tup (va_cons (ve_var 11) (va_cons (ve_un un_neg d_neg (ve_var 11)) va_nil))) (vu_tup (pg_tup rfl (vus_cons (pgs_cons (vu_ix2 4 (ve_var 9) (ve_var 10)) (vus_cons (pgs_cons (vu_ix2 4 (ve_var 10) (ve_var 9)) vus_nil) (nu_ix2 nx_var nx_var))) (nu_ix2 nx_var nx_var)))))
  (vss_one (vs_to [(.pin a .dc), .sh, .sh, .sh, (.li (.li .sh)), .sh, .sh, .sh, .sh, .sh, .sh, .sh, .sh, .sh] (vs_set 5 sc__law_forest_rows.nd (ve_rel (ve_lc [("k", 13)] sc__law_forest_rows.nd (vi_range1 (va_cons (ve_var 1) va_nil) T.n_range) (blkOk_by rfl) (fun _ _ _ _ _ => (vg_name 13 sc__law_forest_rows.nd)) (fun _ _ _ _ _ => vts_nil) (fun _ _ _ _ _ => (ve_ite (vt_cmp (op_eqD hr.units) b_eq.d (ve_idx (ve_var 5) (ve_var 13)) (ve_idx (ve_var 5) (ve_var 9))) (ve_idx (ve_var 5) (ve_var 10)) (ve_idx (ve_var 5) (ve_var 13))))))))))))
  (vss_cons (vs_for (ws := [6]) (passes_of rfl) (vi_range1 (va_cons (ve_callIO (j := 0) v__law_draw (hr.mono (by decide)) takes_def (va_cons ve_int va_nil)) va_nil) T.n_range) (vg_name 6 sc__law_forest_rows.nd) (vss_cons (vs_asg (ve_tup (va_cons (ve_callIO (j := 0) v__law_draw (hr.mono (by decide)) takes_def (va_cons (ve_var 1) va_nil)) (va_cons (ve_callIO (j := 0) v__law_draw (hr.mono (by decide)) takes_def (va_cons (ve_var 1) va_nil)) va_nil))) (vu_tup (pg_tup rfl (vus_cons (pgs_cons (vu_name 9 sc__law_forest_rows.nd) (vus_cons (pgs_cons (vu_name 10 sc__law_forest_rows.nd) vus_nil) nu_v)) nu_v))))
  (vss_one (vs_if (vt_cmp op_lt (b_cmp _).d (ve_idx (ve_var 5) (ve_var 9)) (ve_idx (ve_var 5) (ve_var 10))) (vss_one (vs_asg (ve_op op_sub d_sub ve_int (ve_op op_mulW d_mul ve_int (ve_callIO (j := 0) v__law_draw (hr.mono (by decide)) takes_def (va_cons ve_int va_nil)))) (vu_ix2 4 (ve_var 9) (ve_var 10)))) vss_nil))))
  (vss_one (vs_retO 4))))))))))) (fun _ => rfl)
abbrev s__law_web_rows : Stmt := top 29
theorem sc__law_web_rows : FnScope ["pen", "size", "way", "rows", "much", "spared", "i", "lap", "row", "j"] ["pen", "size"] (defScope s__law_web_rows) := ⟨rfl, rfl, rfl, by decide +kernel, rfl, by decide +kernel, by decide +kernel⟩
def d__law_web_rows : DS := (dSeq (dSet 2 (dCallIO 0 1 fn__law_draw (dCons (dC (.int 8)) dNil))) (dSeq (dIf (dTst asB (dBin (eqD false) (dVar 2) (dC (.int 0)))) (dSeq (dSet 4 (dCallIO 0 1 fn__law_pick (dCons (dAr dLstD (dCons (dAr dLstD (dCons (dC (.int 0)) (dCons (dC (.int 0)) (dCons (dC (.int 1)) (dCons (dUn negD (dC (.int 1))) dNil))))) (dCons (dAr dLstD (dCons (dC (.int 0)) (dCons (dC (.int 0)) (dCons (dC (.int 0)) (dCons (dC (.int 1)) (dCons (dUn negD (dC (.int 1))) dNil)))))) (dCons (dAr dLstD (dCons (dC (.int 0)) (dCons (dUn negD (dC (.int 1))) dNil))) (dCons (dAr dLstD (dCons (dC (.int 0)) (dCons (dC (.int 0)) (dCons (dC (.int 0)) (dCons (dC (.int 0)) (dCons (dC (.int 0)) (dCons (dC (.int 1)) (dCons (dUn negD (dC (.int 1))) dNil)))))))) dNil))))) dNil))) (dRet (dAr tupOf (dCons (dLc [6] (dRng1 (dCons (dVar 1) dNil)) (gV 6) dYes (dAr tupOf (dCons (dLc [9] (dRng1 (dCons (dVar 1) dNil)) (gV 9) dYes (dCallIO 0 1 fn__law_pick (dCons (dVar 4) dNil))) dNil))) dNil)))) dSkip) (dSeq (dSet 3 (dCallIO 0 1 fn__law_forest_rows (dCons (dVar 1) dNil))) (dSeq (dIf (dTst asB (dBin (inTD false) (dVar 2) (dAr dTupD (dCons (dC (.int 3)) (dCons (dC (.int 4)) dNil))))) (dSeq (dSet 5 (dIte (dTst asB (dBin (eqD false) (dCallIO 0 1 fn__law_draw (dCons (dC (.int 2)) dNil)) (dC (.int 0)))) (dVar 1) (dCallIO 0 1 fn__law_draw (dCons (dVar 1) dNil)))) (dFor (dRng1 (dCons (dVar 1) dNil)) (gV 6) (dAsg (dIte (dTst asB (dBin (eqD false) (dVar 6) (dVar 5))) (dUn negD (dC (.int 1))) (dC (.int 0))) (uIx2 3 (dVar 6) (dVar 6))))) dSkip) (dSeq (dIf (dTst asB (dBin (inTD false) (dVar 2) (dAr dTupD (dCons (dC (.int 1)) (dCons (dC (.int 2)) dNil))))) (dSeq (dFor (dRng1 (dCons (dVar 2) dNil)) (gV 7) (dAsg (dBin subD (dCallIO 0 1 fn__law_draw (dCons (dC (.int 3)) dNil)) (dC (.int 1))) (uIx2 3 (dCallIO 0 1 fn__law_draw (dCons (dVar 1) dNil)) (dCallIO 0 1 fn__law_draw (dCons (dVar 1) dNil))))) dSkip) dSkip) (dRet (dAr tupOf (dCons (dLc [8] (dSeqI (dVar 3)) (gV 8) dYes (dAr tupOf (dCons (dVar 8) dNil))) dNil))))))))
def fn__law_web_rows : List D → FRes := dFnIO (.dc :: List.replicate 1 .sh) .sh 10 d__law_web_rows
theorem v__law_web_rows {f : Addr} {fd : FuncData} (F : Fun K "_law_web_rows" "_law_web_rows" s__law_web_rows f fd) (hb : Binds K fd ["pen", "size"] []) (T : Txt K mg) (v__law_draw : VFn P w K mg base 1 "_law_draw" (.dc :: List.replicate 1 .sh) .sh fn__law_draw) (v__law_pick : VFn P w K mg base 2 "_law_pick" (.dc :: List.replicate 1 .sh) .sh fn__law_pick) (v__law_forest_rows : VFn P w K mg base 4 "_law_forest_rows" (.dc :: List.replicate 1 .sh) (.li (.li .sh)) fn__law_forest_rows) : VFnA P w K mg base 5 f (.dc :: List.replicate 1 .sh) .sh fn__law_web_rows :=
  vfa_ofIO (kdE := fun a => [(.pin a .dc), .sh, .sh, .sh, .sh, .sh, .sh, .sh, .sh, .sh]) F sc__law_web_rows hb rfl cell_dc rfl (fun a cdv A outer s H E hr => vss_fr [(.pin a .dc), .sh, .sh, .sh, .sh, .sh, .sh, .sh, .sh, .sh]
  (vss_cons (vs_to [(.pin a .dc), .sh, .sh, .sh, .sh, .sh, .sh, .sh, .sh, .sh] (vs_set 2 sc__law_web_rows.nd (ve_callIO (j := 0) v__law_draw (hr.mono (by decide)) takes_def (va_cons ve_int va_nil))))
  (vss_cons (vs_if (vt_cmp (op_eqD hr.units) b_eq.d (ve_var 2) ve_int) (vss_cons (vs_to [(.pin a .dc), .sh, .sh, .sh, .sh, .sh, .sh, .sh, .sh, .sh] (vs_set 4 sc__law_web_rows.nd (ve_callIO (j := 0) v__law_pick (hr.mono (by decide)) takes_def (va_cons (ve_rel (ve_lst (va_cons (ve_rel (ve_lst (va_cons ve_int (va_cons ve_int (va_cons ve_int (va_cons (ve_un un_neg d_neg ve_int) va_nil)))))) (va_cons (ve_rel (ve_lst (va_cons ve_int (va_cons ve_int (va_cons ve_int (va_cons ve_int (va_cons (ve_un un_neg d_neg ve_int) va_nil))))))) (va_cons (ve_rel (ve_lst (va_cons ve_int (va_cons (ve_un un_neg d_neg ve_int) va_nil)))) (va_cons (ve_rel (ve_lst (va_cons ve_int (va_cons ve_int (va_cons ve_int (va_cons ve_int (va_cons ve_int (va_cons ve_int (va_cons (ve_un un_neg d_neg ve_int) va_nil))))))))) va_nil)))))) va_nil))))
  (vss_one (vs_ret (ve_tupleOf (ve_rel (ve_lc [("i", 6)] sc__law_web_rows.nd (vi_range1 (va_cons (ve_var 1) va_nil) T.n_range) (blkOk_by rfl) (fun _ _ _ _ _ => (vg_name 6 sc__law_web_rows.nd)) (fun _ _ _ _ _ => vts_nil) (fun _ _ _ _ _ => (ve_tupleOf (ve_rel (ve_lc [("j", 9)] sc__law_web_rows.nd (vi_range1 (va_cons (ve_var 1) va_nil) T.n_range) (blkOk_by rfl) (fun _ _ _ _ _ => (vg_name 9 sc__law_web_rows.nd)) (fun _ _ _ _ _ => vts_nil) (fun _ _ _ _ _ => (ve_callIO (j := 0) v__law_pick (hr.mono (by decide)) takes0 (va_cons (ve_var 4) va_nil))))) T.n_tuple)))) T.n_tuple)))) vss_nil)
  (vss_cons (vs_to [(.pin a .dc), .sh, .sh, (.li (.li .sh)), .sh, .sh, .sh, .sh, .sh, .sh] (vs_set 3 sc__law_web_rows.nd (ve_callIO (j := 0) v__law_forest_rows (hr.mono (by decide)) takes_def (va_cons (ve_var 1) va_nil))))
  (vss_cons (vs_if (vt_cmp (op_inT hr.units1) b_inT.d (ve_var 2) (ve_tup (va_cons ve_int (va_cons ve_int va_nil)))) (vss_cons (vs_to [(.pin a .dc), .sh, .sh, (.li (.li .sh)), .sh, .sh, .sh, .sh, .sh, .sh] (vs_set 5 sc__law_web_rows.nd (ve_ite (vt_cmp (op_eqD hr.units) b_eq.d (ve_callIO (j := 0) v__law_draw (hr.mono (by decide)) takes_def (va_cons ve_int va_nil)) ve_int) (ve_var 1) (ve_callIO (j := 0) v__law_draw (hr.mono (by decide)) takes_def (va_cons (ve_var 1) va_nil)))))
  (vss_one (vs_for (ws := [6]) (passes_of rfl) (vi_range1 (va_cons (ve_var 1) va_nil) T.n_range) (vg_name 6 sc__law_web_rows.nd) (vss_one (vs_asg (ve_ite (vt_cmp (op_eqD hr.units) b_eq.d (ve_var 6) (ve_var 5)) (ve_un un_neg d_neg ve_int) ve_int) (vu_ix2 3 (ve_var 6) (ve_var 6))))))) vss_nil)
  (vss_cons (vs_if (vt_cmp (op_inT hr.units1) b_inT.d (ve_var 2) (ve_tup (va_cons ve_int (va_cons ve_int va_nil)))) (vss_cons (vs_for (ws := [7]) (passes_of rfl) (vi_range1 (va_cons (ve_var 2) va_nil) T.n_range) (vg_name 7 sc__law_web_rows.nd) (vss_one (vs_asg (ve_op op_sub d_sub (ve_callIO (j := 0) v__law_draw (hr.mono (by decide)) takes_def (va_cons ve_int va_nil)) ve_int) (vu_ix2 3 (ve_callIO (j := 0) v__law_draw (hr.mono (by decide)) takes_def (va_cons (ve_var 1) va_nil)) (ve_callIO (j := 0) v__law_draw (hr.mono (by decide)) takes_def (va_cons (ve_var 1) va_nil)))))) (vss_relT 3 [(.pin a .dc), .sh, .sh, .sh, .sh, .sh, .sh, .sh, .sh, .sh] vss_nil)) (vss_relT 3 [(.pin a .dc), .sh, .sh, .sh, .sh, .sh, .sh, .sh, .sh, .sh] vss_nil))
  (vss_one (vs_ret (ve_tupleOf (ve_rel (ve_lc [("row", 8)] sc__law_web_rows.nd (vi_seq (ve_var 3)) (blkOk_by rfl) (fun _ _ _ _ _ => (vg_name 8 sc__law_web_rows.nd)) (fun _ _ _ _ _ => vts_nil) (fun _ _ _ _ _ => (ve_tupleOf (ve_var 8) T.n_tuple)))) T.n_tuple))))))))) (fun _ => rfl)
abbrev s__law_few_rows : Stmt := top 36
theorem sc__law_few_rows : FnScope ["pen", "size", "most", "rows", "cells", "i", "order", "at", "j", "row"] ["pen", "size", "most"] (defScope s__law_few_rows) := ⟨rfl, rfl, rfl, by decide +kernel, rfl, by decide +kernel, by decide +kernel⟩
def d__law_few_rows : DS := (dSeq (dSet 3 (dLc [9] (dSeqI (dCallIO 0 1 fn__law_web_rows (dCons (dVar 1) dNil))) (gV 9) dYes (dAr lstOf (dCons (dVar 9) dNil)))) (dSeq (dIf (dTst asB (dBin (eqD false) (dCallIO 0 1 fn__law_draw (dCons (dC (.int 2)) dNil)) (dC (.int 0)))) (dSeq (dSet 6 (dSli sliA (dCallIO 0 1 fn__law_shuffled (dCons (dLRg1 (dVar 1)) dNil)) dNo0 (dPart (dBin add4D (dC (.int 1)) (dCallIO 0 1 fn__law_draw (dCons (dVar 1) dNil)))))) (dFor (dRng1 (dCons (dAr lenD (dCons (dVar 6) dNil)) dNil)) (gV 7) (dAsg (dBin subD (dC (.int 1)) (dBin mulD (dC (.int 2)) (dCallIO 0 1 fn__law_draw (dCons (dC (.int 2)) dNil)))) (uIx2 3 (dBin idxD (dVar 6) (dVar 7)) (dBin idxD (dVar 6) (dBin subD (dVar 7) (dC (.int 1)))))))) dSkip) (dSeq (dSet 4 (dAr dLstD dNil)) (dSeq (dFor (dRng1 (dCons (dVar 1) dNil)) (gV 5) (dSet 4 (dBin add4D (dVar 4) (dBor (.li .sh) (dLc [8] (dRng1 (dCons (dVar 1) dNil)) (gV 8) (dTst asB (dBin (eqD true) (dBin idxD (dBin idxD (dVar 3) (dVar 5)) (dVar 8)) (dC (.int 0)))) (dAr dTupD (dCons (dVar 5) (dCons (dVar 8) dNil)))))))) (dSeq (dFor (dSeqI (dSli sliA (dCallIO 0 1 fn__law_shuffled (dCons (dVar 4) dNil)) (dPart (dVar 2)) dNo0)) (gT 2 (gC (gV 5) (gC (gV 8) gN))) (dAsg (dC (.int 0)) (uIx2 3 (dVar 5) (dVar 8)))) (dRet (dAr tupOf (dCons (dLc [9] (dSeqI (dVar 3)) (gV 9) dYes (dAr tupOf (dCons (dVar 9) dNil))) dNil))))))))
def fn__law_few_rows : List D → FRes := dFnIO (.dc :: List.replicate 2 .sh) .sh 10 d__law_few_rows
theorem v__law_few_rows {f : Addr} {fd : FuncData} (F : Fun K "_law_few_rows" "_law_few_rows" s__law_few_rows f fd) (hb : Binds K fd ["pen", "size", "most"] []) (T : Txt K mg) (v__law_web_rows : VFn P w K mg base 5 "_law_web_rows" (.dc :: List.replicate 1 .sh) .sh fn__law_web_rows) (v__law_draw : VFn P w K mg base 1 "_law_draw" (.dc :: List.replicate 1 .sh) .sh fn__law_draw) (v__law_shuffled : VFn P w K mg base 2 "_law_shuffled" (.dc :: List.replicate 1 .sh) .sh fn__law_shuffled) : VFnA P w K mg base 6 f (.dc :: List.replicate 2 .sh) .sh fn__law_few_rows :=
  vfa_ofIO (kdE := fun a => [(.pin a .dc), .sh, .sh, .sh, .sh, .sh, .sh, .sh, .sh, .sh]) F sc__law_few_rows hb rfl cell_dc rfl (fun a cdv A outer s H E hr => vss_fr [(.pin a .dc), .sh, .sh, .sh, .sh, .sh, .sh, .sh, .sh, .sh]
  (vss_cons (vs_to [(.pin a .dc), .sh, .sh, (.li (.li .sh)), .sh, .sh, .sh, .sh, .sh, .sh] (vs_set 3 sc__law_few_rows.nd (ve_lc [("row", 9)] sc__law_few_rows.nd (vi_seq (ve_callIO (j := 0) v__law_web_rows (hr.mono (by decide)) takes_def (va_cons (ve_var 1) va_nil))) (blkOk_by rfl) (fun _ _ _ _ _ => (vg_name 9 sc__law_few_rows.nd)) (fun _ _ _ _ _ => vts_nil) (fun _ _ _ _ _ => (ve_listOf (ve_var 9) T.n_list)))))
  (vss_cons (vs_if (vt_cmp (op_eqD hr.units) b_eq.d (ve_callIO (j := 0) v__law_draw (hr.mono (by decide)) takes_def (va_cons ve_int va_nil)) ve_int) (vss_cons (vs_to [(.pin a .dc), .sh, .sh, (.li (.li .sh)), .sh, .sh, .sh, .sh, .sh, .sh] (vs_set 6 sc__law_few_rows.nd (ve_sliA (ve_callIO (j := 0) v__law_shuffled (hr.mono (by decide)) takes_def (va_cons (ve_rel (ve_listRg1 (ve_var 1) T.n_list T.n_range)) va_nil)) vp_none (vp_some (ve_op op_add4 d_add4 ve_int (ve_callIO (j := 0) v__law_draw (hr.mono (by decide)) takes_def (va_cons (ve_var 1) va_nil)))))))
  (vss_one (vs_for (ws := [7]) (passes_of rfl) (vi_range1 (va_cons (ve_len (ve_var 6) T.n_len) va_nil) T.n_range) (vg_name 7 sc__law_few_rows.nd) (vss_one (vs_asg (ve_op op_sub d_sub ve_int (ve_op op_mulW d_mul ve_int (ve_callIO (j := 0) v__law_draw (hr.mono (by decide)) takes_def (va_cons ve_int va_nil)))) (vu_ix2 3 (ve_idx (ve_var 6) (ve_var 7)) (ve_idx (ve_var 6) (ve_op op_sub d_sub (ve_var 7) ve_int)))))))) vss_nil)
  (vss_cons (vs_to [(.pin a .dc), .sh, .sh, (.li (.li .sh)), .sh, .sh, .sh, .sh, .sh, .sh] (vs_set 4 sc__law_few_rows.nd (ve_rel (ve_lst va_nil))))
  (vss_cons (vs_for (ws := [5]) (passes_of rfl) (vi_range1 (va_cons (ve_var 1) va_nil) T.n_range) (vg_name 5 sc__law_few_rows.nd) (vss_one (vs_to [(.pin a .dc), .sh, .sh, (.li (.li .sh)), .sh, .sh, .sh, .sh, .sh, .sh] (vs_set 4 sc__law_few_rows.nd (ve_op op_add4 d_add4 (ve_var 4) (ve_rel (ve_bor (W' := W0) 10 (ve_lc [("j", 8)] sc__law_few_rows.nd (vi_range1 (va_cons (ve_var 1) va_nil) T.n_range) (blkOk_by rfl) (fun _ _ _ _ _ => (vg_name 8 sc__law_few_rows.nd)) (fun _ _ _ _ _ => (vts_one (vt_cmp (op_neD hr.units) b_ne.d (ve_idx (ve_idx (ve_var 3) (ve_var 5)) (ve_var 8)) ve_int))) (fun _ _ _ _ _ => (ve_tup (va_cons (ve_var 5) (va_cons (ve_var 8) va_nil))))))))))))
  (vss_cons (vs_for (ws := [5, 8]) (passes_of rfl) (vi_seq (ve_sliA (ve_callIO (j := 0) v__law_shuffled (hr.mono (by decide)) takes_def (va_cons (ve_var 4) va_nil)) (vp_some (ve_var 2)) vp_none)) (vg_tup (pg_tup rfl (vgs_cons (vg_name 5 sc__law_few_rows.nd) (vgs_cons (vg_name 8 sc__law_few_rows.nd) vgs_nil (pgs_cons (vg_name 8 sc__law_few_rows.nd) vgs_nil)) (pgs_cons (vg_name 5 sc__law_few_rows.nd) (vgs_cons (vg_name 8 sc__law_few_rows.nd) vgs_nil (pgs_cons (vg_name 8 sc__law_few_rows.nd) vgs_nil)))))) (vss_one (vs_asg ve_int (vu_ix2 3 (ve_var 5) (ve_var 8)))))
  (vss_relT 3 [(.pin a .dc), .sh, .sh, .sh, .sh, .sh, .sh, .sh, .sh, .sh] (vss_one (vs_ret (ve_tupleOf (ve_rel (ve_lc [("row", 9)] sc__law_few_rows.nd (vi_seq (ve_var 3)) (blkOk_by rfl) (fun _ _ _ _ _ => (vg_name 9 sc__law_few_rows.nd)) (fun _ _ _ _ _ => vts_nil) (fun _ _ _ _ _ => (ve_tupleOf (ve_var 9) T.n_tuple)))) T.n_tuple)))))))))) (fun _ => rfl)
abbrev s_arrows : Stmt := top 21
theorem sc_arrows : FnScope ["web", "i", "j"] ["web"] (defScope s_arrows) := ⟨rfl, rfl, rfl, by decide +kernel, rfl, by decide +kernel, by decide +kernel⟩
def d_arrows : DS := (dRet (dAr tupOf (dCons (dLc2 [1, 2] (dRng1 (dCons (dUn (fldD ["Web"] "size") (dVar 0)) dNil)) (gV 1) dYes (dRng1 (dCons (dUn (fldD ["Web"] "size") (dVar 0)) dNil)) [2] (gV 2) (dTst asB (dBin (eqD true) (dBin idxD (dBin idxD (dUn (fldD ["Web"] "rows") (dVar 0)) (dVar 1)) (dVar 2)) (dC (.int 0)))) (dAr dTupD (dCons (dVar 1) (dCons (dVar 2) dNil)))) dNil)))
def fn_arrows : List D → FRes := dFn (List.replicate 1 .sh) .sh 3 d_arrows
theorem v_arrows {f : Addr} {fd : FuncData} (F : Fun K "arrows" "arrows" s_arrows f fd) (hb : Binds K fd ["web"] []) (T : Txt K mg) : VFnA P w K mg base 1 f (List.replicate 1 .sh) .sh fn_arrows :=
  vfa_of (kdE := [.sh, .sh, .sh]) F sc_arrows hb rfl (fun cdv A outer s H E hr => vss_fr [.sh, .sh, .sh]
  (vss_one (vs_ret (ve_tupleOf (ve_rel (ve_lc2 [("i", 1), ("j", 2)] [2] sc_arrows.nd (vi_range1 (va_cons (ve_fld ["Web"] T.f_size (ve_var 0)) va_nil) T.n_range) (blkOk_by rfl) (fun _ _ _ _ _ => (vg_name 1 sc_arrows.nd)) (fun _ _ _ _ _ => vts_nil) (fun _ _ _ _ _ => (vi_range1 (va_cons (ve_fld ["Web"] T.f_size (ve_var 0)) va_nil) T.n_range)) (fun _ _ _ _ _ => (vg_name 2 sc_arrows.nd)) (fun _ _ _ _ _ => (vts_one (vt_cmp (op_neD hr.units) b_ne.d (ve_idx (ve_idx (ve_fld ["Web"] T.f_rows (ve_var 0)) (ve_var 1)) (ve_var 2)) ve_int))) (fun _ _ _ _ _ => (ve_tup (va_cons (ve_var 1) (va_cons (ve_var 2) va_nil)))))) T.n_tuple))))
abbrev s__law_rounds : Stmt := top 30
theorem sc__law_rounds : FnScope ["rows", "layer", "length", "size", "found", "longer", "way", "i", "j"] ["rows"] (defScope s__law_rounds) := ⟨rfl, rfl, rfl, by decide +kernel, rfl, by decide +kernel, by decide +kernel⟩
def d__law_rounds : DS := (dSeq (dPar2 3 4 (dCons (dAr lenD (dCons (dVar 0) dNil)) (dCons (dAr dLstD dNil) dNil))) (dSeq (dSet 1 (dLc [7] (dRng1 (dCons (dVar 3) dNil)) (gV 7) dYes (dAr dTupD (dCons (dVar 7) dNil)))) (dSeq (dFor (dRng1 (dCons (dVar 3) dNil)) (gV 2) (dSeq (dSet 4 (dBin add4D (dVar 4) (dAr sortD (dCons (dLc [6] (dSeqI (dVar 1)) (gV 6) (dTst asB (dBin (eqD true) (dBin idxD (dBin idxD (dVar 0) (dBin idxD (dVar 6) (dC (.int 0)))) (dBin idxD (dVar 6) (dUn negD (dC (.int 1))))) (dC (.int 0)))) (dVar 6)) dNil)))) (dSeq (dSet 5 (dAr dLstD dNil)) (dSeq (dFor (dSeqI (dVar 1)) (gV 6) (dSet 5 (dBin add4D (dVar 5) (dLc [8] (dRng2 (dCons (dBin add4D (dBin idxD (dVar 6) (dC (.int 0))) (dC (.int 1))) (dCons (dVar 3) dNil))) (gV 8) (dAnd (dTst asB (dBin (inTD true) (dVar 8) (dVar 6))) (dTst asB (dBin (eqD true) (dBin idxD (dBin idxD (dVar 0) (dVar 8)) (dBin idxD (dVar 6) (dUn negD (dC (.int 1))))) (dC (.int 0))))) (dBin add4D (dVar 6) (dAr dTupD (dCons (dVar 8) dNil))))))) (dSet 1 (dVar 5)))))) (dRet (dVar 4)))))
def fn__law_rounds : List D → FRes := dFn (List.replicate 1 .sh) .sh 9 d__law_rounds
theorem v__law_rounds {f : Addr} {fd : FuncData} (F : Fun K "_law_rounds" "_law_rounds" s__law_rounds f fd) (hb : Binds K fd ["rows"] []) (T : Txt K mg) : VFnA P w K mg base 1 f (List.replicate 1 .sh) .sh fn__law_rounds :=
  vfa_of (kdE := [.sh, .sh, .sh, .sh, .sh, .sh, .sh, .sh, .sh]) F sc__law_rounds hb rfl (fun cdv A outer s H E hr => vss_fr [.sh, .sh, .sh, .sh, .sh, .sh, .sh, .sh, .sh]
  (vss_cons (vs_to [.sh, .sh, .sh, .sh, .sh, .sh, .sh, .sh, .sh] (vs_par2 3 4 sc__law_rounds.nd (vk_cons (ve_len (ve_var 0) T.n_len) (vk_cons (ve_rel (ve_lst va_nil)) vk_nil))))
  (vss_cons (vs_to [.sh, (.li .sh), .sh, .sh, .sh, .sh, .sh, .sh, .sh] (vs_setLc 1 [("i", 7)] sc__law_rounds.nd rfl (vi_range1 (va_cons (ve_var 3) va_nil) T.n_range) (blkOk_by rfl) (fun _ _ _ _ _ => (vg_name 7 sc__law_rounds.nd)) (fun _ _ _ _ _ => vts_nil) (fun _ _ _ _ _ => (ve_tup (va_cons (ve_var 7) va_nil)))))
  (vss_relT 1 [.sh, .sh, .sh, .sh, .sh, .sh, .sh, .sh, .sh] (vss_cons (vs_for (ws := [2]) (passes_of rfl) (vi_range1 (va_cons (ve_var 3) va_nil) T.n_range) (vg_name 2 sc__law_rounds.nd) (vss_cons (vs_to [.sh, .sh, .sh, .sh, .sh, .sh, .sh, .sh, .sh] (vs_set 4 sc__law_rounds.nd (ve_op op_add4 d_add4 (ve_var 4) (ve_rel (ve_sorted hr.units2 (ve_rel (ve_lc [("way", 6)] sc__law_rounds.nd (vi_seq (ve_var 1)) (blkOk_by rfl) (fun _ _ _ _ _ => (vg_name 6 sc__law_rounds.nd)) (fun _ _ _ _ _ => (vts_one (vt_cmp (op_neD hr.units) b_ne.d (ve_idx (ve_idx (ve_var 0) (ve_idx (ve_var 6) ve_int)) (ve_idx (ve_var 6) (ve_un un_neg d_neg ve_int))) ve_int))) (fun _ _ _ _ _ => (ve_var 6)))) T.n_sorted)))))
  (vss_cons (vs_to [.sh, .sh, .sh, .sh, .sh, .sh, .sh, .sh, .sh] (vs_set 5 sc__law_rounds.nd (ve_rel (ve_lst va_nil))))
  (vss_cons (vs_for (ws := [6]) (passes_of rfl) (vi_seq (ve_var 1)) (vg_name 6 sc__law_rounds.nd) (vss_one (vs_to [.sh, .sh, .sh, .sh, .sh, .sh, .sh, .sh, .sh] (vs_set 5 sc__law_rounds.nd (ve_op op_add4 d_add4 (ve_var 5) (ve_rel (ve_lc [("j", 8)] sc__law_rounds.nd (vi_range2 (va_cons (ve_op op_add4 d_add4 (ve_idx (ve_var 6) ve_int) ve_int) (va_cons (ve_var 3) va_nil)) T.n_range) (blkOk_by rfl) (fun _ _ _ _ _ => (vg_name 8 sc__law_rounds.nd)) (fun _ _ _ _ _ => (vts_one (vt_bool (vw_and (vt_cmp (op_notInT hr.units1) b_notinT.d (ve_var 8) (ve_var 6)) (vw_and1 (vt_cmp (op_neD hr.units) b_ne.d (ve_idx (ve_idx (ve_var 0) (ve_var 8)) (ve_idx (ve_var 6) (ve_un un_neg d_neg ve_int))) ve_int)))))) (fun _ _ _ _ _ => (ve_op op_add4 d_add4 (ve_var 6) (ve_tup (va_cons (ve_var 8) va_nil)))))))))))
  (vss_one (vs_to [.sh, .sh, .sh, .sh, .sh, .sh, .sh, .sh, .sh] (vs_set 1 sc__law_rounds.nd (ve_var 5))))))))
  (vss_one (vs_ret (ve_var 4))))))))
abbrev s_arrows_along : Stmt := top 24
theorem sc_arrows_along : FnScope ["ring", "at"] ["ring"] (defScope s_arrows_along) := ⟨rfl, rfl, rfl, by decide +kernel, rfl, by decide +kernel, by decide +kernel⟩
def d_arrows_along : DS := (dRet (dAr tupOf (dCons (dAr sortD (dCons (dLc [1] (dRng1 (dCons (dAr lenD (dCons (dVar 0) dNil)) dNil)) (gV 1) dYes (dAr dTupD (dCons (dBin idxD (dVar 0) (dBin modD (dBin add4D (dVar 1) (dC (.int 1))) (dAr lenD (dCons (dVar 0) dNil)))) (dCons (dBin idxD (dVar 0) (dVar 1)) dNil)))) dNil)) dNil)))
def fn_arrows_along : List D → FRes := dFn (List.replicate 1 .sh) .sh 2 d_arrows_along
theorem v_arrows_along {f : Addr} {fd : FuncData} (F : Fun K "arrows_along" "arrows_along" s_arrows_along f fd) (hb : Binds K fd ["ring"] []) (T : Txt K mg) : VFnA P w K mg base 1 f (List.replicate 1 .sh) .sh fn_arrows_along :=
  vfa_of (kdE := [.sh, .sh]) F sc_arrows_along hb rfl (fun cdv A outer s H E hr => vss_fr [.sh, .sh]
  (vss_one (vs_ret (ve_tupleOf (ve_rel (ve_sorted hr.units2 (ve_rel (ve_lc [("at", 1)] sc_arrows_along.nd (vi_range1 (va_cons (ve_len (ve_var 0) T.n_len) va_nil) T.n_range) (blkOk_by rfl) (fun _ _ _ _ _ => (vg_name 1 sc_arrows_along.nd)) (fun _ _ _ _ _ => vts_nil) (fun _ _ _ _ _ => (ve_tup (va_cons (ve_idx (ve_var 0) (ve_op op_mod d_mod (ve_op op_add4 d_add4 (ve_var 1) ve_int) (ve_len (ve_var 0) T.n_len))) (va_cons (ve_idx (ve_var 0) (ve_var 1)) va_nil)))))) T.n_sorted)) T.n_tuple))))
abbrev s_is_index : Stmt := top 10
theorem sc_is_index : FnScope ["many", "value"] ["many", "value"] (defScope s_is_index) := ⟨rfl, rfl, rfl, by decide +kernel, rfl, by decide +kernel, by decide +kernel⟩
def d_is_index : DS := (dRet (dAndV (dCall 1 fn_is_whole (dCons (dVar 1) dNil)) (dChain leD ltD (dC (.int 0)) (dVar 1) (dVar 0))))
def fn_is_index : List D → FRes := dFn (List.replicate 2 .sh) .sh 2 d_is_index
theorem v_is_index {f : Addr} {fd : FuncData} (F : Fun K "is_index" "is_index" s_is_index f fd) (hb : Binds K fd ["many", "value"] []) (T : Txt K mg) (v_is_whole : VFn P w K mg base 1 "is_whole" (List.replicate 1 .sh) .sh fn_is_whole) : VFnA P w K mg base 2 f (List.replicate 2 .sh) .sh fn_is_index :=
  vfa_of (kdE := [.sh, .sh]) F sc_is_index hb rfl (fun cdv A outer s H E hr => vss_fr [.sh, .sh]
  (vss_one (vs_ret (ve_and (ve_call v_is_whole (hr.mono (by decide)) takes_def (va_cons (ve_var 1) va_nil)) (ve_one (ve_chain op_le (b_cmp _) op_lt (b_cmp _) ve_int (ve_var 1) (ve_var 0)))))))
abbrev s_is_round : Stmt := top 15
theorem sc_is_round : FnScope ["web", "value", "at", "place"] ["web", "value"] (defScope s_is_round) := ⟨rfl, rfl, rfl, by decide +kernel, rfl, by decide +kernel, by decide +kernel⟩
def d_is_round : DS := (dSeq (dIf (dOr (dNot (dTst truth (dIsi ["tuple"] [] (dVar 1)))) (dOr (dTst asB (dBin (eqD false) (dAr lenD (dCons (dVar 1) dNil)) (dC (.int 0)))) (dNot (dTst truth (dAr allD (dCons (dLc [3] (dSeqI (dVar 1)) (gV 3) dYes (dCall 2 fn_is_index (dCons (dUn (fldD ["Web"] "size") (dVar 0)) (dCons (dVar 3) dNil)))) dNil)))))) (dRet (dC (.bl false))) dSkip) (dSeq (dFor (dRng1 (dCons (dAr lenD (dCons (dVar 1) dNil)) dNil)) (gV 2) (dIf (dOr (dTst asB (dBin (inTD false) (dBin idxD (dVar 1) (dVar 2)) (dSli sliA (dVar 1) dNo0 (dPart (dVar 2))))) (dTst asB (dBin (eqD false) (dBin idxD (dBin idxD (dUn (fldD ["Web"] "rows") (dVar 0)) (dBin idxD (dVar 1) (dBin modD (dBin add4D (dVar 2) (dC (.int 1))) (dAr lenD (dCons (dVar 1) dNil))))) (dBin idxD (dVar 1) (dVar 2))) (dC (.int 0))))) (dRet (dC (.bl false))) dSkip)) (dRet (dC (.bl true)))))
def fn_is_round : List D → FRes := dFn (List.replicate 2 .sh) .sh 4 d_is_round
theorem v_is_round {f : Addr} {fd : FuncData} (F : Fun K "is_round" "is_round" s_is_round f fd) (hb : Binds K fd ["web", "value"] []) (T : Txt K mg) (v_is_index : VFn P w K mg base 2 "is_index" (List.replicate 2 .sh) .sh fn_is_index) : VFnA P w K mg base 3 f (List.replicate 2 .sh) .sh fn_is_round :=
  vfa_of (kdE := [.sh, .sh, .sh, .sh]) F sc_is_round hb rfl (fun cdv A outer s H E hr => vss_fr [.sh, .sh, .sh, .sh]
  (vss_cons (vs_if (vt_bool (vw_or (vt_not (vt_truth (ve_isi (isi_builtin ["tuple"] (by decide)) (.ty "tuple") (ve_var 1) (pe_btN T.n_tuple boot_tuple) T.n_isinstance))) (vw_or (vt_cmp (op_eqD hr.units) b_eq.d (ve_len (ve_var 1) T.n_len) ve_int) (vw_or1 (vt_not (vt_truth (ve_all (ve_rel (ve_lc [("place", 3)] sc_is_round.nd (vi_seq (ve_var 1)) (blkOk_by rfl) (fun _ _ _ _ _ => (vg_name 3 sc_is_round.nd)) (fun _ _ _ _ _ => vts_nil) (fun _ _ _ _ _ => (ve_call v_is_index (hr.mono (by decide)) takes0 (va_cons (ve_fld ["Web"] T.f_size (ve_var 0)) (va_cons (ve_var 3) va_nil)))))) T.n_all))))))) (vss_one (vs_ret ve_bl)) vss_nil)
  (vss_cons (vs_for (ws := [2]) (passes_of rfl) (vi_range1 (va_cons (ve_len (ve_var 1) T.n_len) va_nil) T.n_range) (vg_name 2 sc_is_round.nd) (vss_one (vs_if (vt_bool (vw_or (vt_cmp (op_inT hr.units1) b_inT.d (ve_idx (ve_var 1) (ve_var 2)) (ve_sliA (ve_var 1) vp_none (vp_some (ve_var 2)))) (vw_or1 (vt_cmp (op_eqD hr.units) b_eq.d (ve_idx (ve_idx (ve_fld ["Web"] T.f_rows (ve_var 0)) (ve_idx (ve_var 1) (ve_op op_mod d_mod (ve_op op_add4 d_add4 (ve_var 2) ve_int) (ve_len (ve_var 1) T.n_len)))) (ve_idx (ve_var 1) (ve_var 2))) ve_int)))) (vss_one (vs_ret ve_bl)) vss_nil)))
  (vss_one (vs_ret ve_bl)))))
abbrev s_round_arrows : Stmt := top 25
theorem sc_round_arrows : FnScope ["web", "value"] ["web", "value"] (defScope s_round_arrows) := ⟨rfl, rfl, rfl, by decide +kernel, rfl, by decide +kernel, by decide +kernel⟩
def d_round_arrows : DS := (dSeq (dIf (dOr (dNot (dTst truth (dCall 1 fn_is_list (dCons (dVar 1) dNil)))) (dNot (dTst truth (dCall 2 fn_is_round (dCons (dVar 0) (dCons (dAr tupOf (dCons (dVar 1) dNil)) dNil)))))) (dRaise "BadValue" ["what", "value"] (dCons (dC (.str "round")) (dCons (dVar 1) dNil))) dSkip) (dRet (dCall 1 fn_arrows_along (dCons (dAr tupOf (dCons (dVar 1) dNil)) dNil))))
def fn_round_arrows : List D → FRes := dFn (List.replicate 2 .sh) .sh 2 d_round_arrows
theorem v_round_arrows {f : Addr} {fd : FuncData} (F : Fun K "round_arrows" "round_arrows" s_round_arrows f fd) (hb : Binds K fd ["web", "value"] []) (T : Txt K mg) (v_is_list : VFn P w K mg base 1 "is_list" (List.replicate 1 .sh) .sh fn_is_list) (v_is_round : VFn P w K mg base 3 "is_round" (List.replicate 2 .sh) .sh fn_is_round) (v_exc_BadValue : VXc P w K mg base "BadValue" ["what", "value"]) (v_arrows_along : VFn P w K mg base 1 "arrows_along" (List.replicate 1 .sh) .sh fn_arrows_along) : VFnA P w K mg base 4 f (List.replicate 2 .sh) .sh fn_round_arrows :=
  vfa_of (kdE := [.sh, .sh]) F sc_round_arrows hb rfl (fun cdv A outer s H E hr => vss_fr [.sh, .sh]
  (vss_cons (vs_if (vt_bool (vw_or (vt_not (vt_truth (ve_call v_is_list (hr.mono (by decide)) takes_def (va_cons (ve_var 1) va_nil)))) (vw_or1 (vt_not (vt_truth (ve_call v_is_round (hr.mono (by decide)) takes_def (va_cons (ve_var 0) (va_cons (ve_tupleOf (ve_var 1) T.n_tuple) va_nil)))))))) (vss_one (vs_raise v_exc_BadValue (hr.mono (by decide)) takes_def (va_cons ve_str (va_cons (ve_var 1) va_nil)))) vss_nil)
  (vss_one (vs_ret (ve_call v_arrows_along (hr.mono (by decide)) takes_def (va_cons (ve_tupleOf (ve_var 1) T.n_tuple) va_nil))))))
abbrev s__law_refused : Stmt := top 39
theorem sc__law_refused : FnScope ["work", "fault", "<x>"] ["work"] (defScope s__law_refused) := ⟨rfl, rfl, rfl, by decide +kernel, rfl, by decide +kernel, by decide +kernel⟩
def fnT__law_refused : FRes → FRes := fTh subT 3 none (⟨"BadValue", some (1, 2), (dRet (dAr dTupD (dCons (dXf 1 2 "what") (dCons (dAr reprD (dCons (dXf 1 2 "value") dNil)) dNil))))⟩ :: []) (dRet (dC .non))
theorem v__law_refused {f : Addr} {fd : FuncData} (F : Fun K "_law_refused" "_law_refused" s__law_refused f fd) (hb : Binds K fd ["work"] []) (T : Txt K mg) (hm : mg "_law_refused" = some (.ref f)) : VTh P w K mg base 6 "_law_refused" fnT__law_refused :=
  vth_of (kdE := [.sh, .sh, .sh]) F sc__law_refused hb hm rfl rfl (.inl rfl) (by decide) (by decide) (fun cdv A outer s H E hr hgd => ⟨_, (.as (y := "<x>") ⟨rfl, by decide, .inl (T.h_BadValue.choose_spec).1⟩ (T.h_BadValue.choose_spec).2 rfl rfl rfl (hid_by (by show hidB (defScope s__law_refused) "<x>" = true; decide +kernel)) (by decide) rfl rfl (by decide) (by decide) rfl rfl rfl (fun a dx C c oe pn hmC hcC hz hf => vss_fr [.sh, (.pin a .sh), (.pin dx .sh)] (vss_one (vs_ret (ve_tup (va_cons (ve_xf 1 2 (T.xf_what c hcC C hmC).1 (T.xf_what c hcC C hmC).2 hz hf rfl rfl) (va_cons (ve_repr hgd (by have := un70 hr; exact this) (ve_xf 1 2 (T.xf_value c hcC C hmC).1 (T.xf_value c hcC C hmC).2 hz hf rfl rfl) T.n_repr) va_nil)))))) .nil)⟩) (fun cdv A outer s H E hr hgd => vss_fr [.sh, .sh, .sh] (vss_one (vs_ret ve_non)))
abbrev s_rounds_from : Stmt := top 17
theorem sc_rounds_from : FnScope ["web", "start", "length", "layer", "_", "way", "place"] ["web", "start", "length"] (defScope s_rounds_from) := ⟨rfl, rfl, rfl, by decide +kernel, rfl, by decide +kernel, by decide +kernel⟩
def d_rounds_from : DS := (dSeq (dSet 3 (dAr dLstD (dCons (dAr dTupD (dCons (dVar 1) dNil)) dNil))) (dSeq (dFor (dRng1 (dCons (dBin subD (dVar 2) (dC (.int 1))) dNil)) (gV 4) (dSeq (dSet 3 (dLc2 [5, 6] (dSeqI (dVar 3)) (gV 5) dYes (dRng2 (dCons (dBin add4D (dVar 1) (dC (.int 1))) (dCons (dUn (fldD ["Web"] "size") (dVar 0)) dNil))) [6] (gV 6) (dAnd (dTst asB (dBin (inTD true) (dVar 6) (dVar 5))) (dTst asB (dBin (eqD true) (dBin idxD (dBin idxD (dUn (fldD ["Web"] "rows") (dVar 0)) (dVar 6)) (dBin idxD (dVar 5) (dUn negD (dC (.int 1))))) (dC (.int 0))))) (dBin add4D (dVar 5) (dAr dTupD (dCons (dVar 6) dNil))))) dSkip)) (dRet (dLc [5] (dSeqI (dVar 3)) (gV 5) (dTst asB (dBin (eqD true) (dBin idxD (dBin idxD (dUn (fldD ["Web"] "rows") (dVar 0)) (dVar 1)) (dBin idxD (dVar 5) (dUn negD (dC (.int 1))))) (dC (.int 0)))) (dVar 5)))))
def fn_rounds_from : List D → FRes := dFn (List.replicate 3 .sh) .sh 7 d_rounds_from
theorem v_rounds_from {f : Addr} {fd : FuncData} (F : Fun K "rounds_from" "rounds_from" s_rounds_from f fd) (hb : Binds K fd ["web", "start", "length"] []) (T : Txt K mg) : VFnA P w K mg base 1 f (List.replicate 3 .sh) .sh fn_rounds_from :=
  vfa_of (kdE := [.sh, .sh, .sh, .sh, .sh, .sh, .sh]) F sc_rounds_from hb rfl (fun cdv A outer s H E hr => vss_fr [.sh, .sh, .sh, .sh, .sh, .sh, .sh]
  (vss_cons (vs_to [.sh, .sh, .sh, .sh, .sh, .sh, .sh] (vs_set 3 sc_rounds_from.nd (ve_rel (ve_lst (va_cons (ve_tup (va_cons (ve_var 1) va_nil)) va_nil)))))
  (vss_cons (vs_for (ws := [4]) (passes_of rfl) (vi_range1 (va_cons (ve_op op_sub d_sub (ve_var 2) ve_int) va_nil) T.n_range) (vg_name 4 sc_rounds_from.nd) (vss_cons (vs_to [.sh, .sh, .sh, (.li .sh), .sh, .sh, .sh] (vs_setLc2 3 [("way", 5), ("place", 6)] [6] sc_rounds_from.nd rfl (vi_seq (ve_var 3)) (blkOk_by rfl) (fun _ _ _ _ _ => (vg_name 5 sc_rounds_from.nd)) (fun _ _ _ _ _ => vts_nil) (fun _ _ _ _ _ => (vi_range2 (va_cons (ve_op op_add4 d_add4 (ve_var 1) ve_int) (va_cons (ve_fld ["Web"] T.f_size (ve_var 0)) va_nil)) T.n_range)) (fun _ _ _ _ _ => (vg_name 6 sc_rounds_from.nd)) (fun _ _ _ _ _ => (vts_one (vt_bool (vw_and (vt_cmp (op_notInT hr.units1) b_notinT.d (ve_var 6) (ve_var 5)) (vw_and1 (vt_cmp (op_neD hr.units) b_ne.d (ve_idx (ve_idx (ve_fld ["Web"] T.f_rows (ve_var 0)) (ve_var 6)) (ve_idx (ve_var 5) (ve_un un_neg d_neg ve_int))) ve_int)))))) (fun _ _ _ _ _ => (ve_op op_add4 d_add4 (ve_var 5) (ve_tup (va_cons (ve_var 6) va_nil)))))) (vss_relT 3 [.sh, .sh, .sh, .sh, .sh, .sh, .sh] vss_nil)))
  (vss_one (vs_ret (ve_rel (ve_lc [("way", 5)] sc_rounds_from.nd (vi_seq (ve_var 3)) (blkOk_by rfl) (fun _ _ _ _ _ => (vg_name 5 sc_rounds_from.nd)) (fun _ _ _ _ _ => (vts_one (vt_cmp (op_neD hr.units) b_ne.d (ve_idx (ve_idx (ve_fld ["Web"] T.f_rows (ve_var 0)) (ve_var 1)) (ve_idx (ve_var 5) (ve_un un_neg d_neg ve_int))) ve_int))) (fun _ _ _ _ _ => (ve_var 5)))))))))
abbrev s_rounds : Stmt := top 22
theorem sc_rounds : FnScope ["web", "found", "length", "start"] ["web"] (defScope s_rounds) := ⟨rfl, rfl, rfl, by decide +kernel, rfl, by decide +kernel, by decide +kernel⟩
def d_rounds : DS := (dSeq (dSet 1 (dAr dLstD dNil)) (dSeq (dFor (dRng2 (dCons (dC (.int 1)) (dCons (dBin add4D (dUn (fldD ["Web"] "size") (dVar 0)) (dC (.int 1))) dNil))) (gV 2) (dFor (dRng1 (dCons (dUn (fldD ["Web"] "size") (dVar 0)) dNil)) (gV 3) (dSet 1 (dBin add4D (dVar 1) (dCall 3 fn_rounds_from (dCons (dVar 0) (dCons (dVar 3) (dCons (dVar 2) dNil)))))))) (dRet (dAr tupOf (dCons (dAr sortD (dCons (dVar 1) dNil)) dNil)))))
def fn_rounds : List D → FRes := dFn (List.replicate 1 .sh) .sh 4 d_rounds
theorem v_rounds {f : Addr} {fd : FuncData} (F : Fun K "rounds" "rounds" s_rounds f fd) (hb : Binds K fd ["web"] []) (T : Txt K mg) (v_rounds_from : VFn P w K mg base 1 "rounds_from" (List.replicate 3 .sh) .sh fn_rounds_from) : VFnA P w K mg base 2 f (List.replicate 1 .sh) .sh fn_rounds :=
  vfa_of (kdE := [.sh, .sh, .sh, .sh]) F sc_rounds hb rfl (fun cdv A outer s H E hr => vss_fr [.sh, .sh, .sh, .sh]
  (vss_cons (vs_to [.sh, .sh, .sh, .sh] (vs_set 1 sc_rounds.nd (ve_rel (ve_lst va_nil))))
  (vss_cons (vs_for (ws := [2]) (passes_of rfl) (vi_range2 (va_cons ve_int (va_cons (ve_op op_add4 d_add4 (ve_fld ["Web"] T.f_size (ve_var 0)) ve_int) va_nil)) T.n_range) (vg_name 2 sc_rounds.nd) (vss_one (vs_for (ws := [3]) (passes_of rfl) (vi_range1 (va_cons (ve_fld ["Web"] T.f_size (ve_var 0)) va_nil) T.n_range) (vg_name 3 sc_rounds.nd) (vss_one (vs_to [.sh, .sh, .sh, .sh] (vs_set 1 sc_rounds.nd (ve_op op_add4 d_add4 (ve_var 1) (ve_call v_rounds_from (hr.mono (by decide)) takes_def (va_cons (ve_var 0) (va_cons (ve_var 3) (va_cons (ve_var 2) va_nil)))))))))))
  (vss_one (vs_ret (ve_tupleOf (ve_rel (ve_sorted hr.units2 (ve_var 1) T.n_sorted)) T.n_tuple))))))
abbrev s__law_is_bad : Stmt := top 31
theorem sc__law_is_bad : FnScope ["rows", "found", "i", "j"] ["rows", "found"] (defScope s__law_is_bad) := ⟨rfl, rfl, rfl, by decide +kernel, rfl, by decide +kernel, by decide +kernel⟩
def d__law_is_bad : DS := (dSeq (dIf (dTst asB (dBin ltD (dAr lenD (dCons (dVar 1) dNil)) (dC (.int 3)))) (dSeq (dPar2 2 3 (dCons (dBin idxD (dVar 1) (dC (.int 0))) (dCons (dBin idxD (dVar 1) (dUn negD (dC (.int 1)))) dNil))) (dRet (dIte (dTst asB (dBin (eqD false) (dAr lenD (dCons (dVar 1) dNil)) (dC (.int 1)))) (dBin (eqD false) (dBin idxD (dBin idxD (dVar 0) (dVar 2)) (dVar 2)) (dC (.int 1))) (dBin (eqD false) (dBin idxD (dBin idxD (dVar 0) (dVar 2)) (dVar 3)) (dBin idxD (dBin idxD (dVar 0) (dVar 3)) (dVar 2)))))) dSkip) (dRet (dC (.bl true))))
def fn__law_is_bad : List D → FRes := dFn (List.replicate 2 .sh) .sh 4 d__law_is_bad
theorem v__law_is_bad {f : Addr} {fd : FuncData} (F : Fun K "_law_is_bad" "_law_is_bad" s__law_is_bad f fd) (hb : Binds K fd ["rows", "found"] []) (T : Txt K mg) : VFnA P w K mg base 1 f (List.replicate 2 .sh) .sh fn__law_is_bad :=
  vfa_of (kdE := [.sh, .sh, .sh, .sh]) F sc__law_is_bad hb rfl (fun cdv A outer s H E hr => vss_fr [.sh, .sh, .sh, .sh]
  (vss_cons (vs_if (vt_cmp op_lt (b_cmp _).d (ve_len (ve_var 1) T.n_len) ve_int) (vss_cons (vs_to [.sh, .sh, .sh, .sh] (vs_par2 2 3 sc__law_is_bad.nd (vk_cons (ve_idx (ve_var 1) ve_int) (vk_cons (ve_idx (ve_var 1) (ve_un un_neg d_neg ve_int)) vk_nil))))
  (vss_one (vs_ret (ve_ite (vt_cmp (op_eqD hr.units) b_eq.d (ve_len (ve_var 1) T.n_len) ve_int) (ve_cmp (op_eqD hr.units) b_eq.d (ve_idx (ve_idx (ve_var 0) (ve_var 2)) (ve_var 2)) ve_int) (ve_cmp (op_eqD hr.units) b_eq.d (ve_idx (ve_idx (ve_var 0) (ve_var 2)) (ve_var 3)) (ve_idx (ve_idx (ve_var 0) (ve_var 3)) (ve_var 2))))))) vss_nil)
  (vss_one (vs_ret ve_bl))))
abbrev s_is_bad : Stmt := top 16
theorem sc_is_bad : FnScope ["web", "found"] ["web", "found"] (defScope s_is_bad) := ⟨rfl, rfl, rfl, by decide +kernel, rfl, by decide +kernel, by decide +kernel⟩
def d_is_bad : DS := (dSeq (dIf (dTst asB (dBin (eqD false) (dAr lenD (dCons (dVar 1) dNil)) (dC (.int 1)))) (dRet (dBin (eqD false) (dBin idxD (dBin idxD (dUn (fldD ["Web"] "rows") (dVar 0)) (dBin idxD (dVar 1) (dC (.int 0)))) (dBin idxD (dVar 1) (dC (.int 0)))) (dC (.int 1)))) dSkip) (dSeq (dIf (dTst asB (dBin (eqD false) (dAr lenD (dCons (dVar 1) dNil)) (dC (.int 2)))) (dRet (dBin (eqD false) (dBin idxD (dBin idxD (dUn (fldD ["Web"] "rows") (dVar 0)) (dBin idxD (dVar 1) (dC (.int 0)))) (dBin idxD (dVar 1) (dC (.int 1)))) (dBin idxD (dBin idxD (dUn (fldD ["Web"] "rows") (dVar 0)) (dBin idxD (dVar 1) (dC (.int 1)))) (dBin idxD (dVar 1) (dC (.int 0)))))) dSkip) (dRet (dC (.bl true)))))
def fn_is_bad : List D → FRes := dFn (List.replicate 2 .sh) .sh 2 d_is_bad
theorem v_is_bad {f : Addr} {fd : FuncData} (F : Fun K "is_bad" "is_bad" s_is_bad f fd) (hb : Binds K fd ["web", "found"] []) (T : Txt K mg) : VFnA P w K mg base 1 f (List.replicate 2 .sh) .sh fn_is_bad :=
  vfa_of (kdE := [.sh, .sh]) F sc_is_bad hb rfl (fun cdv A outer s H E hr => vss_fr [.sh, .sh]
  (vss_cons (vs_if (vt_cmp (op_eqD hr.units) b_eq.d (ve_len (ve_var 1) T.n_len) ve_int) (vss_one (vs_ret (ve_cmp (op_eqD hr.units) b_eq.d (ve_idx (ve_idx (ve_fld ["Web"] T.f_rows (ve_var 0)) (ve_idx (ve_var 1) ve_int)) (ve_idx (ve_var 1) ve_int)) ve_int))) vss_nil)
  (vss_cons (vs_if (vt_cmp (op_eqD hr.units) b_eq.d (ve_len (ve_var 1) T.n_len) ve_int) (vss_one (vs_ret (ve_cmp (op_eqD hr.units) b_eq.d (ve_idx (ve_idx (ve_fld ["Web"] T.f_rows (ve_var 0)) (ve_idx (ve_var 1) ve_int)) (ve_idx (ve_var 1) ve_int)) (ve_idx (ve_idx (ve_fld ["Web"] T.f_rows (ve_var 0)) (ve_idx (ve_var 1) ve_int)) (ve_idx (ve_var 1) ve_int))))) vss_nil)
  (vss_one (vs_ret ve_bl)))))
abbrev s_bad_rounds : Stmt := top 23
theorem sc_bad_rounds : FnScope ["web", "ring"] ["web"] (defScope s_bad_rounds) := ⟨rfl, rfl, rfl, by decide +kernel, rfl, by decide +kernel, by decide +kernel⟩
def d_bad_rounds : DS := (dRet (dAr tupOf (dCons (dLc [1] (dSeqI (dCall 1 fn_rounds (dCons (dVar 0) dNil))) (gV 1) (dTst truth (dCall 2 fn_is_bad (dCons (dVar 0) (dCons (dVar 1) dNil)))) (dVar 1)) dNil)))
def fn_bad_rounds : List D → FRes := dFn (List.replicate 1 .sh) .sh 2 d_bad_rounds
theorem v_bad_rounds {f : Addr} {fd : FuncData} (F : Fun K "bad_rounds" "bad_rounds" s_bad_rounds f fd) (hb : Binds K fd ["web"] []) (T : Txt K mg) (v_rounds : VFn P w K mg base 2 "rounds" (List.replicate 1 .sh) .sh fn_rounds) (v_is_bad : VFn P w K mg base 1 "is_bad" (List.replicate 2 .sh) .sh fn_is_bad) : VFnA P w K mg base 3 f (List.replicate 1 .sh) .sh fn_bad_rounds :=
  vfa_of (kdE := [.sh, .sh]) F sc_bad_rounds hb rfl (fun cdv A outer s H E hr => vss_fr [.sh, .sh]
  (vss_one (vs_ret (ve_tupleOf (ve_rel (ve_lc [("ring", 1)] sc_bad_rounds.nd (vi_seq (ve_call v_rounds (hr.mono (by decide)) takes_def (va_cons (ve_var 0) va_nil))) (blkOk_by rfl) (fun _ _ _ _ _ => (vg_name 1 sc_bad_rounds.nd)) (fun _ _ _ _ _ => (vts_one (vt_truth (ve_call v_is_bad (hr.mono (by decide)) takes0 (va_cons (ve_var 0) (va_cons (ve_var 1) va_nil)))))) (fun _ _ _ _ _ => (ve_var 1)))) T.n_tuple))))
abbrev s_bad_round : Stmt := top 18
theorem sc_bad_round : FnScope ["web", "length", "start", "found"] ["web"] (defScope s_bad_round) := ⟨rfl, rfl, rfl, by decide +kernel, rfl, by decide +kernel, by decide +kernel⟩
def d_bad_round : DS := (dSeq (dFor (dRng2 (dCons (dC (.int 1)) (dCons (dBin add4D (dUn (fldD ["Web"] "size") (dVar 0)) (dC (.int 1))) dNil))) (gV 1) (dFor (dRng1 (dCons (dUn (fldD ["Web"] "size") (dVar 0)) dNil)) (gV 2) (dFor (dSeqI (dCall 3 fn_rounds_from (dCons (dVar 0) (dCons (dVar 2) (dCons (dVar 1) dNil))))) (gV 3) (dIf (dTst truth (dCall 2 fn_is_bad (dCons (dVar 0) (dCons (dVar 3) dNil)))) (dRet (dVar 3)) dSkip)))) (dRet (dC .non)))
def fn_bad_round : List D → FRes := dFn (List.replicate 1 .sh) .sh 4 d_bad_round
theorem v_bad_round {f : Addr} {fd : FuncData} (F : Fun K "bad_round" "bad_round" s_bad_round f fd) (hb : Binds K fd ["web"] []) (T : Txt K mg) (v_rounds_from : VFn P w K mg base 1 "rounds_from" (List.replicate 3 .sh) .sh fn_rounds_from) (v_is_bad : VFn P w K mg base 1 "is_bad" (List.replicate 2 .sh) .sh fn_is_bad) : VFnA P w K mg base 2 f (List.replicate 1 .sh) .sh fn_bad_round :=
  vfa_of (kdE := [.sh, .sh, .sh, .sh]) F sc_bad_round hb rfl (fun cdv A outer s H E hr => vss_fr [.sh, .sh, .sh, .sh]
  (vss_cons (vs_for (ws := [1]) (passes_of rfl) (vi_range2 (va_cons ve_int (va_cons (ve_op op_add4 d_add4 (ve_fld ["Web"] T.f_size (ve_var 0)) ve_int) va_nil)) T.n_range) (vg_name 1 sc_bad_round.nd) (vss_one (vs_for (ws := [2]) (passes_of rfl) (vi_range1 (va_cons (ve_fld ["Web"] T.f_size (ve_var 0)) va_nil) T.n_range) (vg_name 2 sc_bad_round.nd) (vss_one (vs_for (ws := [3]) (passes_of rfl) (vi_seq (ve_call v_rounds_from (hr.mono (by decide)) takes_def (va_cons (ve_var 0) (va_cons (ve_var 2) (va_cons (ve_var 1) va_nil))))) (vg_name 3 sc_bad_round.nd) (vss_one (vs_if (vt_truth (ve_call v_is_bad (hr.mono (by decide)) takes_def (va_cons (ve_var 0) (va_cons (ve_var 3) va_nil)))) (vss_one (vs_ret (ve_var 3))) vss_nil)))))))
  (vss_one (vs_ret ve_non))))
abbrev s_never_rises : Stmt := top 19
theorem sc_never_rises : FnScope ["web"] ["web"] (defScope s_never_rises) := ⟨rfl, rfl, rfl, by decide +kernel, rfl, by decide +kernel, by decide +kernel⟩
def d_never_rises : DS := (dRet (dBin (isND false) (dCall 1 fn_bad_round (dCons (dVar 0) dNil)) (dC .non)))
def fn_never_rises : List D → FRes := dFn (List.replicate 1 .sh) .sh 1 d_never_rises
theorem v_never_rises {f : Addr} {fd : FuncData} (F : Fun K "never_rises" "never_rises" s_never_rises f fd) (hb : Binds K fd ["web"] []) (T : Txt K mg) (v_bad_round : VFn P w K mg base 2 "bad_round" (List.replicate 1 .sh) .sh fn_bad_round) : VFnA P w K mg base 3 f (List.replicate 1 .sh) .sh fn_never_rises :=
  vfa_of (kdE := [.sh]) F sc_never_rises hb rfl (fun cdv A outer s H E hr => vss_fr [.sh]
  (vss_one (vs_ret (ve_cmp op_isN b_isN.d (ve_call v_bad_round (hr.mono (by decide)) takes_def (va_cons (ve_var 0) va_nil)) ve_non))))
abbrev s__law_arrows : Stmt := top 37
theorem sc__law_arrows : FnScope ["rows", "found", "i", "j"] ["rows"] (defScope s__law_arrows) := ⟨rfl, rfl, rfl, by decide +kernel, rfl, by decide +kernel, by decide +kernel⟩
def d__law_arrows : DS := (dSeq (dSet 1 (dAr dLstD dNil)) (dSeq (dFor (dRng1 (dCons (dAr lenD (dCons (dVar 0) dNil)) dNil)) (gV 2) (dSet 1 (dBin add4D (dVar 1) (dLc [3] (dRng1 (dCons (dAr lenD (dCons (dVar 0) dNil)) dNil)) (gV 3) (dTst asB (dBin (eqD true) (dBin idxD (dBin idxD (dVar 0) (dVar 2)) (dVar 3)) (dC (.int 0)))) (dAr dTupD (dCons (dVar 2) (dCons (dVar 3) dNil))))))) (dRet (dVar 1))))
def fn__law_arrows : List D → FRes := dFn (List.replicate 1 .sh) .sh 4 d__law_arrows
theorem v__law_arrows {f : Addr} {fd : FuncData} (F : Fun K "_law_arrows" "_law_arrows" s__law_arrows f fd) (hb : Binds K fd ["rows"] []) (T : Txt K mg) : VFnA P w K mg base 1 f (List.replicate 1 .sh) .sh fn__law_arrows :=
  vfa_of (kdE := [.sh, .sh, .sh, .sh]) F sc__law_arrows hb rfl (fun cdv A outer s H E hr => vss_fr [.sh, .sh, .sh, .sh]
  (vss_cons (vs_to [.sh, .sh, .sh, .sh] (vs_set 1 sc__law_arrows.nd (ve_rel (ve_lst va_nil))))
  (vss_cons (vs_for (ws := [2]) (passes_of rfl) (vi_range1 (va_cons (ve_len (ve_var 0) T.n_len) va_nil) T.n_range) (vg_name 2 sc__law_arrows.nd) (vss_one (vs_to [.sh, .sh, .sh, .sh] (vs_set 1 sc__law_arrows.nd (ve_op op_add4 d_add4 (ve_var 1) (ve_rel (ve_lc [("j", 3)] sc__law_arrows.nd (vi_range1 (va_cons (ve_len (ve_var 0) T.n_len) va_nil) T.n_range) (blkOk_by rfl) (fun _ _ _ _ _ => (vg_name 3 sc__law_arrows.nd)) (fun _ _ _ _ _ => (vts_one (vt_cmp (op_neD hr.units) b_ne.d (ve_idx (ve_idx (ve_var 0) (ve_var 2)) (ve_var 3)) ve_int))) (fun _ _ _ _ _ => (ve_tup (va_cons (ve_var 2) (va_cons (ve_var 3) va_nil)))))))))))
  (vss_one (vs_ret (ve_var 1))))))
abbrev s__law_arrows_along : Stmt := top 38
theorem sc__law_arrows_along : FnScope ["ring", "at"] ["ring"] (defScope s__law_arrows_along) := ⟨rfl, rfl, rfl, by decide +kernel, rfl, by decide +kernel, by decide +kernel⟩
def d__law_arrows_along : DS := (dRet (dAr tupOf (dCons (dAr sortD (dCons (dLc [1] (dRng1 (dCons (dAr lenD (dCons (dVar 0) dNil)) dNil)) (gV 1) dYes (dAr dTupD (dCons (dBin idxD (dVar 0) (dBin modD (dAr intD (dCons (dBin add4D (dVar 1) (dC (.int 1))) dNil)) (dAr lenD (dCons (dVar 0) dNil)))) (dCons (dBin idxD (dVar 0) (dVar 1)) dNil)))) dNil)) dNil)))
def fn__law_arrows_along : List D → FRes := dFn (List.replicate 1 .sh) .sh 2 d__law_arrows_along
theorem v__law_arrows_along {f : Addr} {fd : FuncData} (F : Fun K "_law_arrows_along" "_law_arrows_along" s__law_arrows_along f fd) (hb : Binds K fd ["ring"] []) (T : Txt K mg) : VFnA P w K mg base 1 f (List.replicate 1 .sh) .sh fn__law_arrows_along :=
  vfa_of (kdE := [.sh, .sh]) F sc__law_arrows_along hb rfl (fun cdv A outer s H E hr => vss_fr [.sh, .sh]
  (vss_one (vs_ret (ve_tupleOf (ve_rel (ve_sorted hr.units2 (ve_rel (ve_lc [("at", 1)] sc__law_arrows_along.nd (vi_range1 (va_cons (ve_len (ve_var 0) T.n_len) va_nil) T.n_range) (blkOk_by rfl) (fun _ _ _ _ _ => (vg_name 1 sc__law_arrows_along.nd)) (fun _ _ _ _ _ => vts_nil) (fun _ _ _ _ _ => (ve_tup (va_cons (ve_idx (ve_var 0) (ve_op op_mod d_mod (ve_intOf (ve_op op_add4 d_add4 (ve_var 1) ve_int) T.n_int) (ve_len (ve_var 0) T.n_len))) (va_cons (ve_idx (ve_var 0) (ve_var 1)) va_nil)))))) T.n_sorted)) T.n_tuple))))
abbrev s_law : Stmt := top 40
theorem sc_law : FnScope ["script", "pen", "size", "rows", "web", "bad", "ring", "bare", "i", "odd", "told", "found", "at", "given", "asked", "got", "j", "arrow", "<tab>"] ["script"] (defScope s_law) := ⟨rfl, rfl, rfl, by decide +kernel, rfl, by decide +kernel, by decide +kernel⟩
def d_law : DS := (dSeq (dSet 1 (dCall 1 fn__law_pen (dCons (dVar 0) dNil))) (dSeq (dSet 2 (dCallIO 1 1 fn__law_pick (dCons (dAr dLstD (dCons (dC (.int 3)) (dCons (dC (.int 4)) (dCons (dC (.int 5)) (dCons (dC (.int 2)) (dCons (dC (.int 4)) (dCons (dC (.int 1)) dNil))))))) dNil))) (dSeq (dSet 3 (dIte (dTst asB (dBin gtD (dCallIO 1 1 fn__law_draw (dCons (dC (.int 3)) dNil)) (dC (.int 0)))) (dCallIO 1 2 fn__law_few_rows (dCons (dVar 2) (dCons (dC (.int 14)) dNil))) (dCallIO 1 1 fn__law_web_rows (dCons (dVar 2) dNil)))) (dSeq (dSet 4 (dMake "Web" 1 fn_Web_init (dCons (dVar 3) dNil))) (dSeq (dPar2 10 11 (dCons (dCall 1 fn_arrows (dCons (dVar 4) dNil)) (dCons (dCall 1 fn__law_rounds (dCons (dVar 3) dNil)) dNil))) (dSeq (dIf (dOr (dTst asB (dBin (eqD true) (dVar 10) (dAr tupOf (dCons (dCall 1 fn__law_arrows (dCons (dVar 3) dNil)) dNil)))) (dOr (dNot (dTst truth (dIsi ["tuple"] [] (dVar 10)))) (dNot (dTst truth (dAr allD (dCons (dLc [17] (dSeqI (dVar 10)) (gV 17) dYes (dIsi ["tuple"] [] (dVar 17))) dNil)))))) (dRet (dC (.bl false))) dSkip) (dSeq (dIf (dOr (dTst asB (dBin (eqD true) (dCall 1 fn_rounds (dCons (dVar 4) dNil)) (dAr tupOf (dCons (dAr sortD (dCons (dVar 11) dNil)) dNil)))) (dNot (dTst truth (dIsi ["tuple"] [] (dCall 1 fn_rounds (dCons (dVar 4) dNil)))))) (dRet (dC (.bl false))) dSkip) (dSeq (dSet 5 (dLc [6] (dSeqI (dAr sortD (dCons (dVar 11) dNil))) (gV 6) (dTst truth (dCall 2 fn__law_is_bad (dCons (dVar 3) (dCons (dVar 6) dNil)))) (dVar 6))) (dSeq (dIf (dOr (dTst asB (dBin (eqD true) (dCall 1 fn_bad_rounds (dCons (dVar 4) dNil)) (dAr tupOf (dCons (dVar 5) dNil)))) (dTst asB (dBin (eqD true) (dBin (eqD false) (dVar 5) (dAr dLstD dNil)) (dCall 1 fn_never_rises (dCons (dVar 4) dNil))))) (dRet (dC (.bl false))) dSkip) (dSeq (dFor (dSeqI (dSli sliA (dVar 11) dNo0 (dPart (dC (.int 12))))) (gV 6) (dSeq (dSet 12 (dCallIO 1 1 fn__law_draw (dCons (dAr lenD (dCons (dVar 6) dNil)) dNil))) (dSeq (dSet 13 (dBin add4D (dSli sliA (dVar 6) (dPart (dVar 12)) dNo0) (dSli sliA (dVar 6) dNo0 (dPart (dVar 12))))) (dSeq (dSet 14 (dIte (dTst asB (dBin (eqD false) (dCallIO 1 1 fn__law_draw (dCons (dC (.int 2)) dNil)) (dC (.int 0)))) (dAr lstOf (dCons (dVar 13) dNil)) (dVar 13))) (dSeq (dSet 15 (dCall 2 fn_round_arrows (dCons (dVar 4) (dCons (dVar 14) dNil)))) (dIf (dOr (dTst asB (dBin (eqD true) (dVar 15) (dCall 1 fn__law_arrows_along (dCons (dVar 6) dNil)))) (dOr (dNot (dTst truth (dIsi ["tuple"] [] (dVar 15)))) (dTst asB (dBin (eqD true) (dAr tupOf (dCons (dVar 14) dNil)) (dVar 13))))) (dRet (dC (.bl false))) dSkip)))))) (dSeq (dSet 7 (dLc [8] (dRng1 (dCons (dVar 2) dNil)) (gV 8) (dTst asB (dBin (eqD false) (dBin idxD (dBin idxD (dVar 3) (dVar 8)) (dVar 8)) (dC (.int 0)))) (dAr dTupD (dCons (dVar 8) dNil)))) (dSeq (dFor (dRng1 (dCons (dVar 2) dNil)) (gV 8) (dSet 7 (dBin add4D (dVar 7) (dLc [16] (dRng1 (dCons (dVar 2) dNil)) (gV 16) (dAnd (dTst asB (dBin (eqD true) (dVar 8) (dVar 16))) (dOr (dTst asB (dBin (eqD false) (dBin idxD (dBin idxD (dVar 3) (dVar 8)) (dVar 16)) (dC (.int 0)))) (dTst asB (dBin (eqD false) (dBin idxD (dBin idxD (dVar 3) (dVar 16)) (dVar 8)) (dC (.int 0)))))) (dAr dTupD (dCons (dVar 16) (dCons (dVar 8) dNil))))))) (dSeq (dSet 9 (dCallIO 1 1 fn__law_pick (dCons (dBin add4D (dVar 7) (dAr dLstD (dCons (dAr dTupD dNil) (dCons (dAr dLstD dNil) (dCons (dC .non) (dCons (dC (.int 0)) (dCons (dAr dTupD (dCons (dVar 2) dNil)) (dCons (dAr dTupD (dCons (dUn negD (dC (.int 1))) dNil)) (dCons (dAr dTupD (dCons (dC (.bl true)) dNil)) (dCons (dAr dTupD (dCons (dC (.str "0")) dNil)) (dCons (dAr dTupD (dCons (dC (.int 0)) (dCons (dC (.int 0)) dNil))) (dCons (dDisp (((dC (.int 0)), (dC (.int 0))) :: [])) (dCons (dAr dLstD (dCons (dC (.int 0)) (dCons (dC .non) dNil))) dNil))))))))))))) dNil))) (dRet (dBin (eqD false) (dLamF 18 "law.<locals>.<lambda>" fnT__law_refused (dCall 2 fn_round_arrows (dCons (dVar 4) (dCons (dVar 9) dNil)))) (dAr dTupD (dCons (dC (.str "round")) (dCons (dAr reprD (dCons (dVar 9) dNil)) dNil))))))))))))))))))

theorem v_law {f c_law P0 : Addr} {s : Shared} {H : Hp} {E : XK} (T : Txt K mg) (v__law_pen : VFn P w K mg base 1 "_law_pen" (List.replicate 1 .sh) .dc fn__law_pen) (v__law_pick : VFn P w K mg base 2 "_law_pick" (.dc :: List.replicate 1 .sh) .sh fn__law_pick) (v__law_draw : VFn P w K mg base 1 "_law_draw" (.dc :: List.replicate 1 .sh) .sh fn__law_draw) (v__law_few_rows : VFn P w K mg base 6 "_law_few_rows" (.dc :: List.replicate 2 .sh) .sh fn__law_few_rows) (v__law_web_rows : VFn P w K mg base 5 "_law_web_rows" (.dc :: List.replicate 1 .sh) .sh fn__law_web_rows) (v_Web_init : VCl P w K mg base 3 "Web" 1 fn_Web_init) (v_arrows : VFn P w K mg base 1 "arrows" (List.replicate 1 .sh) .sh fn_arrows) (v__law_rounds : VFn P w K mg base 1 "_law_rounds" (List.replicate 1 .sh) .sh fn__law_rounds) (v__law_arrows : VFn P w K mg base 1 "_law_arrows" (List.replicate 1 .sh) .sh fn__law_arrows) (v_rounds : VFn P w K mg base 2 "rounds" (List.replicate 1 .sh) .sh fn_rounds) (v__law_is_bad : VFn P w K mg base 1 "_law_is_bad" (List.replicate 2 .sh) .sh fn__law_is_bad) (v_bad_rounds : VFn P w K mg base 3 "bad_rounds" (List.replicate 1 .sh) .sh fn_bad_rounds) (v_never_rises : VFn P w K mg base 3 "never_rises" (List.replicate 1 .sh) .sh fn_never_rises) (v_round_arrows : VFn P w K mg base 4 "round_arrows" (List.replicate 2 .sh) .sh fn_round_arrows) (v__law_arrows_along : VFn P w K mg base 1 "_law_arrows_along" (List.replicate 1 .sh) .sh fn__law_arrows_along) (v__law_refused : VTh P w K mg base 6 "_law_refused" fnT__law_refused) (TB : LamX.TabB base mg c_law P0) (hr : Room 7 (callerA.deeper (envOfC "law" (defScope s_law) s.heap.objs.size f (.ref c_law)))) (hgd : (callerA.deeper (envOfC "law" (defScope s_law) s.heap.objs.size f (.ref c_law))).guards = some []) : VSs (cxOf (L2.CX P w) P w K mg base ["script", "pen", "size", "rows", "web", "bad", "ring", "bare", "i", "odd", "told", "found", "at", "given", "asked", "got", "j", "arrow", "<tab>"] "law" (defScope s_law) f (.ref c_law) callerA [] s H E) (fxOf .sh (fun _ => True) E) (kdG 18 P0) [.sh, .sh, .sh, .sh, .sh, .sh, .sh, .sh, .sh, .sh, .sh, .sh, .sh, .sh, .sh, .sh, .sh, .sh, (.pin P0 .sh)] (defBody s_law) d_law :=
  vss_fr [.sh, .sh, .sh, .sh, .sh, .sh, .sh, .sh, .sh, .sh, .sh, .sh, .sh, .sh, .sh, .sh, .sh, .sh, (.pin P0 .sh)]
  (vss_cons (vs_to [.sh, .dc, .sh, .sh, .sh, .sh, .sh, .sh, .sh, .sh, .sh, .sh, .sh, .sh, .sh, .sh, .sh, .sh, (.pin P0 .sh)] (vs_set 1 sc_law.nd (ve_call v__law_pen (hr.mono (by decide)) takes_def (va_cons (ve_var 0) va_nil))))
  (vss_cons (vs_to [.sh, .dc, .sh, .sh, .sh, .sh, .sh, .sh, .sh, .sh, .sh, .sh, .sh, .sh, .sh, .sh, .sh, .sh, (.pin P0 .sh)] (vs_set 2 sc_law.nd (ve_callIO (j := 1) v__law_pick (hr.mono (by decide)) takes_def (va_cons (ve_rel (ve_lst (va_cons ve_int (va_cons ve_int (va_cons ve_int (va_cons ve_int (va_cons ve_int (va_cons ve_int va_nil)))))))) va_nil))))
  (vss_cons (vs_to [.sh, .dc, .sh, .sh, .sh, .sh, .sh, .sh, .sh, .sh, .sh, .sh, .sh, .sh, .sh, .sh, .sh, .sh, (.pin P0 .sh)] (vs_set 3 sc_law.nd (ve_ite (vt_cmp op_gt (b_cmp _).d (ve_callIO (j := 1) v__law_draw (hr.mono (by decide)) takes_def (va_cons ve_int va_nil)) ve_int) (ve_callIO (j := 1) v__law_few_rows (hr.mono (by decide)) takes_def (va_cons (ve_var 2) (va_cons ve_int va_nil))) (ve_callIO (j := 1) v__law_web_rows (hr.mono (by decide)) takes_def (va_cons (ve_var 2) va_nil)))))
  (vss_cons (vs_to [.sh, .dc, .sh, .sh, .sh, .sh, .sh, .sh, .sh, .sh, .sh, .sh, .sh, .sh, .sh, .sh, .sh, .sh, (.pin P0 .sh)] (vs_set 4 sc_law.nd (ve_rel (ve_make v_Web_init (hr.mono (by decide)) takes_def (va_cons (ve_var 3) va_nil)))))
  (vss_cons (vs_to [.sh, .dc, .sh, .sh, .sh, .sh, .sh, .sh, .sh, .sh, .sh, .sh, .sh, .sh, .sh, .sh, .sh, .sh, (.pin P0 .sh)] (vs_par2 10 11 sc_law.nd (vk_cons (ve_call v_arrows (hr.mono (by decide)) takes_def (va_cons (ve_var 4) va_nil)) (vk_cons (ve_call v__law_rounds (hr.mono (by decide)) takes_def (va_cons (ve_var 3) va_nil)) vk_nil))))
  (vss_cons (vs_if (vt_bool (vw_or (vt_cmp (op_neD hr.units) b_ne.d (ve_var 10) (ve_tupleOf (ve_call v__law_arrows (hr.mono (by decide)) takes_def (va_cons (ve_var 3) va_nil)) T.n_tuple)) (vw_or (vt_not (vt_truth (ve_isi (isi_builtin ["tuple"] (by decide)) (.ty "tuple") (ve_var 10) (pe_btN T.n_tuple boot_tuple) T.n_isinstance))) (vw_or1 (vt_not (vt_truth (ve_all (ve_rel (ve_lc [("arrow", 17)] sc_law.nd (vi_seq (ve_var 10)) (blkOk_by rfl) (fun _ _ _ _ _ => (vg_name 17 sc_law.nd)) (fun _ _ _ _ _ => vts_nil) (fun _ _ _ _ _ => (ve_isi (isi_builtin ["tuple"] (by decide)) (.ty "tuple") (ve_var 17) (pe_btN T.n_tuple boot_tuple) T.n_isinstance)))) T.n_all))))))) (vss_relT 1 [.sh, .sh, .sh, .sh, .sh, .sh, .sh, .sh, .sh, .sh, .sh, .sh, .sh, .sh, .sh, .sh, .sh, .sh, (.pin P0 .sh)] (vss_one (vs_ret ve_bl))) vss_nil)
  (vss_cons (vs_if (vt_bool (vw_or (vt_cmp (op_neD hr.units) b_ne.d (ve_call v_rounds (hr.mono (by decide)) takes_def (va_cons (ve_var 4) va_nil)) (ve_tupleOf (ve_rel (ve_sorted hr.units2 (ve_var 11) T.n_sorted)) T.n_tuple)) (vw_or1 (vt_not (vt_truth (ve_isi (isi_builtin ["tuple"] (by decide)) (.ty "tuple") (ve_call v_rounds (hr.mono (by decide)) takes_def (va_cons (ve_var 4) va_nil)) (pe_btN T.n_tuple boot_tuple) T.n_isinstance)))))) (vss_relT 1 [.sh, .sh, .sh, .sh, .sh, .sh, .sh, .sh, .sh, .sh, .sh, .sh, .sh, .sh, .sh, .sh, .sh, .sh, (.pin P0 .sh)] (vss_one (vs_ret ve_bl))) vss_nil)
  (vss_cons (vs_to [.sh, .dc, .sh, .sh, .sh, (.li .sh), .sh, .sh, .sh, .sh, .sh, .sh, .sh, .sh, .sh, .sh, .sh, .sh, (.pin P0 .sh)] (vs_setLc 5 [("ring", 6)] sc_law.nd rfl (vi_seq (ve_rel (ve_sorted hr.units2 (ve_var 11) T.n_sorted))) (blkOk_by rfl) (fun _ _ _ _ _ => (vg_name 6 sc_law.nd)) (fun _ _ _ _ _ => (vts_one (vt_truth (ve_call v__law_is_bad (hr.mono (by decide)) takes0 (va_cons (ve_var 3) (va_cons (ve_var 6) va_nil)))))) (fun _ _ _ _ _ => (ve_var 6))))
  (vss_relT 5 [.sh, .dc, .sh, .sh, .sh, .sh, .sh, .sh, .sh, .sh, .sh, .sh, .sh, .sh, .sh, .sh, .sh, .sh, (.pin P0 .sh)] (vss_cons (vs_if (vt_bool (vw_or (vt_cmp (op_neD hr.units) b_ne.d (ve_call v_bad_rounds (hr.mono (by decide)) takes_def (va_cons (ve_var 4) va_nil)) (ve_tupleOf (ve_var 5) T.n_tuple)) (vw_or1 (vt_cmp (op_neD hr.units) b_ne.d (ve_cmp (op_eqD hr.units) b_eq.d (ve_var 5) (ve_rel (ve_lst va_nil))) (ve_call v_never_rises (hr.mono (by decide)) takes_def (va_cons (ve_var 4) va_nil)))))) (vss_relT 1 [.sh, .sh, .sh, .sh, .sh, .sh, .sh, .sh, .sh, .sh, .sh, .sh, .sh, .sh, .sh, .sh, .sh, .sh, (.pin P0 .sh)] (vss_one (vs_ret ve_bl))) vss_nil)
  (vss_cons (vs_for (ws := [6]) (passes_of rfl) (vi_seq (ve_sliA (ve_var 11) vp_none (vp_some ve_int))) (vg_name 6 sc_law.nd) (vss_cons (vs_to [.sh, .dc, .sh, .sh, .sh, .sh, .sh, .sh, .sh, .sh, .sh, .sh, .sh, .sh, .sh, .sh, .sh, .sh, (.pin P0 .sh)] (vs_set 12 sc_law.nd (ve_callIO (j := 1) v__law_draw (hr.mono (by decide)) takes_def (va_cons (ve_len (ve_var 6) T.n_len) va_nil))))
  (vss_cons (vs_to [.sh, .dc, .sh, .sh, .sh, .sh, .sh, .sh, .sh, .sh, .sh, .sh, .sh, .sh, .sh, .sh, .sh, .sh, (.pin P0 .sh)] (vs_set 13 sc_law.nd (ve_op op_add4 d_add4 (ve_sliA (ve_var 6) (vp_some (ve_var 12)) vp_none) (ve_sliA (ve_var 6) vp_none (vp_some (ve_var 12))))))
  (vss_cons (vs_to [.sh, .dc, .sh, .sh, .sh, .sh, .sh, .sh, .sh, .sh, .sh, .sh, .sh, .sh, .sh, .sh, .sh, .sh, (.pin P0 .sh)] (vs_set 14 sc_law.nd (ve_ite (vt_cmp (op_eqD hr.units) b_eq.d (ve_callIO (j := 1) v__law_draw (hr.mono (by decide)) takes_def (va_cons ve_int va_nil)) ve_int) (ve_rel (ve_listOf (ve_var 13) T.n_list)) (ve_var 13))))
  (vss_cons (vs_to [.sh, .dc, .sh, .sh, .sh, .sh, .sh, .sh, .sh, .sh, .sh, .sh, .sh, .sh, .sh, .sh, .sh, .sh, (.pin P0 .sh)] (vs_set 15 sc_law.nd (ve_call v_round_arrows (hr.mono (by decide)) takes_def (va_cons (ve_var 4) (va_cons (ve_var 14) va_nil)))))
  (vss_one (vs_if (vt_bool (vw_or (vt_cmp (op_neD hr.units) b_ne.d (ve_var 15) (ve_call v__law_arrows_along (hr.mono (by decide)) takes_def (va_cons (ve_var 6) va_nil))) (vw_or (vt_not (vt_truth (ve_isi (isi_builtin ["tuple"] (by decide)) (.ty "tuple") (ve_var 15) (pe_btN T.n_tuple boot_tuple) T.n_isinstance))) (vw_or1 (vt_cmp (op_neD hr.units) b_ne.d (ve_tupleOf (ve_var 14) T.n_tuple) (ve_var 13)))))) (vss_relT 1 [.sh, .sh, .sh, .sh, .sh, .sh, .sh, .sh, .sh, .sh, .sh, .sh, .sh, .sh, .sh, .sh, .sh, .sh, (.pin P0 .sh)] (vss_one (vs_ret ve_bl))) vss_nil)))))))
  (vss_cons (vs_to [.sh, .dc, .sh, .sh, .sh, .sh, .sh, (.li .sh), .sh, .sh, .sh, .sh, .sh, .sh, .sh, .sh, .sh, .sh, (.pin P0 .sh)] (vs_setLc 7 [("i", 8)] sc_law.nd rfl (vi_range1 (va_cons (ve_var 2) va_nil) T.n_range) (blkOk_by rfl) (fun _ _ _ _ _ => (vg_name 8 sc_law.nd)) (fun _ _ _ _ _ => (vts_one (vt_cmp (op_eqD hr.units) b_eq.d (ve_idx (ve_idx (ve_var 3) (ve_var 8)) (ve_var 8)) ve_int))) (fun _ _ _ _ _ => (ve_tup (va_cons (ve_var 8) va_nil)))))
  (vss_relT 7 [.sh, .dc, .sh, .sh, .sh, .sh, .sh, .sh, .sh, .sh, .sh, .sh, .sh, .sh, .sh, .sh, .sh, .sh, (.pin P0 .sh)] (vss_cons (vs_for (ws := [8]) (passes_of rfl) (vi_range1 (va_cons (ve_var 2) va_nil) T.n_range) (vg_name 8 sc_law.nd) (vss_one (vs_to [.sh, .dc, .sh, .sh, .sh, .sh, .sh, .sh, .sh, .sh, .sh, .sh, .sh, .sh, .sh, .sh, .sh, .sh, (.pin P0 .sh)] (vs_set 7 sc_law.nd (ve_op op_add4 d_add4 (ve_var 7) (ve_rel (ve_lc [("j", 16)] sc_law.nd (vi_range1 (va_cons (ve_var 2) va_nil) T.n_range) (blkOk_by rfl) (fun _ _ _ _ _ => (vg_name 16 sc_law.nd)) (fun _ _ _ _ _ => (vts_one (vt_bool (vw_and (vt_cmp (op_neD hr.units) b_ne.d (ve_var 8) (ve_var 16)) (vw_and1 (vt_bool (vw_or (vt_cmp (op_eqD hr.units) b_eq.d (ve_idx (ve_idx (ve_var 3) (ve_var 8)) (ve_var 16)) ve_int) (vw_or1 (vt_cmp (op_eqD hr.units) b_eq.d (ve_idx (ve_idx (ve_var 3) (ve_var 16)) (ve_var 8)) ve_int))))))))) (fun _ _ _ _ _ => (ve_tup (va_cons (ve_var 16) (va_cons (ve_var 8) va_nil)))))))))))
  (vss_cons (vs_to [.sh, .dc, .sh, .sh, .sh, .sh, .sh, .sh, .sh, .sh, .sh, .sh, .sh, .sh, .sh, .sh, .sh, .sh, (.pin P0 .sh)] (vs_set 9 sc_law.nd (ve_callIO (j := 1) v__law_pick (hr.mono (by decide)) takes_def (va_cons (ve_op op_add4 d_add4 (ve_var 7) (ve_rel (ve_lst (va_cons (ve_tup va_nil) (va_cons (ve_rel (ve_lst va_nil)) (va_cons ve_non (va_cons ve_int (va_cons (ve_tup (va_cons (ve_var 2) va_nil)) (va_cons (ve_tup (va_cons (ve_un un_neg d_neg ve_int) va_nil)) (va_cons (ve_tup (va_cons ve_bl va_nil)) (va_cons (ve_tup (va_cons ve_str va_nil)) (va_cons (ve_tup (va_cons ve_int (va_cons ve_int va_nil))) (va_cons (ve_rel (ve_disp (l := (((dC (.int 0)), (dC (.int 0))) :: [])) (vpps_cons ve_int ve_int vpps_nil) rfl)) (va_cons (ve_rel (ve_lst (va_cons ve_int (va_cons ve_non va_nil)))) va_nil)))))))))))))) va_nil))))
  (vss_relT 1 [.sh, .sh, .sh, .sh, .sh, .sh, .sh, .sh, .sh, .sh, .sh, .sh, .sh, .sh, .sh, .sh, .sh, .sh, (.pin P0 .sh)] (vss_one (vs_ret (ve_cmp (op_eqD hr.units) b_eq.d (ve_lamF 18 "law.<locals>.<lambda>" v__law_refused (hr.mono (by decide)) hgd TB rfl rfl rfl (LamX.lamS_by (by show LamX.lamSB (defScope s_law) _ = true; decide +kernel)) rfl (fun _ _ _ _ _ => rfl) (fun A outer s H E f c' hr => (ve_call v_round_arrows (hr.mono (by decide)) takes_lam (va_cons (ve_var 4) (va_cons (ve_var 9) va_nil))))) (ve_tup (va_cons ve_str (va_cons (ve_repr hgd (by have := un70 hr; exact this) (ve_var 9) T.n_repr) va_nil))))))))))))))))))))))
set_option maxHeartbeats 1000000
structure PenR (cells : List Int) (a d c f : Int) (n : Nat) : Prop where
  a0 : 0 ≤ a
  d0 : 0 ≤ d
  c0 : 0 ≤ c
  cn : c ≤ n
  f0 : 0 ≤ f
  f1 : f < 2147483648
/-- a pen that has drawn n times at most -/
def Pen (n : Nat) (p : D) : Prop := ∃ cells a d c f, p = .dct (penL cells a d c f) ∧ PenR cells a d c f n
@[simp] theorem dget_at {cells : List Int} {a d c f : Int} {l : List (Option D)} : dDGetO 0 (dC (.str "at")) (some (.dct (penL cells a d c f)) :: l) = .ok (.int a) (some (.dct (penL cells a d c f)) :: l) := rfl
@[simp] theorem dget_dig {cells : List Int} {a d c f : Int} {l : List (Option D)} : dDGetO 0 (dC (.str "digits")) (some (.dct (penL cells a d c f)) :: l) = .ok (.int d) (some (.dct (penL cells a d c f)) :: l) := rfl
@[simp] theorem dget_count {cells : List Int} {a d c f : Int} {l : List (Option D)} : dDGetO 0 (dC (.str "count")) (some (.dct (penL cells a d c f)) :: l) = .ok (.int c) (some (.dct (penL cells a d c f)) :: l) := rfl
@[simp] theorem dget_fold {cells : List Int} {a d c f : Int} {l : List (Option D)} : dDGetO 0 (dC (.str "fold")) (some (.dct (penL cells a d c f)) :: l) = .ok (.int f) (some (.dct (penL cells a d c f)) :: l) := rfl
@[simp] theorem dget_cells {cells : List Int} {a d c f : Int} {l : List (Option D)} : dDGetO 0 (dC (.str "cells")) (some (.dct (penL cells a d c f)) :: l) = .ok (.lst (cells.map .int)) (some (.dct (penL cells a d c f)) :: l) := rfl
theorem atI_nat {α : Type} {l : List α} {i : Int} (h0 : 0 ≤ i) (h1 : i < l.length) : atI l i = some (l[i.toNat]'(by omega)) := by
  unfold atI ixN
  rw [if_pos h0, if_pos h1]
  exact List.getElem?_eq_getElem (by omega)
theorem draw_step {cells : List Int} {a d c f many : Int} {n : Nat} (h : PenR cells a d c f n) (hn : n < 2 ^ 40) (h1 : 1 ≤ many) (h2 : many < 2 ^ 60) :
    ∃ x a' d' f', 0 ≤ x ∧ x < many ∧ PenR cells a' d' (c + 1) f' (n + 1) ∧ fn__law_draw [.dct (penL cells a d c f), .int many] = .ok (.int x) [some (.dct (penL cells a' d' (c + 1) f')), some (.int many)] := by
  obtain ⟨a0, d0, c0, cn, f0, f1⟩ := h
  have hlog : many.natAbs.log2 < 9000 := Nat.lt_trans (log_small (n := 60) (by omega) (by decide)) (by decide)
  have pw : powD (.int 10) (.int 18) = some (.int (10 ^ 18)) := e_pow (i := 10) (j := 18) (by decide)
  -- the last part
  have tail : ∀ (a' d' f' : Int) (x : Option D), 0 ≤ a' → 0 ≤ d' → 0 ≤ f' → f' < 2147483648 → ∃ y d'', 0 ≤ y ∧ y < many ∧ 0 ≤ d'' ∧ ∃ u v, (dSeq (dIf (dTst asB (dBin gtD (dDGetO 0 (dC (.str "digits"))) (dC (.int 0)))) (dSeq (dSet 4 (dBin modD (dAr intD (dCons (dDGetO 0 (dC (.str "digits"))) dNil)) (dVar 1))) (dSeq (dDPut 0 (dBin divD (dDGetO 0 (dC (.str "digits"))) (dVar 1)) (dC (.str "digits"))) (dRet (dVar 4)))) dSkip) (dSeq (dSet 2 (dBin add4D (dBin add4D (dDGetO 0 (dC (.str "fold"))) (dBin mulD (dDGetO 0 (dC (.str "count"))) (dC (.int 8513)))) (dC (.int 61)))) (dRet (dBin modD (dBin divD (dAr intD (dCons (dBin modD (dBin powD (dVar 2) (dC (.int 19))) (dC (.int 2305843009213693951))) dNil)) (dC (.int 256))) (dVar 1)))))
      [some (.dct (penL cells a' d' (c + 1) f')), some (.int many), none, x, none] = .ret (.int y) [some (.dct (penL cells a' d'' (c + 1) f')), some (.int many), u, x, v] := by
    intro a' d' f' x a1 d1 f2 f3
    by_cases hp : 0 < d'
    · have hmo : modD (.int d') (.int many) = some (.int (d' % many)) := e_mod (by omega)
      have hdi : divD (.int d') (.int many) = some (.int (d' / many)) := e_div (by omega) hlog
      refine ⟨d' % many, d' / many, Int.emod_nonneg _ (by omega), Int.emod_lt_of_pos _ (by omega), Int.ediv_nonneg d1 (by omega), none, some (.int (d' % many)), ?_⟩
      simp [hp, hmo, hdi]
    · have hm : mulD (.int (c + 1)) (.int 8513) = some (.int ((c + 1) * 8513)) := e_mul (by
        have := log_small (i := c + 1) (n := 50) (by omega) (by decide)
        have := log_small (i := 8513) (n := 31) (by decide) (by decide)
        omega)
      have hb : 0 ≤ f' + (c + 1) * 8513 + 61 ∧ f' + (c + 1) * 8513 + 61 < 2 ^ 60 := by omega
      generalize hbl : f' + (c + 1) * 8513 + 61 = b at hb
      have hpw : powD (.int b) (.int 19) = some (.int (b ^ 19)) := e_pow (i := b) (j := 19) ⟨by decide, by decide, by omega⟩
      have hm2 : modD (.int (b ^ 19)) (.int 2305843009213693951) = some (.int (b ^ 19 % 2305843009213693951)) := e_mod (by decide)
      have hd2 : divD (.int (b ^ 19 % 2305843009213693951)) (.int 256) = some (.int (b ^ 19 % 2305843009213693951 / 256)) := e_div (by decide) (Nat.lt_trans (log_small (i := 256) (n := 31) (by decide) (by decide)) (by decide))
      have hm3 : modD (.int (b ^ 19 % 2305843009213693951 / 256)) (.int many) = some (.int (b ^ 19 % 2305843009213693951 / 256 % many)) := e_mod (by omega)
      refine ⟨b ^ 19 % 2305843009213693951 / 256 % many, d', Int.emod_nonneg _ (by omega), Int.emod_lt_of_pos _ (by omega), d1, some (.int b), none, ?_⟩
      simp [hp, hm, hbl, hpw, hm2, hd2, hm3]
  -- the first part
  have go : ∀ (a' d' f' : Int) (x : Option D) (K : DS), 0 ≤ a' → 0 ≤ d' → 0 ≤ f' → f' < 2147483648 → True := fun _ _ _ _ _ _ _ _ _ => trivial
  have fin : ∀ (a' d' f' : Int) (x : Option D), 0 ≤ a' → 0 ≤ d' → 0 ≤ f' → f' < 2147483648 → d__law_draw [some (.dct (penL cells a d c f)), some (.int many), none, none, none] = (dSeq (dIf (dTst asB (dBin gtD (dDGetO 0 (dC (.str "digits"))) (dC (.int 0)))) (dSeq (dSet 4 (dBin modD (dAr intD (dCons (dDGetO 0 (dC (.str "digits"))) dNil)) (dVar 1))) (dSeq (dDPut 0 (dBin divD (dDGetO 0 (dC (.str "digits"))) (dVar 1)) (dC (.str "digits"))) (dRet (dVar 4)))) dSkip) (dSeq (dSet 2 (dBin add4D (dBin add4D (dDGetO 0 (dC (.str "fold"))) (dBin mulD (dDGetO 0 (dC (.str "count"))) (dC (.int 8513)))) (dC (.int 61)))) (dRet (dBin modD (dBin divD (dAr intD (dCons (dBin modD (dBin powD (dVar 2) (dC (.int 19))) (dC (.int 2305843009213693951))) dNil)) (dC (.int 256))) (dVar 1)))))
      [some (.dct (penL cells a' d' (c + 1) f')), some (.int many), none, x, none] → ∃ x a' d' f', 0 ≤ x ∧ x < many ∧ PenR cells a' d' (c + 1) f' (n + 1) ∧ fn__law_draw [.dct (penL cells a d c f), .int many] = .ok (.int x) [some (.dct (penL cells a' d' (c + 1) f')), some (.int many)] := by
    intro a' d' f' x a1 d1 f2 f3 e
    obtain ⟨y, d'', y0, y1, d2, u, v, e2⟩ := tail a' d' f' x a1 d1 f2 f3
    rw [e2] at e
    refine ⟨y, a', d'', f', y0, y1, ⟨a1, d2, by omega, by omega, f2, f3⟩, ?_⟩
    have e0 : fn__law_draw [.dct (penL cells a d c f), .int many] = match (match d__law_draw [some (.dct (penL cells a d c f)), some (.int many), none, none, none] with
      | .ret dd δ => FRes.ok dd (outsOf (.dc :: List.replicate 1 .sh) [.dct (penL cells a d c f), .int many] δ)
      | .next δ => FRes.ok .non (outsOf (.dc :: List.replicate 1 .sh) [.dct (penL cells a d c f), .int many] δ)
      | .exn e _ => .exn e
      | _ => .no) with
      | .ok d (some p :: r) => .ok d (some p :: r)
      | .exn e => .exn e
      | _ => .no := rfl
    rw [e0, e]
    rfl
  by_cases hd : d = 0
  · by_cases ha : a < (cells.length : Int)
    · subst hd
      have hl : a < ((cells.map D.int).length : Int) := by simpa using ha
      have hx : idxD (.lst (cells.map D.int)) (.int a) = some (.int (cells[a.toNat]'(by omega))) := by
        show atI _ _ = _
        rw [atI_nat a0 hl]
        simp
      generalize cells[a.toNat]'(by omega) = x at hx
      by_cases hc : (10 : Int) ^ 18 ≤ x
      · refine fin (a + 1) (x - 10 ^ 18) f (some (.int x)) (by omega) (by omega) f0 f1 ?_
        have hc' : (1000000000000000000 : Int) ≤ x := hc
        unfold d__law_draw
        simp [ha, hx, pw, hc']
      · have hm : mulD (.int f) (.int 48271) = some (.int (f * 48271)) := e_mul (by
          have := log_small (i := f) (n := 31) (by omega) (by decide)
          have := log_small (i := 48271) (n := 31) (by decide) (by decide)
          omega)
        have h3 := Int.emod_nonneg (f * 48271 + x) (b := 2147483563) (by decide)
        have h4 := Int.emod_lt_of_pos (f * 48271 + x) (b := 2147483563) (by decide)
        have hmm : modD (.int (f * 48271 + x)) (.int 2147483563) = some (.int ((f * 48271 + x) % 2147483563)) := e_mod (by decide)
        refine fin (a + 1) 0 ((f * 48271 + x) % 2147483563) (some (.int x)) (by omega) (by omega) h3 (by omega) ?_
        have hc' : ¬ (1000000000000000000 : Int) ≤ x := hc
        unfold d__law_draw
        simp [ha, hx, pw, hc', hm, hmm]
    · refine fin a d f none a0 d0 f0 f1 ?_
      unfold d__law_draw
      simp [ha, hd]
  · refine fin a d f none a0 d0 f0 f1 ?_
    unfold d__law_draw
    simp [hd]
/-- a draw: a number below many, the pen again -/
theorem draw_ok {n : Nat} {p : D} {many : Int} (h : Pen n p) (hn : n < 2 ^ 40) (h1 : 1 ≤ many) (h2 : many < 2 ^ 60) : ∃ x p', 0 ≤ x ∧ x < many ∧ Pen (n + 1) p' ∧ fn__law_draw [p, .int many] = .ok (.int x) [some p', some (.int many)] := by
  obtain ⟨cells, a, d, c, f, rfl, r⟩ := h
  obtain ⟨x, a', d', f', h3, h4, h5, h6⟩ := draw_step r hn h1 h2
  exact ⟨x, _, h3, h4, ⟨_, _, _, _, _, rfl, h5⟩, h6⟩

theorem pen_init (ns : List Int) : ∃ p, fn__law_pen [.frz (ns.map D.int)] = .ok p [some (.frz (ns.map D.int))] ∧ Pen 0 p := by
  have fold : ∃ δ', forD (gV 2) (dSet 1 (dBin modD (dAr intD (dCons (dBin add4D (dBin mulD (dVar 1) (dC (.int 59))) (dVar 2)) dNil)) (dC (.int 1000000009)))) (ns.map D.int) [some (.frz (ns.map D.int)), some (.int 0), none] = .next δ' ∧ ∃ (f : Int) (x : Option D), δ' = [some (.frz (ns.map D.int)), some (.int f), x] ∧ 0 ≤ f ∧ f < 1000000009 := by
    refine forD_inv (fun _ δ' => ∃ (f : Int) (x : Option D), δ' = [some (.frz (ns.map D.int)), some (.int f), x] ∧ 0 ≤ f ∧ f < 1000000009) _ _ ⟨0, none, rfl, by decide, by decide⟩ fun j d δ hj ⟨f, x, e, f0, f1⟩ => ?_
    subst e
    rw [List.getElem?_map] at hj
    cases en : ns[j]? with
    | none => rw [en] at hj; cases hj
    | some i =>
      rw [en] at hj
      cases hj
      have hm : mulD (.int f) (.int 59) = some (.int (f * 59)) := e_mul (by
        have := log_small (i := f) (n := 31) (by omega) (by decide)
        have := log_small (i := 59) (n := 31) (by decide) (by decide)
        omega)
      have hmm : modD (.int (f * 59 + i)) (.int 1000000009) = some (.int ((f * 59 + i) % 1000000009)) := e_mod (by decide)
      refine ⟨_, rfl, [some (.frz (ns.map D.int)), some (.int ((f * 59 + i) % 1000000009)), some (.int i)], .inl ?_, _, _, rfl, Int.emod_nonneg _ (by decide), Int.emod_lt_of_pos _ (by decide)⟩
      simp [hm, hmm]
  obtain ⟨δ', h1, f, x, rfl, f0, f1⟩ := fold
  refine ⟨.dct (penL ns 0 0 0 f), ?_, ns, 0, 0, 0, f, rfl, ⟨by decide, by decide, by decide, by decide, f0, by omega⟩⟩
  have e0 : d__law_pen [some (.frz (ns.map D.int)), none, none] = .ret (.dct (penL ns 0 0 0 f)) [some (.frz (ns.map D.int)), some (.int f), x] := by
    unfold d__law_pen
    simp [h1]
    rfl
  unfold fn__law_pen dFn
  rw [show ([D.frz (ns.map D.int)].map some ++ List.replicate (3 - [D.frz (ns.map D.int)].length) none) = [some (.frz (ns.map D.int)), none, none] from rfl, e0]
  rfl
/-- a pick from a list that is not empty -/
theorem pick_ok {n : Nat} {p : D} {l : List D} (h : Pen n p) (hn : n < 2 ^ 40) (h1 : l ≠ []) (h2 : l.length < 2 ^ 60) : ∃ x p', x ∈ l ∧ Pen (n + 1) p' ∧ fn__law_pick [p, .lst l] = .ok x [some p', some (.lst l)] := by
  have hl : 0 < l.length := List.length_pos_iff.mpr h1
  obtain ⟨x, p', x0, x1, hp, e⟩ := draw_ok (many := l.length) h hn (by omega) (by omega)
  refine ⟨l[x.toNat]'(by omega), p', List.getElem_mem _, hp, ?_⟩
  have hi : idxD (.lst l) (.int x) = some (l[x.toNat]'(by omega)) := atI_nat x0 x1
  unfold fn__law_pick dFnIO dFn d__law_pick
  simp [dCallIO, e, hi, outsOf]

@[simp] theorem e_callIO {n : Nat} {fn : List D → FRes} {g : DA} {p : D} {r : List (Option D)} : dCallIO 0 n fn g (some p :: r) = (g (some p :: r)).bind fun ds δ1 => if ds.length = n then (match δ1[0]? with
    | some (some p) => (match fn (p :: ds) with
      | .ok d (some p' :: _) => .ok d (δ1.set 0 (some p'))
      | _ => .no)
    | _ => .no) else .no := rfl
/-- what a call that changes the pen gives -/
theorem callIO_ok {n : Nat} {fn : List D → FRes} {g : DA} {p p' d : D} {r : List (Option D)} {ds : List D} {outs : List (Option D)} (hg : g (some p :: r) = .ok ds (some p :: r)) (hn : ds.length = n) (hf : fn (p :: ds) = .ok d (some p' :: outs)) : dCallIO 0 n fn g (some p :: r) = .ok d (some p' :: r) := by
  rw [e_callIO, hg]
  simp [hn, hf]
theorem shuf_turn {n : Nat} {l a b : List D} {q d : D} {x : Option D} (h1 : Pen n q) (h2 : n < 2 ^ 40) (h3 : 0 < a.length) (h4 : a.length < 1000000) (hb : b.length < 1000000) :
    ∃ q' y a', Pen (n + 1) q' ∧ y ∈ a ∧ (∀ z ∈ a', z ∈ a) ∧ a'.length + 1 = a.length ∧ dApp 4 (dMet 3 popI (dCons (dCallIO 0 1 fn__law_draw (dCons (dBor .sh (dAr lenD (dCons (dVar 3) dNil))) dNil)) dNil)) [some q, some (.lst l), some d, some (.lst a), some (.lst b)] = .next [some q', some (.lst l), some d, some (.lst a'), some (.lst (b ++ [y]))] := by
  obtain ⟨y, q', y0, y1, hq, e⟩ := draw_ok (many := a.length) h1 h2 (by omega) (by omega)
  have hy : y.toNat < a.length := by omega
  have hx : seqIndex? y a.length = some y.toNat := by
    unfold seqIndex?
    have : ¬ y < 0 := by omega
    simp only [this, if_false]
    rw [if_pos (by simp [y0, y1])]
  have hpop : popI a [.int y] = some (a[y.toNat], a.eraseIdx y.toNat) := by
    unfold popI
    simp only
    rw [if_pos (by omega), hx]
    simp [List.getElem?_eq_getElem hy]
  refine ⟨q', a[y.toNat], a.eraseIdx y.toNat, hq, List.getElem_mem _, fun z hz => List.mem_of_mem_eraseIdx hz, by rw [List.length_eraseIdx, if_pos hy]; omega, ?_⟩
  have hc : dCallIO 0 1 fn__law_draw (dCons (dBor .sh (dAr lenD (dCons (dVar 3) dNil))) dNil) (some q :: [some (.lst l), some d, some (.lst a), some (.lst b)]) = .ok (.int y) (some q' :: [some (.lst l), some d, some (.lst a), some (.lst b)]) := by
    refine callIO_ok (ds := [.int a.length]) ?_ rfl e
    simp [dBor, frozK, froz]
  have hs : b.length < sizeLine := Nat.lt_of_lt_of_le hb sizeLine_big
  unfold dApp dMet
  simp only [slotL, List.getElem?_cons_succ, List.getElem?_cons_zero, e_dCons, hc, e_bind_ok, e_dNil, hpop, e_stm_ok, List.set_cons_succ, List.set_cons_zero, if_pos hs]
theorem shuf_body {p q : D} {l a b : List D} {x : Option D} (hr : dRng1 (dCons (dAr lenD (dCons (dVar 1) dNil)) dNil) [some p, some (.lst l), none, some (.lst l), some (.lst [])] = .ok (rangeD 0 l.length) [some p, some (.lst l), none, some (.lst l), some (.lst [])])
  (e1 : forD (gV 2) (dApp 4 (dMet 3 popI (dCons (dCallIO 0 1 fn__law_draw (dCons (dBor .sh (dAr lenD (dCons (dVar 3) dNil))) dNil)) dNil))) (rangeD 0 l.length) [some p, some (.lst l), none, some (.lst l), some (.lst [])] = .next [some q, some (.lst l), x, some (.lst a), some (.lst b)]) :
  d__law_shuffled [some p, some (.lst l), none, none, none] = .ret (.lst b) [some q, some (.lst l), x, some (.lst a), some (.lst b)] := by
    have hz : dLstD [] = some (.lst []) := dLstD_ok (by decide)
    have hy : lstOf [.lst l] = some (.lst l) := rfl
    unfold d__law_shuffled
    rw [e_dSeq]
    simp only [dPar2, e_dCons, e_dAr, e_dVar, List.getElem?_cons_succ, List.getElem?_cons_zero, e_bind_ok, e_dNil, hy, e_lift_some, hz, e_stm_ok, List.set_cons_succ, List.set_cons_zero]
    rw [e_dSeq, e_dFor, hr, e_stm_ok]
    rw [e1]
    simp only [e_dRet, e_dVar, List.getElem?_cons_succ, List.getElem?_cons_zero, e_stm_ok]
theorem shuffled_ok {n : Nat} {p : D} {l : List D} (h : Pen n p) (hn : n + l.length < 2 ^ 40) (hl : l.length < 1000000) : ∃ m p', m.length = l.length ∧ (∀ x ∈ m, x ∈ l) ∧ Pen (n + l.length) p' ∧ fn__law_shuffled [p, .lst l] = .ok (.lst m) [some p', some (.lst l)] := by
  have hlen : (rangeD 0 l.length).length = l.length := by rw [rangeD_nat]; simp
  have st : ∀ j d δ, (rangeD 0 l.length)[j]? = some d → (∃ (q : D) (x : Option D) (a b : List D), δ = [some q, some (.lst l), x, some (.lst a), some (.lst b)] ∧ Pen (n + j) q ∧ b.length = j ∧ a.length + j = l.length ∧ (∀ x ∈ b, x ∈ l) ∧ (∀ x ∈ a, x ∈ l)) →
      ∃ δ1, gV 2 d δ = some δ1 ∧ ∃ δ2, (dApp 4 (dMet 3 popI (dCons (dCallIO 0 1 fn__law_draw (dCons (dBor .sh (dAr lenD (dCons (dVar 3) dNil))) dNil)) dNil)) δ1 = .next δ2 ∨ dApp 4 (dMet 3 popI (dCons (dCallIO 0 1 fn__law_draw (dCons (dBor .sh (dAr lenD (dCons (dVar 3) dNil))) dNil)) dNil)) δ1 = .cont δ2) ∧
        (∃ (q : D) (x : Option D) (a b : List D), δ2 = [some q, some (.lst l), x, some (.lst a), some (.lst b)] ∧ Pen (n + (j + 1)) q ∧ b.length = j + 1 ∧ a.length + (j + 1) = l.length ∧ (∀ x ∈ b, x ∈ l) ∧ (∀ x ∈ a, x ∈ l)) := by
    rintro j d δ hj ⟨q, x, a, b, rfl, h1, h2, h3, h4, h5⟩
    have hjl : j < l.length := by
      have := (List.getElem?_eq_some_iff.mp hj).1
      omega
    obtain ⟨q', y, a', hq, hy, ha, hal, e⟩ := shuf_turn (l := l) (a := a) (b := b) (d := d) (x := x) h1 (by omega) (by omega) (by omega) (by omega)
    refine ⟨_, rfl, _, .inl e, q', _, _, _, rfl, hq, by simp [h2], by omega, fun z hz => ?_, fun z hz => h5 z (ha z hz)⟩
    rcases List.mem_append.mp hz with z1 | z1
    · exact h4 z z1
    · rw [List.mem_singleton.mp z1]; exact h5 _ hy
  obtain ⟨δ', e1, q, x, a, b, rfl, h1, h2, h3, h4, h5⟩ := forD_inv _ (rangeD 0 l.length) [some p, some (.lst l), none, some (.lst l), some (.lst [])] ⟨p, none, l, [], rfl, h, rfl, rfl, (fun _ z => by cases z), fun _ z => z⟩ st
  rw [hlen] at h1 h2 h3
  refine ⟨b, q, h2, h4, h1, ?_⟩
  have hr : dRng1 (dCons (dAr lenD (dCons (dVar 1) dNil)) dNil) [some p, some (.lst l), none, some (.lst l), some (.lst [])] = .ok (rangeD 0 l.length) [some p, some (.lst l), none, some (.lst l), some (.lst [])] := e_rng1 (by simp) (by omega) (by omega)
  have e0 := shuf_body hr e1
  exact dFnIO_ret rfl e0 rfl
/-! ### rows of signs -/
def rowsL (rows : List (List Int)) : D := .lst (rows.map fun r => .lst (r.map .int))
def rowsT (rows : List (List Int)) : D := .tup (rows.map fun r => .tup (r.map .int))
structure IsRows (s : Nat) (rows : List (List Int)) : Prop where
  len : rows.length = s
  row : ∀ r ∈ rows, r.length = s ∧ ∀ x ∈ r, -1 ≤ x ∧ x ≤ 1
def setRC (rows : List (List Int)) (i j : Nat) (x : Int) : List (List Int) := rows.set i ((rows.getD i []).set j x)
theorem IsRows.set {s : Nat} {rows : List (List Int)} (R : IsRows s rows) {i j : Nat} {x : Int} (hi : i < s) (h0 : -1 ≤ x) (h1 : x ≤ 1) : IsRows s (setRC rows i j x) := by
  have hil : i < rows.length := by rw [R.len]; exact hi
  refine ⟨by unfold setRC; rw [List.length_set]; exact R.len, fun r hr => ?_⟩
  unfold setRC at hr
  rcases List.mem_or_eq_of_mem_set hr with h | h
  · exact R.row r h
  · subst h
    have hg : rows.getD i [] = rows[i] := by rw [List.getD_eq_getElem?_getD, List.getElem?_eq_getElem hil]; rfl
    rw [hg]
    obtain ⟨l1, l2⟩ := R.row _ (List.getElem_mem hil)
    refine ⟨by rw [List.length_set]; exact l1, fun y hy => ?_⟩
    rcases List.mem_or_eq_of_mem_set hy with h | h
    · exact l2 y h
    · subst h; exact ⟨h0, h1⟩
theorem ixN_nat0 {n : Nat} {i : Int} (h0 : 0 ≤ i) (h1 : i < n) : ixN n i = some i.toNat := by unfold ixN; rw [if_pos h0, if_pos h1]
theorem uIx2_ok {k s : Nat} {f g : DE} {x a b : Int} {δ δ1 δ2 : List (Option D)} {rows : List (List Int)} (R : IsRows s rows) (h0 : δ[k]? = some (some (rowsL rows))) (hf : f δ = .ok (.int a) δ1) (h1 : δ1[k]? = some (some (rowsL rows))) (hg : g (δ1.set k none) = .ok (.int b) δ2) (h2 : δ2[k]? = some none)
    (a0 : 0 ≤ a) (a1 : a < s) (b0 : 0 ≤ b) (b1 : b < s) : uIx2 k f g (.int x) δ = .ok () (δ2.set k (some (rowsL (setRC rows a.toNat b.toNat x)))) := by
  have hil : a.toNat < rows.length := by rw [R.len]; omega
  have hg0 : rows.getD a.toNat [] = rows[a.toNat] := by rw [List.getD_eq_getElem?_getD, List.getElem?_eq_getElem hil]; rfl
  have hrl := (R.row _ (List.getElem_mem hil)).1
  have e1 : slotL δ k = some (rows.map fun r => .lst (r.map .int)) := by unfold slotL; rw [h0]; rfl
  have e2 : slotL δ1 k = some (rows.map fun r => .lst (r.map .int)) := by unfold slotL; rw [h1]; rfl
  have e3 : ixN (rows.map fun r : List Int => D.lst (r.map D.int)).length a = some a.toNat := by rw [List.length_map, R.len]; exact ixN_nat0 a0 a1
  have e4 : dHide k g δ1 = .ok (.int b) (δ2.set k (some (rowsL rows))) := by
    unfold dHide
    rw [h1]
    simp only [hg, h2]
    rfl
  have e5 : (rows.map fun r : List Int => D.lst (r.map D.int))[a.toNat]? = some (.lst (rows[a.toNat].map .int)) := by rw [List.getElem?_map, List.getElem?_eq_getElem hil]; rfl
  have e6 : ixN (rows[a.toNat].map D.int).length b = some b.toNat := by rw [List.length_map, hrl]; exact ixN_nat0 b0 b1
  have hk : k < δ2.length := (List.getElem?_eq_some_iff.mp h2).1
  unfold uIx2
  rw [e1]
  simp only [hf, e_bind_ok, e2, e3, e4, e5, e6]
  rw [List.set_set]
  congr 3
  unfold rowsL setRC
  rw [hg0, List.map_set, List.map_set]
theorem tupOf_rows {rows : List (List Int)} : tupOf [.lst (rows.map fun r => .tup (r.map .int))] = some (rowsT rows) := rfl
theorem idx_int {l : List D} {i : Int} (h0 : 0 ≤ i) (h1 : i < l.length) : idxD (.lst l) (.int i) = some (l[i.toNat]'(by omega)) := atI_nat h0 h1
theorem idx_intT {l : List D} {i : Int} (h0 : 0 ≤ i) (h1 : i < l.length) : idxD (.tup l) (.int i) = some (l[i.toNat]'(by omega)) := atI_nat h0 h1
/-- an item of a list, the index from either end -/
theorem idx_any {l : List D} {i : Int} (h0 : -(l.length : Int) ≤ i) (h1 : i < l.length) : ∃ x ∈ l, idxD (.lst l) (.int i) = some x := by
  by_cases h : 0 ≤ i
  · exact ⟨_, List.getElem_mem _, idx_int h h1⟩
  · have hj : (i + l.length).toNat < l.length := by omega
    refine ⟨l[(i + l.length).toNat], List.getElem_mem _, ?_⟩
    show atI l i = _
    unfold atI ixN
    rw [if_neg h, if_pos h0]
    exact List.getElem?_eq_getElem hj
theorem mem_range {s : Nat} {x : D} (h : x ∈ rangeD 0 s) : ∃ i : Nat, i < s ∧ x = .int i := by
  rw [rangeD_nat] at h
  obtain ⟨i, hi, rfl⟩ := List.mem_map.mp h
  exact ⟨i, List.mem_range.mp hi, rfl⟩
theorem get_range {s j : Nat} {x : D} (h : (rangeD 0 s)[j]? = some x) : j < s ∧ x = .int (j : Nat) := by
  rw [rangeD_nat, List.getElem?_map] at h
  by_cases hj : j < s
  · rw [List.getElem?_eq_getElem (by simpa using hj)] at h
    simp at h
    exact ⟨hj, h.symm⟩
  · rw [List.getElem?_eq_none (by simpa using hj)] at h; cases h
theorem len_range (s : Nat) : (rangeD 0 s).length = s := by rw [rangeD_nat]; simp
theorem rng1_ok {k s : Nat} {δ : List (Option D)} (h : δ[k]? = some (some (.int (s : Nat)))) (hs : s < 1000000) : dRng1 (dCons (dVar k) dNil) δ = .ok (rangeD 0 s) δ := e_rng1 (by simp [h]) (by omega) (by omega)
theorem lrg_ok {k s : Nat} {δ : List (Option D)} (h : δ[k]? = some (some (.int (s : Nat)))) (hs : s < 1000000) : dLRg1 (dVar k) δ = .ok (.lst (rangeD 0 s)) δ := by
  exact dLRg1_ok (by simp [h]) (rgOk_small hs)
/-- 1 - 2 * draw(2) -/
theorem sign_ok {n : Nat} {p : D} {r : List (Option D)} (h : Pen n p) (hn : n < 2 ^ 40) : ∃ x p', (-1 ≤ x ∧ x ≤ 1) ∧ Pen (n + 1) p' ∧ dBin subD (dC (.int 1)) (dBin mulD (dC (.int 2)) (dCallIO 0 1 fn__law_draw (dCons (dC (.int 2)) dNil))) (some p :: r) = .ok (.int x) (some p' :: r) := by
  obtain ⟨y, p', y0, y1, hp, e⟩ := draw_ok (many := 2) h hn (by decide) (by decide)
  have hc : dCallIO 0 1 fn__law_draw (dCons (dC (.int 2)) dNil) (some p :: r) = .ok (.int y) (some p' :: r) := callIO_ok (by simp) rfl e
  have hm : mulD (.int 2) (.int y) = some (.int (2 * y)) := e_mul (by
    have := log_small (i := 2) (n := 31) (by decide) (by decide)
    have := log_small (i := y) (n := 31) (by omega) (by decide)
    omega)
  refine ⟨1 - 2 * y, p', by omega, hp, ?_⟩
  simp only [e_dBin, e_dC, e_bind_ok, hc, hm, e_lift_some, e_sub]
/-- a draw of a number below what a slot holds -/
theorem drawV_ok {n k : Nat} {s : Nat} {p : D} {r : List (Option D)} (h : Pen n p) (hn : n < 2 ^ 40) (hs : 1 ≤ s ∧ s < 1000000) (hk : (some p :: r)[k]? = some (some (.int (s : Nat)))) : ∃ (y : Nat) (p' : D), y < s ∧ Pen (n + 1) p' ∧ dCallIO 0 1 fn__law_draw (dCons (dVar k) dNil) (some p :: r) = .ok (.int (y : Nat)) (some p' :: r) := by
  obtain ⟨y, p', y0, y1, hp, e⟩ := draw_ok (many := s) h hn (by omega) (by omega)
  refine ⟨y.toNat, p', by omega, hp, callIO_ok (ds := [.int (s : Nat)]) (outs := [some (.int (s : Nat))]) (by simp [hk]) rfl ?_⟩
  rw [e, show ((y.toNat : Nat) : Int) = y by omega]
theorem drawC_ok {n : Nat} {c : Int} {p : D} {r : List (Option D)} (h : Pen n p) (hn : n < 2 ^ 40) (hs : 1 ≤ c ∧ c < 1000000) : ∃ (y : Nat) (p' : D), (y : Int) < c ∧ Pen (n + 1) p' ∧ dCallIO 0 1 fn__law_draw (dCons (dC (.int c)) dNil) (some p :: r) = .ok (.int (y : Nat)) (some p' :: r) := by
  obtain ⟨y, p', y0, y1, hp, e⟩ := draw_ok (many := c) h hn hs.1 (by omega)
  refine ⟨y.toNat, p', by omega, hp, callIO_ok (ds := [.int c]) (outs := [some (.int c)]) (by simp) rfl ?_⟩
  rw [e, show ((y.toNat : Nat) : Int) = y by omega]

/-- [[0] * size for i in range(size)] -/
theorem rows0_ok {s k v : Nat} {δ : List (Option D)} (hs : s < 1000) (h3 : ∀ d : D, ((wipeD δ [v]).set v (some d))[k]? = some (some (.int (s : Nat)))) (h4 : ∀ d : D, wipeD ((wipeD δ [v]).set v (some d)) [v] = wipeD δ [v]) :
    lcD [v] (gV v) dYes (dBin repD (dAr dLstD (dCons (dC (.int 0)) dNil)) (dVar k)) (rangeD 0 s) [] (wipeD δ [v]) = .ok ((List.replicate s (List.replicate s (0 : Int))).map fun r => .lst (r.map .int)) (wipeD δ [v]) := by
  have hz := sizeLine_big
  rw [lcD_map (vs := [v]) (s := gV v) (f := dBin repD (dAr dLstD (dCons (dC (.int 0)) dNil)) (dVar k)) (δ := wipeD δ [v]) (fun _ => .lst (List.replicate s (D.int 0))) (xs := rangeD 0 s) (by rw [len_range]; omega) (fun d hd => by
    refine ⟨_, rfl, ?_, h4 d⟩
    have hb : ∀ δ' : List (Option D), lift (repD (.lst [D.int 0]) (.int (s : Nat))) δ' = .ok (.lst (List.replicate s (D.int 0))) δ' := fun δ' => by rw [rep1_ok (by omega), e_lift_some]
    have hd : ∀ δ' : List (Option D), dAr dLstD (dCons (dC (.int 0)) dNil) δ' = .ok (.lst [D.int 0]) δ' := fun δ' => by rw [e_dAr, e_dCons, e_dC, e_bind_ok, e_dNil, e_bind_ok, e_bind_ok, dLstD_ok (by decide), e_lift_some]
    have hv : dVar k ((wipeD δ [v]).set v (some d)) = .ok (.int (s : Nat)) ((wipeD δ [v]).set v (some d)) := by rw [e_dVar, h3]
    rw [e_dBin, hd, e_bind_ok, hv, e_bind_ok, hb])]
  congr 1
  rw [List.map_replicate, List.map_replicate, rangeD_nat, List.map_map]
  apply List.ext_getElem
  · simp
  · intro i h1 h2; simp
theorem isRows_zero (s : Nat) : IsRows s (List.replicate s (List.replicate s (0 : Int))) := ⟨by simp, fun r hr => by
  obtain ⟨_, rfl⟩ := List.mem_replicate.mp hr
  exact ⟨by simp, fun x hx => by obtain ⟨_, rfl⟩ := List.mem_replicate.mp hx; decide⟩⟩
/-- tuple([tuple(row) for row in rows]) -/
theorem rowsOut_ok {v k : Nat} {δ : List (Option D)} {rows : List (List Int)} (hl : rows.length < 1000) (h3 : δ[k]? = some (some (rowsL rows))) (h4 : backD δ (wipeD δ [v]) [v] = δ) (h6 : ∀ d : D, ((wipeD δ [v]).set v (some d))[v]? = some (some d)) (h5 : ∀ d : D, wipeD ((wipeD δ [v]).set v (some d)) [v] = wipeD δ [v]) :
    dAr tupOf (dCons (dLc [v] (dSeqI (dVar k)) (gV v) dYes (dAr tupOf (dCons (dVar v) dNil))) dNil) δ = .ok (rowsT rows) δ := by
  have hz := sizeLine_big
  have e := lcD_map (vs := [v]) (s := gV v) (f := dAr tupOf (dCons (dVar v) dNil)) (δ := wipeD δ [v]) (fun d => match d with | .lst l => .tup l | d => d) (xs := rows.map fun r => .lst (r.map .int)) (by rw [List.length_map]; omega) (fun d hd => by
    obtain ⟨r, _, rfl⟩ := List.mem_map.mp hd
    refine ⟨_, rfl, ?_, h5 _⟩
    simp only [e_dAr, e_dCons, e_dVar, h6, e_bind_ok, e_dNil, tupOf, e_lift_some])
  simp only [e_dAr, e_dCons, e_dLc, e_dSeqI, e_dVar, h3, rowsL, e_bind_ok, e_items_lst, e, h4, e_dNil, tupOf, e_lift_some, List.map_map]
  rfl

theorem take_set0 {v : D} {l : List (Option D)} : True := trivial
/-- for at in range(size): rows[order[at]][order[at - 1]] = 1 - 2 * draw(2) -/
theorem ring_loop1 {n s : Nat} {p : D} {m : List D} {x : Option D} (h : Pen n p) (hn : n + s < 1000000) (hs : s < 1000) (hm : m.length = s) (hr : ∀ x ∈ m, ∃ i : Nat, i < s ∧ x = .int i) {rows : List (List Int)} (R : IsRows s rows) {y : Option D} {z : Option D} :
    ∃ δ', forD (gV 4) (dAsg (dBin subD (dC (.int 1)) (dBin mulD (dC (.int 2)) (dCallIO 0 1 fn__law_draw (dCons (dC (.int 2)) dNil)))) (uIx2 3 (dBin idxD (dVar 2) (dVar 4)) (dBin idxD (dVar 2) (dBin subD (dVar 4) (dC (.int 1)))))) (rangeD 0 s) [some p, some (.int (s : Nat)), some (.lst m), some (rowsL rows), x, y, z] = .next δ' ∧
      ∃ (p' : D) (x' : Option D) (rows' : List (List Int)), δ' = [some p', some (.int (s : Nat)), some (.lst m), some (rowsL rows'), x', y, z] ∧ Pen (n + s) p' ∧ IsRows s rows' := by
  have st : ∀ j d δ, (rangeD 0 s)[j]? = some d → (∃ (p' : D) (x' : Option D) (rows' : List (List Int)), δ = [some p', some (.int (s : Nat)), some (.lst m), some (rowsL rows'), x', y, z] ∧ Pen (n + j) p' ∧ IsRows s rows') →
      ∃ δ1, gV 4 d δ = some δ1 ∧ ∃ δ2, (dAsg (dBin subD (dC (.int 1)) (dBin mulD (dC (.int 2)) (dCallIO 0 1 fn__law_draw (dCons (dC (.int 2)) dNil)))) (uIx2 3 (dBin idxD (dVar 2) (dVar 4)) (dBin idxD (dVar 2) (dBin subD (dVar 4) (dC (.int 1))))) δ1 = .next δ2 ∨ dAsg (dBin subD (dC (.int 1)) (dBin mulD (dC (.int 2)) (dCallIO 0 1 fn__law_draw (dCons (dC (.int 2)) dNil)))) (uIx2 3 (dBin idxD (dVar 2) (dVar 4)) (dBin idxD (dVar 2) (dBin subD (dVar 4) (dC (.int 1))))) δ1 = .cont δ2) ∧
        (∃ (p' : D) (x' : Option D) (rows' : List (List Int)), δ2 = [some p', some (.int (s : Nat)), some (.lst m), some (rowsL rows'), x', y, z] ∧ Pen (n + (j + 1)) p' ∧ IsRows s rows') := by
    rintro j d δ hj ⟨p', x', rows', rfl, hp, R'⟩
    obtain ⟨hjs, rfl⟩ := get_range hj
    obtain ⟨sg, p'', hsg, hp2, e⟩ := sign_ok (r := [some (.int (s : Nat)), some (.lst m), some (rowsL rows'), some (.int (j : Nat)), y, z]) hp (by omega)
    obtain ⟨u, hu, eu⟩ := idx_any (l := m) (i := (j : Int)) (by omega) (by omega)
    obtain ⟨w, hw, ew⟩ := idx_any (l := m) (i := (j : Int) - 1) (by omega) (by omega)
    obtain ⟨a, ha, rfl⟩ := hr u hu
    obtain ⟨b, hb, rfl⟩ := hr w hw
    have hf : dBin idxD (dVar 2) (dVar 4) [some p'', some (.int (s : Nat)), some (.lst m), some (rowsL rows'), some (.int (j : Nat)), y, z] = .ok (.int (a : Nat)) [some p'', some (.int (s : Nat)), some (.lst m), some (rowsL rows'), some (.int (j : Nat)), y, z] := by
      simp only [e_dBin, e_dVar, List.getElem?_cons_succ, List.getElem?_cons_zero, e_bind_ok, eu, e_lift_some]
    have hg : dBin idxD (dVar 2) (dBin subD (dVar 4) (dC (.int 1))) ([some p'', some (.int (s : Nat)), some (.lst m), some (rowsL rows'), some (.int (j : Nat)), y, z].set 3 none) = .ok (.int (b : Nat)) [some p'', some (.int (s : Nat)), some (.lst m), none, some (.int (j : Nat)), y, z] := by
      simp only [List.set_cons_succ, List.set_cons_zero, e_dBin, e_dVar, List.getElem?_cons_succ, List.getElem?_cons_zero, e_bind_ok, e_dC, e_sub, ew, e_lift_some]
    have eU := uIx2_ok (k := 3) (x := sg) R' (δ := [some p'', some (.int (s : Nat)), some (.lst m), some (rowsL rows'), some (.int (j : Nat)), y, z]) rfl hf rfl hg rfl (by omega) (by omega) (by omega) (by omega)
    refine ⟨_, rfl, [some p'', some (.int (s : Nat)), some (.lst m), some (rowsL (setRC rows' a b sg)), some (.int (j : Nat)), y, z], .inl ?_, p'', _, _, rfl, hp2, R'.set ha hsg.1 hsg.2⟩
    simp only [List.set_cons_succ, List.set_cons_zero] at eU ⊢
    rw [e_dAsg, e, e_stm_ok, eU, e_stm_ok]
    simp only [Int.toNat_natCast]
  obtain ⟨δ', e1, p', x', rows', rfl, h1, h2⟩ := forD_inv _ (rangeD 0 s) [some p, some (.int (s : Nat)), some (.lst m), some (rowsL rows), x, y, z] ⟨p, x, rows, rfl, h, R⟩ st
  rw [len_range] at h1
  exact ⟨_, e1, p', x', rows', rfl, h1, h2⟩

/-- pick from a written list of small ints -/
theorem pickC_ok {n : Nat} {p : D} {l : List Int} {g : DA} {r : List (Option D)} (h : Pen n p) (hn : n < 1000000) (hl : l ≠ []) (h2 : l.length < 1000) (hg : g (some p :: r) = .ok [.lst (l.map .int)] (some p :: r)) : ∃ (y : Int) (p' : D), y ∈ l ∧ Pen (n + 1) p' ∧ dCallIO 0 1 fn__law_pick g (some p :: r) = .ok (.int y) (some p' :: r) := by
  obtain ⟨x, p', hx, hp, e⟩ := pick_ok (l := l.map D.int) h (by omega) (by simpa using hl) (by rw [List.length_map]; omega)
  obtain ⟨y, hy, rfl⟩ := List.mem_map.mp hx
  exact ⟨y, p', hy, hp, callIO_ok hg rfl e⟩
theorem list001 {δ : List (Option D)} : dCons (dAr dLstD (dCons (dC (.int 0)) (dCons (dC (.int 0)) (dCons (dUn negD (dC (.int 1))) dNil)))) dNil δ = .ok [.lst (([0, 0, -1] : List Int).map .int)] δ := by
  have e : dLstD [.int 0, .int 0, .int (-1)] = some (.lst [.int 0, .int 0, .int (-1)]) := dLstD_ok (by decide)
  simp only [e_dCons, e_dAr, e_dC, e_dUn, e_neg, e_lift_some, e_bind_ok, e_dNil, e]
  rfl
theorem ring_loop2 {n s : Nat} {p : D} {m : List D} {x : Option D} (h : Pen n p) (hn : n + s < 1000000) (hs : s < 1000) {rows : List (List Int)} (R : IsRows s rows) {y : Option D} {z : Option D} :
    ∃ δ', forD (gV 5) (dAsg (dCallIO 0 1 fn__law_pick (dCons (dAr dLstD (dCons (dC (.int 0)) (dCons (dC (.int 0)) (dCons (dUn negD (dC (.int 1))) dNil)))) dNil)) (uIx2 3 (dVar 5) (dVar 5))) (rangeD 0 s) [some p, some (.int (s : Nat)), some (.lst m), some (rowsL rows), x, y, z] = .next δ' ∧
      ∃ (p' : D) (y' : Option D) (rows' : List (List Int)), δ' = [some p', some (.int (s : Nat)), some (.lst m), some (rowsL rows'), x, y', z] ∧ Pen (n + s) p' ∧ IsRows s rows' := by
  have st : ∀ j d δ, (rangeD 0 s)[j]? = some d → (∃ (p' : D) (y' : Option D) (rows' : List (List Int)), δ = [some p', some (.int (s : Nat)), some (.lst m), some (rowsL rows'), x, y', z] ∧ Pen (n + j) p' ∧ IsRows s rows') →
      ∃ δ1, gV 5 d δ = some δ1 ∧ ∃ δ2, (dAsg (dCallIO 0 1 fn__law_pick (dCons (dAr dLstD (dCons (dC (.int 0)) (dCons (dC (.int 0)) (dCons (dUn negD (dC (.int 1))) dNil)))) dNil)) (uIx2 3 (dVar 5) (dVar 5)) δ1 = .next δ2 ∨ dAsg (dCallIO 0 1 fn__law_pick (dCons (dAr dLstD (dCons (dC (.int 0)) (dCons (dC (.int 0)) (dCons (dUn negD (dC (.int 1))) dNil)))) dNil)) (uIx2 3 (dVar 5) (dVar 5)) δ1 = .cont δ2) ∧
        (∃ (p' : D) (y' : Option D) (rows' : List (List Int)), δ2 = [some p', some (.int (s : Nat)), some (.lst m), some (rowsL rows'), x, y', z] ∧ Pen (n + (j + 1)) p' ∧ IsRows s rows') := by
    rintro j d δ hj ⟨p', y', rows', rfl, hp, R'⟩
    obtain ⟨hjs, rfl⟩ := get_range hj
    obtain ⟨v, p'', hv, hp2, e⟩ := pickC_ok (l := [0, 0, -1]) (r := [some (.int (s : Nat)), some (.lst m), some (rowsL rows'), x, some (.int (j : Nat)), z]) hp (by omega) (by simp) (by simp) list001
    have hv2 : -1 ≤ v ∧ v ≤ 1 := by
      simp only [List.mem_cons, List.not_mem_nil, or_false] at hv
      omega
    have hf : dVar 5 [some p'', some (.int (s : Nat)), some (.lst m), some (rowsL rows'), x, some (.int (j : Nat)), z] = .ok (.int (j : Nat)) [some p'', some (.int (s : Nat)), some (.lst m), some (rowsL rows'), x, some (.int (j : Nat)), z] := rfl
    have hg : dVar 5 ([some p'', some (.int (s : Nat)), some (.lst m), some (rowsL rows'), x, some (.int (j : Nat)), z].set 3 none) = .ok (.int (j : Nat)) [some p'', some (.int (s : Nat)), some (.lst m), none, x, some (.int (j : Nat)), z] := rfl
    have eU := uIx2_ok (k := 3) (x := v) R' (δ := [some p'', some (.int (s : Nat)), some (.lst m), some (rowsL rows'), x, some (.int (j : Nat)), z]) rfl hf rfl hg rfl (by omega) (by omega) (by omega) (by omega)
    refine ⟨_, rfl, [some p'', some (.int (s : Nat)), some (.lst m), some (rowsL (setRC rows' j j v)), x, some (.int (j : Nat)), z], .inl ?_, p'', _, _, rfl, hp2, R'.set hjs hv2.1 hv2.2⟩
    simp only [List.set_cons_succ, List.set_cons_zero] at eU ⊢
    rw [e_dAsg, e, e_stm_ok, eU, e_stm_ok]
    simp only [Int.toNat_natCast]
  obtain ⟨δ', e1, p', x', rows', rfl, h1, h2⟩ := forD_inv _ (rangeD 0 s) [some p, some (.int (s : Nat)), some (.lst m), some (rowsL rows), x, y, z] ⟨p, y, rows, rfl, h, R⟩ st
  rw [len_range] at h1
  exact ⟨_, e1, p', x', rows', rfl, h1, h2⟩
def pairD (t : Nat × Nat) : D := .tup [.int t.1, .int t.2]
structure IsTies (s : Nat) (ties : List (Nat × Nat)) : Prop where
  len : ties.length ≤ s
  lt : ∀ t ∈ ties, t.1 < s ∧ t.2 < s
abbrev tiesUp : DE := dIte (dTst asB (dBin (eqD false) (dVar 3) (dC (.int 0)))) (dBin subD (dVar 2) (dC (.int 1))) (dIte (dTst asB (dBin (eqD false) (dVar 3) (dC (.int 1)))) (dCallIO 0 1 fn__law_draw (dCons (dVar 2) dNil)) (dAr max2D (dCons (dC (.int 0)) (dCons (dBin subD (dBin subD (dVar 2) (dC (.int 1))) (dCallIO 0 1 fn__law_draw (dCons (dC (.int 3)) dNil))) dNil))))
/-- the upper end of a tie -/
theorem up_ok {n at_ : Nat} {p : D} {way : Int} {b o t u : Option D} (h : Pen n p) (hn : n < 1000000) (ha : 1 ≤ at_ ∧ at_ < 1000) : ∃ (y : Nat) (p' : D), y < at_ ∧ Pen (n + 1) p' ∧ tiesUp [some p, b, some (.int (at_ : Nat)), some (.int way), o, t, u] = .ok (.int (y : Nat)) [some p', b, some (.int (at_ : Nat)), some (.int way), o, t, u] := by
  have t0 : dTst asB (dBin (eqD false) (dVar 3) (dC (.int 0))) [some p, b, some (.int (at_ : Nat)), some (.int way), o, t, u] = .ok (way == 0) [some p, b, some (.int (at_ : Nat)), some (.int way), o, t, u] := rfl
  have t1 : dTst asB (dBin (eqD false) (dVar 3) (dC (.int 1))) [some p, b, some (.int (at_ : Nat)), some (.int way), o, t, u] = .ok (way == 1) [some p, b, some (.int (at_ : Nat)), some (.int way), o, t, u] := rfl
  by_cases h0 : way = 0
  · subst h0
    have hp1 : Pen (n + 1) p := by
      obtain ⟨c1, c2, c3, c4, c5, e, r⟩ := h
      exact ⟨c1, c2, c3, c4, c5, e, ⟨r.a0, r.d0, r.c0, by have := r.cn; omega, r.f0, r.f1⟩⟩
    refine ⟨at_ - 1, p, by omega, hp1, ?_⟩
    refine (ite_t t0).trans ?_
    refine bin_ok rfl rfl ?_
    rw [e_sub]
    congr 2
    omega
  · have f0 : (way == 0) = false := by simpa using h0
    rw [f0] at t0
    by_cases h1 : way = 1
    · subst h1
      obtain ⟨y, p', hy, hp, e⟩ := drawV_ok (k := 2) (s := at_) (r := [b, some (.int (at_ : Nat)), some (.int 1), o, t, u]) h (by omega) (by omega) rfl
      exact ⟨y, p', hy, hp, (ite_f t0).trans ((ite_t t1).trans e)⟩
    · have f1 : (way == 1) = false := by simpa using h1
      rw [f1] at t1
      obtain ⟨y, p', hy, hp, e⟩ := drawC_ok (c := 3) (r := [b, some (.int (at_ : Nat)), some (.int way), o, t, u]) h (by omega) (by decide)
      refine ⟨at_ - 1 - y, p', by omega, hp, (ite_f t0).trans ((ite_f t1).trans ?_)⟩
      have e2 : dBin subD (dBin subD (dVar 2) (dC (.int 1))) (dCallIO 0 1 fn__law_draw (dCons (dC (.int 3)) dNil)) [some p, b, some (.int (at_ : Nat)), some (.int way), o, t, u] = .ok (.int ((at_ : Int) - 1 - y)) [some p', b, some (.int (at_ : Nat)), some (.int way), o, t, u] := bin_ok rfl e rfl
      refine ar_ok (cons_ok rfl (cons_ok e2 rfl)) ?_
      show some (D.int (if (at_ : Int) - 1 - y > 0 then (at_ : Int) - 1 - y else 0)) = _
      congr 2
      split <;> omega

theorem get_rangeF {a s j : Nat} {x : D} (h : (rangeD (a : Int) s)[j]? = some x) : j < s - a ∧ x = .int ((a + j : Nat) : Int) := by
  rw [rangeD_from, List.getElem?_map] at h
  by_cases hj : j < s - a
  · rw [List.getElem?_eq_getElem (by simpa using hj)] at h
    simp at h
    exact ⟨hj, by rw [← h]; simp⟩
  · rw [List.getElem?_eq_none (by simpa using hj)] at h; cases h
theorem len_rangeF (a s : Nat) : (rangeD (a : Int) s).length = s - a := by rw [rangeD_from]; simp
theorem ties_ok {n s : Nat} {p : D} (h : Pen n p) (hn : n + 2 * s + 1 < 1000000) (hs : 1 ≤ s ∧ s < 1000) : ∃ (ties : List (Nat × Nat)) (p' : D), IsTies s ties ∧ Pen (n + 2 * s + 1) p' ∧ fn__law_tree_ties [p, .int (s : Nat)] = .ok (.lst (ties.map pairD)) [some p', some (.int (s : Nat))] := by
  obtain ⟨w, p1, hw, hp1, e1⟩ := drawC_ok (c := 3) (r := [some (.int (s : Nat)), none, none, none, none, none]) h (by omega) (by decide)
  obtain ⟨m, p2, hm, hmem, hp2, e2⟩ := shuffled_ok (l := rangeD 0 s) hp1 (by rw [len_range]; omega) (by rw [len_range]; omega)
  rw [len_range] at hm hp2
  have hr : ∀ x ∈ m, ∃ i : Nat, i < s ∧ x = .int i := fun x hx => mem_range (hmem x hx)
  have c2 : dCallIO 0 1 fn__law_shuffled (dCons (dLRg1 (dVar 1)) dNil) (some p1 :: [some (.int (s : Nat)), none, none, none, none, none]) = .ok (.lst m) (some p2 :: [some (.int (s : Nat)), none, none, none, none, none]) :=
    callIO_ok (by rw [e_dCons, lrg_ok (s := s) rfl (by omega)]; rfl) rfl e2
  have hz : dAr dLstD dNil [some p2, some (.int (s : Nat)), none, none, none, none, none] = .ok (.lst []) [some p2, some (.int (s : Nat)), none, none, none, none, none] := ar_ok rfl (dLstD_ok (by decide))
  have st : ∀ j d δ, (rangeD ((1 : Nat) : Int) s)[j]? = some d → (∃ (p' : D) (x u : Option D) (ties : List (Nat × Nat)), δ = [some p', some (.int (s : Nat)), x, some (.int (w : Nat)), some (.lst m), some (.lst (ties.map pairD)), u] ∧ Pen (n + s + 1 + j) p' ∧ ties.length = j ∧ ∀ t ∈ ties, t.1 < s ∧ t.2 < s) →
      ∃ δ1, gV 2 d δ = some δ1 ∧ ∃ δ2, (dSeq (dSet 6 tiesUp) (dApp 5 (dAr dTupD (dCons (dBin idxD (dVar 4) (dVar 6)) (dCons (dBin idxD (dVar 4) (dVar 2)) dNil)))) δ1 = .next δ2 ∨ dSeq (dSet 6 tiesUp) (dApp 5 (dAr dTupD (dCons (dBin idxD (dVar 4) (dVar 6)) (dCons (dBin idxD (dVar 4) (dVar 2)) dNil)))) δ1 = .cont δ2) ∧
        (∃ (p' : D) (x u : Option D) (ties : List (Nat × Nat)), δ2 = [some p', some (.int (s : Nat)), x, some (.int (w : Nat)), some (.lst m), some (.lst (ties.map pairD)), u] ∧ Pen (n + s + 1 + (j + 1)) p' ∧ ties.length = j + 1 ∧ ∀ t ∈ ties, t.1 < s ∧ t.2 < s) := by
    rintro j d δ hj ⟨p', x, u, ties, rfl, hp, hl, ht⟩
    obtain ⟨hjs, rfl⟩ := get_rangeF hj
    obtain ⟨y, p'', hy, hp2, e⟩ := up_ok (at_ := 1 + j) (way := (w : Nat)) (b := some (.int (s : Nat))) (o := some (.lst m)) (t := some (.lst (ties.map pairD))) (u := u) hp (by omega) (by omega)
    have i1 := idx_int (l := m) (i := (y : Nat)) (by omega) (by omega)
    have i2 := idx_int (l := m) (i := ((1 + j : Nat) : Int)) (by omega) (by omega)
    obtain ⟨a, ha, ea⟩ := hr _ (List.getElem_mem (l := m) (n := ((y : Nat) : Int).toNat) (by omega))
    obtain ⟨b, hb, eb⟩ := hr _ (List.getElem_mem (l := m) (n := ((1 + j : Nat) : Int).toNat) (by omega))
    rw [ea] at i1
    rw [eb] at i2
    refine ⟨_, rfl, [some p'', some (.int (s : Nat)), some (.int ((1 + j : Nat) : Int)), some (.int (w : Nat)), some (.lst m), some (.lst ((ties ++ [(a, b)]).map pairD)), some (.int (y : Nat))], .inl ?_, p'', _, _, ties ++ [(a, b)], rfl, hp2, by simp [hl], fun t hT => ?_⟩
    · refine (seq_next (set_ok e)).trans ?_
      have hA : dAr dTupD (dCons (dBin idxD (dVar 4) (dVar 6)) (dCons (dBin idxD (dVar 4) (dVar 2)) dNil)) [some p'', some (.int (s : Nat)), some (.int ((1 + j : Nat) : Int)), some (.int (w : Nat)), some (.lst m), some (.lst (ties.map pairD)), some (.int (y : Nat))] = .ok (pairD (a, b)) [some p'', some (.int (s : Nat)), some (.int ((1 + j : Nat) : Int)), some (.int (w : Nat)), some (.lst m), some (.lst (ties.map pairD)), some (.int (y : Nat))] :=
        ar_ok (cons_ok (bin_ok rfl rfl i1) (cons_ok (bin_ok rfl rfl i2) rfl)) (dTupD_ok (by simp))
      refine (app_ok (l0 := ties.map pairD) (l := ties.map pairD) rfl hA rfl (by rw [List.length_map]; omega)).trans ?_
      simp only [List.set_cons_succ, List.set_cons_zero, List.map_append, List.map_cons, List.map_nil]
    · rcases List.mem_append.mp hT with z | z
      · exact ht t z
      · rw [List.mem_singleton.mp z]; exact ⟨ha, hb⟩
  obtain ⟨δ', l1, p3, x3, u3, ties, rfl, hp3, hl3, ht3⟩ := forD_inv _ (rangeD ((1 : Nat) : Int) s) [some p2, some (.int (s : Nat)), none, some (.int (w : Nat)), some (.lst m), some (.lst []), none] ⟨p2, none, none, [], rfl, by rw [show n + s + 1 + 0 = n + 1 + s by omega]; exact hp2, rfl, fun _ z => by cases z⟩ st
  rw [len_rangeF] at hp3 hl3
  refine ⟨ties, p3, ⟨by omega, ht3⟩, ?_, ?_⟩
  · obtain ⟨c1, c2, c3, c4, c5, e, r⟩ := hp3
    exact ⟨c1, c2, c3, c4, c5, e, ⟨r.a0, r.d0, r.c0, by have := r.cn; omega, r.f0, r.f1⟩⟩
  · refine dFnIO_ret (δ0 := [some p, some (.int (s : Nat)), none, none, none, none, none]) (δ := [some p3, some (.int (s : Nat)), x3, some (.int (w : Nat)), some (.lst m), some (.lst (ties.map pairD)), u3]) rfl ?_ rfl
    unfold d__law_tree_ties
    refine (seq_next (par3_ok (cons_ok e1 (cons_ok c2 (cons_ok hz rfl))))).trans ?_
    have hrg : dRng2 (dCons (dC (.int 1)) (dCons (dVar 1) dNil)) [some p2, some (.int (s : Nat)), none, some (.int (w : Nat)), some (.lst m), some (.lst []), none] = .ok (rangeD ((1 : Nat) : Int) s) [some p2, some (.int (s : Nat)), none, some (.int (w : Nat)), some (.lst m), some (.lst []), none] := e_rng2 (i := ((1 : Nat) : Int)) (j := ((s : Nat) : Int)) (cons_ok rfl (cons_ok rfl rfl)) (by omega) (by omega) (by omega) (by omega)
    refine (seq_next (for_ok hrg l1)).trans ?_
    exact ret_ok rfl

theorem Pen.le {n m : Nat} {p : D} (h : Pen n p) (hm : n ≤ m) : Pen m p := by
  obtain ⟨c1, c2, c3, c4, c5, e, r⟩ := h
  exact ⟨c1, c2, c3, c4, c5, e, ⟨r.a0, r.d0, r.c0, by have := r.cn; omega, r.f0, r.f1⟩⟩
/-- the test draw(6) > 0 -/
theorem test6_ok {n : Nat} {p : D} {r : List (Option D)} (h : Pen n p) (hn : n < 1000000) : ∃ (b : Bool) (p' : D), Pen (n + 1) p' ∧ dTst asB (dBin gtD (dCallIO 0 1 fn__law_draw (dCons (dC (.int 6)) dNil)) (dC (.int 0))) (some p :: r) = .ok b (some p' :: r) := by
  obtain ⟨y, p', hy, hp, e⟩ := drawC_ok (c := 6) (r := r) h (by omega) (by decide)
  exact ⟨_, p', hp, tst_ok (bin_ok e rfl rfl) rfl⟩
/-- [tie for tie in ties if draw(6) > 0] -/
theorem some_ties {n s : Nat} {p : D} {b c d e f g h1 i j k l m : Option D} {ties : List (Nat × Nat)} (h : Pen n p) (hn : n + ties.length < 1000000) (T : IsTies s ties) (hs : s < 1000) :
    ∃ (t2 : List (Nat × Nat)) (p' : D), IsTies s t2 ∧ Pen (n + ties.length) p' ∧ lcD [12] (gV 12) (dTst asB (dBin gtD (dCallIO 0 1 fn__law_draw (dCons (dC (.int 6)) dNil)) (dC (.int 0)))) (dVar 12) (ties.map pairD) [] [some p, b, c, d, e, f, g, h1, i, j, k, l, none, m] = .ok (t2.map pairD) [some p', b, c, d, e, f, g, h1, i, j, k, l, none, m] := by
  obtain ⟨L, δe, e1, t2, p', rfl, rfl, hp, hl, hm⟩ := lcD_inv (vs := [12]) (s := gV 12) (t := dTst asB (dBin gtD (dCallIO 0 1 fn__law_draw (dCons (dC (.int 6)) dNil)) (dC (.int 0)))) (f := dVar 12)
    (fun q acc δ => ∃ (t2 : List (Nat × Nat)) (p' : D), acc = t2.map pairD ∧ δ = [some p', b, c, d, e, f, g, h1, i, j, k, l, none, m] ∧ Pen (n + q) p' ∧ t2.length ≤ q ∧ ∀ t ∈ t2, t ∈ ties) (ties.map pairD) 0 [] [some p, b, c, d, e, f, g, h1, i, j, k, l, none, m] ⟨[], p, rfl, rfl, h, Nat.le_refl _, fun _ z => by cases z⟩ (by
      rintro q x acc δ hx ⟨t2, p', rfl, rfl, hp, hl, hm⟩
      rw [Nat.zero_add] at hp hl
      rw [List.getElem?_map] at hx
      cases et : ties[q]? with
      | none => rw [et] at hx; cases hx
      | some t =>
        rw [et] at hx
        cases hx
        have hq : q < ties.length := (List.getElem?_eq_some_iff.mp et).1
        obtain ⟨bb, p'', hp2, e2⟩ := test6_ok (r := [b, c, d, e, f, g, h1, i, j, k, l, some (pairD t), m]) hp (by omega)
        have hT := T.len
        refine ⟨_, rfl, bb, _, e2, fun _ => ⟨pairD t, _, rfl, ?_, t2 ++ [t], p'', by simp, rfl, by rw [Nat.zero_add]; exact hp2, by simp; omega, fun z hz => ?_⟩, fun _ => ⟨t2, p'', rfl, rfl, by rw [Nat.zero_add]; exact hp2, by omega, hm⟩⟩
        · have := sizeLine_big
          rw [List.length_map]
          omega
        · rcases List.mem_append.mp hz with y | y
          · exact hm z y
          · rw [List.mem_singleton.mp y]; exact List.mem_of_getElem? et)
  rw [Nat.zero_add, List.length_map] at hp hl
  refine ⟨t2, p', ⟨Nat.le_trans hl T.len, fun t ht => T.lt t (hm t ht)⟩, hp, e1⟩
/-- a list of small signs that is picked from -/
def IsMuch (x : D) : Prop := ∃ l : List Int, x = .lst (l.map .int) ∧ l ≠ [] ∧ l.length < 1000 ∧ ∀ y ∈ l, -1 ≤ y ∧ y ≤ 1
theorem pickM_ok {n k : Nat} {p x : D} {r : List (Option D)} (h : Pen n p) (hn : n < 1000000) (hx : IsMuch x) (hk : (some p :: r)[k]? = some (some x)) : ∃ (y : Int) (p' : D), (-1 ≤ y ∧ y ≤ 1) ∧ Pen (n + 1) p' ∧ dCallIO 0 1 fn__law_pick (dCons (dVar k) dNil) (some p :: r) = .ok (.int y) (some p' :: r) := by
  obtain ⟨l, rfl, l1, l2, l3⟩ := hx
  obtain ⟨y, p', hy, hp, e⟩ := pickC_ok (l := l) (g := dCons (dVar k) dNil) (r := r) h hn l1 l2 (by simp [hk])
  exact ⟨y, p', l3 y hy, hp, e⟩

abbrev fCell : DE := dIte (dTst asB (dBin (eqD false) (dVar 9) (dVar 10))) (dCallIO 0 1 fn__law_pick (dCons (dVar 3) dNil)) (dC (.int 0))
/-- one row of the diagonal's picks -/
theorem frow_ok {n s ii : Nat} {p much : D} {b c e f g h1 i8 k l m : Option D} (h : Pen n p) (hn : n + s < 1000000) (hm : IsMuch much) (hs : s < 1000) :
    ∃ (row : List Int) (p' : D), (row.length = s ∧ ∀ x ∈ row, -1 ≤ x ∧ x ≤ 1) ∧ Pen (n + s) p' ∧ lcD [10] (gV 10) dYes fCell (rangeD 0 s) [] [some p, b, c, some much, e, f, g, h1, i8, some (.int (ii : Nat)), none, k, l, m] = .ok (row.map .int) [some p', b, c, some much, e, f, g, h1, i8, some (.int (ii : Nat)), none, k, l, m] := by
  obtain ⟨L, δe, e1, row, p', rfl, rfl, hp, hl, hx⟩ := lcD_inv (vs := [10]) (s := gV 10) (t := dYes) (f := fCell)
    (fun q acc δ => ∃ (row : List Int) (p' : D), acc = row.map .int ∧ δ = [some p', b, c, some much, e, f, g, h1, i8, some (.int (ii : Nat)), none, k, l, m] ∧ Pen (n + q) p' ∧ row.length = q ∧ ∀ x ∈ row, -1 ≤ x ∧ x ≤ 1) (rangeD 0 s) 0 [] [some p, b, c, some much, e, f, g, h1, i8, some (.int (ii : Nat)), none, k, l, m] ⟨[], p, rfl, rfl, h, rfl, fun _ z => by cases z⟩ (by
      rintro q x acc δ hx ⟨row, p', rfl, rfl, hp, hl, hr⟩
      rw [Nat.zero_add] at hp hl
      obtain ⟨hq, rfl⟩ := get_range hx
      have hz := sizeLine_big
      by_cases hi : ii = q
      · obtain ⟨y, p'', hy, hp2, e2⟩ := pickM_ok (k := 3) (r := [b, c, some much, e, f, g, h1, i8, some (.int (ii : Nat)), some (.int (q : Nat)), k, l, m]) hp (by omega) hm rfl
        have ht : dTst asB (dBin (eqD false) (dVar 9) (dVar 10)) [some p', b, c, some much, e, f, g, h1, i8, some (.int (ii : Nat)), some (.int (q : Nat)), k, l, m] = .ok true [some p', b, c, some much, e, f, g, h1, i8, some (.int (ii : Nat)), some (.int (q : Nat)), k, l, m] := tst_ok (bin_ok (d := .bl true) rfl rfl (by rw [e_eq_int, hi, beq_self_eq_true])) rfl
        exact ⟨_, rfl, true, _, rfl, fun _ => ⟨.int y, _, (ite_t ht).trans e2, by rw [List.length_map]; omega, row ++ [y], p'', by simp, rfl, by rw [Nat.zero_add]; exact hp2, by simp [hl], fun z hz => by
          rcases List.mem_append.mp hz with a | a
          · exact hr z a
          · rw [List.mem_singleton.mp a]; exact hy⟩, fun z => by cases z⟩
      · have ht : dTst asB (dBin (eqD false) (dVar 9) (dVar 10)) [some p', b, c, some much, e, f, g, h1, i8, some (.int (ii : Nat)), some (.int (q : Nat)), k, l, m] = .ok false [some p', b, c, some much, e, f, g, h1, i8, some (.int (ii : Nat)), some (.int (q : Nat)), k, l, m] := tst_ok (bin_ok (d := .bl false) rfl rfl (by rw [e_eq_int, beq_false_of_ne (show (ii : Int) ≠ (q : Int) by omega)])) rfl
        exact ⟨_, rfl, true, _, rfl, fun _ => ⟨.int 0, _, (ite_f ht).trans rfl, by rw [List.length_map]; omega, row ++ [0], p', by simp, rfl, by rw [Nat.zero_add]; exact hp.le (by omega), by simp [hl], fun z hz => by
          rcases List.mem_append.mp hz with a | a
          · exact hr z a
          · rw [List.mem_singleton.mp a]; decide⟩, fun z => by cases z⟩)
  rw [Nat.zero_add, len_range] at hp hl
  exact ⟨row, p', ⟨hl, hx⟩, hp, e1⟩
/-- all rows -/
theorem frows_ok {n s : Nat} {p much : D} {c e f g h1 i8 j0 k l m : Option D} (h : Pen n p) (hn : n + s * s < 1000000) (hm : IsMuch much) (hs : s < 1000) :
    ∃ (rows : List (List Int)) (p' : D), IsRows s rows ∧ Pen (n + s * s) p' ∧ lcD [9] (gV 9) dYes (dLc [10] (dRng1 (dCons (dVar 1) dNil)) (gV 10) dYes fCell) (rangeD 0 s) [] [some p, some (.int (s : Nat)), c, some much, e, f, g, h1, i8, none, j0, k, l, m] = .ok (rows.map fun r => .lst (r.map .int)) [some p', some (.int (s : Nat)), c, some much, e, f, g, h1, i8, none, j0, k, l, m] := by
  obtain ⟨L, δe, e1, rows, p', rfl, rfl, hp, hl, hx⟩ := lcD_inv (vs := [9]) (s := gV 9) (t := dYes) (f := dLc [10] (dRng1 (dCons (dVar 1) dNil)) (gV 10) dYes fCell)
    (fun q acc δ => ∃ (rows : List (List Int)) (p' : D), acc = rows.map (fun r => .lst (r.map .int)) ∧ δ = [some p', some (.int (s : Nat)), c, some much, e, f, g, h1, i8, none, j0, k, l, m] ∧ Pen (n + q * s) p' ∧ rows.length = q ∧ ∀ r ∈ rows, r.length = s ∧ ∀ x ∈ r, -1 ≤ x ∧ x ≤ 1) (rangeD 0 s) 0 [] [some p, some (.int (s : Nat)), c, some much, e, f, g, h1, i8, none, j0, k, l, m] ⟨[], p, rfl, rfl, by simpa using h, rfl, fun _ z => by cases z⟩ (by
      rintro q x acc δ hx ⟨rows, p', rfl, rfl, hp, hl, hr⟩
      rw [Nat.zero_add] at hp hl
      obtain ⟨hq, rfl⟩ := get_range hx
      have hz := sizeLine_big
      have hqs : q * s + s ≤ s * s := by
        have : (q + 1) * s ≤ s * s := Nat.mul_le_mul_right s hq
        rw [Nat.add_mul, Nat.one_mul] at this
        exact this
      obtain ⟨row, p'', hrow, hp2, e2⟩ := frow_ok (ii := q) (b := some (.int (s : Nat))) (c := c) (e := e) (f := f) (g := g) (h1 := h1) (i8 := i8) (k := k) (l := l) (m := m) hp (by omega) hm hs
      refine ⟨_, rfl, true, _, rfl, fun _ => ⟨.lst (row.map .int), [some p'', some (.int (s : Nat)), c, some much, e, f, g, h1, i8, some (.int (q : Nat)), j0, k, l, m], ?_, by rw [List.length_map]; omega, rows ++ [row], p'', by simp, rfl, ?_, by simp [hl], fun z hz => ?_⟩, fun z => by cases z⟩
      · exact lc_ok (rng1_ok (s := s) (k := 1) (δ := [some p', some (.int (s : Nat)), c, some much, e, f, g, h1, i8, some (.int (q : Nat)), j0, k, l, m]) rfl (by omega)) e2
      · rw [Nat.zero_add, show n + (q + 1) * s = n + q * s + s by rw [Nat.add_mul]; omega]; exact hp2
      · rcases List.mem_append.mp hz with a | a
        · exact hr z a
        · rw [List.mem_singleton.mp a]; exact hrow)
  rw [Nat.zero_add, len_range] at hp hl
  exact ⟨rows, p', ⟨hl, hx⟩, hp, e1⟩

/-- much = pick([[0, -1], ..]) -/
theorem much_ok {n : Nat} {p : D} {r : List (Option D)} (h : Pen n p) (hn : n < 1000000) : ∃ (x p' : D), IsMuch x ∧ Pen (n + 1) p' ∧ dCallIO 0 1 fn__law_pick (dCons (dAr dLstD (dCons (dAr dLstD (dCons (dC (.int 0)) (dCons (dUn negD (dC (.int 1))) dNil))) (dCons (dAr dLstD (dCons (dC (.int 0)) (dCons (dC (.int 0)) (dCons (dUn negD (dC (.int 1))) dNil)))) (dCons (dAr dLstD (dCons (dC (.int 0)) (dCons (dC (.int 0)) (dCons (dC (.int 0)) (dCons (dC (.int 0)) (dCons (dUn negD (dC (.int 1))) dNil)))))) (dCons (dAr dLstD (dCons (dC (.int 0)) (dCons (dUn negD (dC (.int 1))) (dCons (dUn negD (dC (.int 1))) (dCons (dUn negD (dC (.int 1))) dNil))))) dNil))))) dNil) (some p :: r) = .ok x (some p' :: r) := by
  obtain ⟨x, p', hx, hp, e⟩ := pick_ok (l := [.lst (([0, -1] : List Int).map .int), .lst (([0, 0, -1] : List Int).map .int), .lst (([0, 0, 0, 0, -1] : List Int).map .int), .lst (([0, -1, -1, -1] : List Int).map .int)]) h (by omega) (by simp) (by simp)
  refine ⟨x, p', ?_, hp, callIO_ok (by simp [dLstD_ok]) rfl e⟩
  simp only [List.mem_cons, List.not_mem_nil, or_false] at hx
  rcases hx with rfl | rfl | rfl | rfl
  · exact ⟨_, rfl, by simp, by simp, fun y hy => by simp at hy; omega⟩
  · exact ⟨_, rfl, by simp, by simp, fun y hy => by simp at hy; omega⟩
  · exact ⟨_, rfl, by simp, by simp, fun y hy => by simp at hy; omega⟩
  · exact ⟨_, rfl, by simp, by simp, fun y hy => by simp at hy; omega⟩
theorem IsRows.idx {s i : Nat} {rows : List (List Int)} (R : IsRows s rows) (hi : i < s) : idxD (rowsL rows) (.int (i : Nat)) = some (.lst ((rows.getD i []).map .int)) ∧ (rows.getD i []).length = s ∧ ∀ x ∈ rows.getD i [], -1 ≤ x ∧ x ≤ 1 := by
  have hil : i < rows.length := by rw [R.len]; exact hi
  have hg : rows.getD i [] = rows[i] := by rw [List.getD_eq_getElem?_getD, List.getElem?_eq_getElem hil]; rfl
  rw [hg]
  obtain ⟨l1, l2⟩ := R.row _ (List.getElem_mem hil)
  refine ⟨?_, l1, l2⟩
  have := idx_int (l := rows.map fun r => D.lst (r.map .int)) (i := (i : Nat)) (by omega) (by rw [List.length_map]; omega)
  unfold rowsL
  rw [this]
  simp
theorem idx_ints {l : List Int} {i : Nat} (hi : i < l.length) : idxD (.lst (l.map .int)) (.int (i : Nat)) = some (.int l[i]) := by
  have := idx_int (l := l.map D.int) (i := (i : Nat)) (by omega) (by rw [List.length_map]; omega)
  rw [this]
  simp
theorem allD_bools (bs : List Bool) : allD [.lst (bs.map .bl)] = some (.bl (bs.all id)) := by
  have e : bools (bs.map .bl) = some bs := by
    induction bs with
    | nil => rfl
    | cons b bs ih => simp [bools, ih]
  simp [allD, e]
abbrev dDiag : DE := dLc [9] (dRng1 (dCons (dVar 1) dNil)) (gV 9) dYes (dBin (eqD false) (dBin idxD (dBin idxD (dVar 4) (dVar 9)) (dVar 9)) (dC (.int 0)))
theorem diag_ok {s : Nat} {a c d f g h1 i8 j0 k l m : Option D} {rows : List (List Int)} (R : IsRows s rows) (hs : s < 1000) : ∃ b : Bool, dTst truth (dBor .sh (dAr allD (dCons dDiag dNil))) [a, some (.int (s : Nat)), c, d, some (rowsL rows), f, g, h1, i8, none, j0, k, l, m] = .ok b [a, some (.int (s : Nat)), c, d, some (rowsL rows), f, g, h1, i8, none, j0, k, l, m] := by
  obtain ⟨L, δe, e1, bs, rfl, _, rfl⟩ := lcD_inv (vs := [9]) (s := gV 9) (t := dYes) (f := dBin (eqD false) (dBin idxD (dBin idxD (dVar 4) (dVar 9)) (dVar 9)) (dC (.int 0)))
    (fun q acc δ => (∃ bs : List Bool, acc = bs.map .bl ∧ bs.length = q ∧ δ = [a, some (.int (s : Nat)), c, d, some (rowsL rows), f, g, h1, i8, none, j0, k, l, m])) (rangeD 0 s) 0 [] [a, some (.int (s : Nat)), c, d, some (rowsL rows), f, g, h1, i8, none, j0, k, l, m] ⟨[], rfl, rfl, rfl⟩ (by
      rintro q x acc δ hx ⟨bs, rfl, hb, rfl⟩
      obtain ⟨hq, rfl⟩ := get_range hx
      have hz := sizeLine_big
      obtain ⟨h1', h2', h3'⟩ := R.idx hq
      have h4' := idx_ints (l := rows.getD q []) (i := q) (by omega)
      exact ⟨_, rfl, true, _, rfl, fun _ => ⟨_, _, bin_ok (bin_ok (bin_ok rfl rfl h1') rfl h4') rfl e_eq_int, by rw [List.length_map]; omega, bs ++ [_], by rw [List.map_append]; rfl, by simp [hb], rfl⟩, fun z => by cases z⟩)
  refine ⟨bs.all id, ?_⟩
  have r1 : dRng1 (dCons (dVar 1) dNil) [a, some (.int (s : Nat)), c, d, some (rowsL rows), f, g, h1, i8, none, j0, k, l, m] = .ok (rangeD 0 s) [a, some (.int (s : Nat)), c, d, some (rowsL rows), f, g, h1, i8, none, j0, k, l, m] := rng1_ok rfl (by omega)
  have c1 : dDiag [a, some (.int (s : Nat)), c, d, some (rowsL rows), f, g, h1, i8, none, j0, k, l, m] = .ok (.lst (bs.map .bl)) (backD [a, some (.int (s : Nat)), c, d, some (rowsL rows), f, g, h1, i8, none, j0, k, l, m] [a, some (.int (s : Nat)), c, d, some (rowsL rows), f, g, h1, i8, none, j0, k, l, m] [9]) := lc_ok r1 e1
  have c2 : dAr allD (dCons dDiag dNil) [a, some (.int (s : Nat)), c, d, some (rowsL rows), f, g, h1, i8, none, j0, k, l, m] = .ok (.bl (bs.all id)) _ := ar_ok (cons_ok c1 e_dNil) (allD_bools bs)
  exact tst_ok (bor_ok c2 rfl) rfl

theorem plainL_ints : ∀ l : List Int, plainL (l.map .int) = true
  | [] => rfl
  | x :: l => by simp only [List.map_cons, plainL, VL.plain, Bool.true_and]; exact plainL_ints l
theorem depthL_ints : ∀ l : List Int, depthL (l.map .int) = 0
  | [] => rfl
  | x :: l => by simp only [List.map_cons, depthL, depth, depthL_ints l]; rfl
theorem okD_ints (l : List Int) : okD (.lst (l.map .int)) = true := by
  have h : depth (.lst (l.map .int)) ≤ 64 := by simp only [depth, depthL_ints]; decide
  unfold okD
  rw [Bool.and_eq_true]
  exact ⟨by simp only [VL.plain]; exact plainL_ints l, decide_eq_true h⟩
theorem plainL_rows : ∀ rows : List (List Int), plainL (rows.map fun r => .lst (r.map .int)) = true
  | [] => rfl
  | r :: rows => by simp only [List.map_cons, plainL, VL.plain, plainL_ints, Bool.true_and]; exact plainL_rows rows
theorem depthL_rows : ∀ rows : List (List Int), depthL (rows.map fun r => .lst (r.map .int)) ≤ 1
  | [] => by decide
  | r :: rows => by
    have := depthL_rows rows
    simp only [List.map_cons, depthL, depth, depthL_ints]
    omega
theorem okD_rows (rows : List (List Int)) : okD (rowsL rows) = true := by
  have h : depth (rowsL rows) ≤ 64 := by
    have := depthL_rows rows
    simp only [rowsL, depth]
    omega
  unfold okD
  rw [Bool.and_eq_true]
  exact ⟨by simp only [rowsL, VL.plain]; exact plainL_rows rows, decide_eq_true h⟩
/-- line = rows[draw(size)]; place = .. : some place -/
theorem line_ok {n s : Nat} {p : D} {c d f g h1 i8 i j k l m : Option D} {rows : List (List Int)} (h : Pen n p) (hn : n + 2 < 1000000) (hs : 1 ≤ s ∧ s < 1000) (R : IsRows s rows) :
    ∃ (y : Nat) (p' : D), y < s ∧ Pen (n + 2) p' ∧ dLine 4 7 8 (dCallIO 0 1 fn__law_draw (dCons (dVar 1) dNil)) (dCallIO 0 1 fn__law_draw (dCons (dVar 1) dNil)) [some p, some (.int (s : Nat)), c, d, some (rowsL rows), f, g, h1, i8, i, j, k, l, m] = .next [some p', some (.int (s : Nat)), c, d, some (rowsL rows), f, g, none, some (.int (y : Nat)), i, j, k, l, m] := by
  obtain ⟨x, p1, hx, hp1, e1⟩ := drawV_ok (k := 1) (s := s) (r := [some (.int (s : Nat)), c, d, some (rowsL rows), f, g, h1, i8, i, j, k, l, m]) h (by omega) (by omega) rfl
  have hxl : x < rows.length := by rw [R.len]; exact hx
  have e3 : ixN (rows.map fun r : List Int => D.lst (r.map D.int)).length ((x : Nat) : Int) = some x := by rw [List.length_map, R.len, ixN_nat0 (by omega) (by omega), Int.toNat_natCast]
  have e5 : (rows.map fun r : List Int => D.lst (r.map D.int))[x]? = some (.lst (rows[x].map .int)) := by rw [List.getElem?_map, List.getElem?_eq_getElem hxl]; rfl
  have hok : okD (.lst (rows.map fun r : List Int => D.lst (r.map D.int))) = true ∧ okD (.lst (rows[x].map .int)) = true := ⟨okD_rows rows, okD_ints _⟩
  have sl : ∀ (q : D), slotL [some q, some (.int (s : Nat)), c, d, some (rowsL rows), f, g, h1, i8, i, j, k, l, m] 4 = some (rows.map fun r : List Int => D.lst (r.map D.int)) := fun q => rfl
  unfold dLine dLine1
  rw [sl]
  simp only [e1, e_stm_ok, sl, e3, e5, if_pos hok, List.set_cons_succ, List.set_cons_zero]
  by_cases hc : (rows.map fun r : List Int => D.lst (r.map D.int)).countP (fun y => eqv y (.lst (rows[x].map .int))) = 1
  · refine ⟨firstAt (rows.map fun r : List Int => D.lst (r.map D.int)) (.lst (rows[x].map .int)), p1, ?_, hp1.le (by omega), by rw [if_pos hc]⟩
    have hex : ∃ z ∈ (rows.map fun r : List Int => D.lst (r.map D.int)), eqv z (.lst (rows[x].map .int)) = true := List.countP_pos_iff.mp (by omega)
    have := List.findIdx_lt_length_of_exists hex
    rw [List.length_map, R.len] at this
    exact this
  · obtain ⟨y, p2, hy, hp2, e2⟩ := drawV_ok (k := 1) (s := s) (r := [some (.int (s : Nat)), c, d, some (rowsL rows), f, g, none, i8, i, j, k, l, m]) hp1 (by omega) (by omega) rfl
    refine ⟨y, p2, hy, hp2, ?_⟩
    rw [if_neg hc, e2]
    rfl

abbrev fTree : DE := dIte (dTst asB (dBin (eqD false) (dBin idxD (dVar 5) (dVar 13)) (dBin idxD (dVar 5) (dVar 9)))) (dBin idxD (dVar 5) (dVar 10)) (dBin idxD (dVar 5) (dVar 13))
theorem tree_ok {s i j : Nat} {a c d e g h1 i8 k l : Option D} {tree : List Int} (ht : tree.length = s) (hi : i < s) (hj : j < s) (hs : s < 1000) :
    ∃ tree' : List Int, tree'.length = s ∧ lcD [13] (gV 13) dYes fTree (rangeD 0 s) [] [a, some (.int (s : Nat)), c, d, e, some (.lst (tree.map .int)), g, h1, i8, some (.int (i : Nat)), some (.int (j : Nat)), k, l, none] = .ok (.map .int tree') [a, some (.int (s : Nat)), c, d, e, some (.lst (tree.map .int)), g, h1, i8, some (.int (i : Nat)), some (.int (j : Nat)), k, l, none] := by
  obtain ⟨L, δe, e1, t2, rfl, hl, rfl⟩ := lcD_inv (vs := [13]) (s := gV 13) (t := dYes) (f := fTree)
    (fun q acc δ => (∃ t2 : List Int, acc = t2.map .int ∧ t2.length = q ∧ δ = [a, some (.int (s : Nat)), c, d, e, some (.lst (tree.map .int)), g, h1, i8, some (.int (i : Nat)), some (.int (j : Nat)), k, l, none])) (rangeD 0 s) 0 [] [a, some (.int (s : Nat)), c, d, e, some (.lst (tree.map .int)), g, h1, i8, some (.int (i : Nat)), some (.int (j : Nat)), k, l, none] ⟨[], rfl, rfl, rfl⟩ (by
      rintro q x acc δ hx ⟨t2, rfl, hb, rfl⟩
      obtain ⟨hq, rfl⟩ := get_range hx
      have hz := sizeLine_big
      have i1 := idx_ints (l := tree) (i := q) (by omega)
      have i2 := idx_ints (l := tree) (i := i) (by omega)
      have i3 := idx_ints (l := tree) (i := j) (by omega)
      have ht := tst_ok (tr := asB) (bin_ok (op := eqD false) (f := dBin idxD (dVar 5) (dVar 13)) (g := dBin idxD (dVar 5) (dVar 9)) (δ := [a, some (.int (s : Nat)), c, d, e, some (.lst (tree.map .int)), g, h1, i8, some (.int (i : Nat)), some (.int (j : Nat)), k, l, some (.int (q : Nat))]) (bin_ok rfl rfl i1) (bin_ok rfl rfl i2) e_eq_int) rfl
      have fin : ∃ y : Int, fTree [a, some (.int (s : Nat)), c, d, e, some (.lst (tree.map .int)), g, h1, i8, some (.int (i : Nat)), some (.int (j : Nat)), k, l, some (.int (q : Nat))] = .ok (.int y) [a, some (.int (s : Nat)), c, d, e, some (.lst (tree.map .int)), g, h1, i8, some (.int (i : Nat)), some (.int (j : Nat)), k, l, some (.int (q : Nat))] := by
        generalize (tree[q] == tree[i]) = b at ht
        cases b with
        | true => exact ⟨_, (ite_t ht).trans (bin_ok rfl rfl i3)⟩
        | false => exact ⟨_, (ite_f ht).trans (bin_ok rfl rfl i1)⟩
      obtain ⟨y, ey⟩ := fin
      exact ⟨_, rfl, true, _, rfl, fun _ => ⟨_, _, ey, by rw [List.length_map]; omega, t2 ++ [y], by simp, by simp [hb], rfl⟩, fun z => by cases z⟩)
  rw [Nat.zero_add, len_range] at hl
  exact ⟨t2, hl, e1⟩

abbrev fTie : DS := dSeq (dSet 11 (dBin subD (dC (.int 1)) (dBin mulD (dC (.int 2)) (dCallIO 0 1 fn__law_draw (dCons (dC (.int 2)) dNil))))) (dSeq (dAsg (dAr dTupD (dCons (dVar 11) (dCons (dUn negD (dVar 11)) dNil))) (uT 2 (uC (uIx2 4 (dVar 9) (dVar 10)) (uC (uIx2 4 (dVar 10) (dVar 9)) uN)))) (dSet 5 (dLc [13] (dRng1 (dCons (dVar 1) dNil)) (gV 13) dYes fTree)))
/-- one tie laid into the rows -/
theorem tie_step {n s i j : Nat} {p : D} {c d g h1 i8 k l : Option D} {rows : List (List Int)} {tree : List Int} (h : Pen n p) (hn : n < 1000000) (hs : s < 1000) (R : IsRows s rows) (ht : tree.length = s) (hi : i < s) (hj : j < s) :
    ∃ (rows' : List (List Int)) (tree' : List Int) (p' : D) (k' : Option D), IsRows s rows' ∧ tree'.length = s ∧ Pen (n + 1) p' ∧
      fTie [some p, some (.int (s : Nat)), c, d, some (rowsL rows), some (.lst (tree.map .int)), g, h1, i8, some (.int (i : Nat)), some (.int (j : Nat)), k, l, none] = .next [some p', some (.int (s : Nat)), c, d, some (rowsL rows'), some (.lst (tree'.map .int)), g, h1, i8, some (.int (i : Nat)), some (.int (j : Nat)), k', l, none] := by
  obtain ⟨sg, p1, hsg, hp1, e1⟩ := sign_ok (r := [some (.int (s : Nat)), c, d, some (rowsL rows), some (.lst (tree.map .int)), g, h1, i8, some (.int (i : Nat)), some (.int (j : Nat)), k, l, none]) h (by omega)
  have R1 : IsRows s (setRC rows i j sg) := R.set hi hsg.1 hsg.2
  have R2 : IsRows s (setRC (setRC rows i j sg) j i (-sg)) := R1.set hj (by omega) (by omega)
  have u1 := uIx2_ok (k := 4) (x := sg) (f := dVar 9) (g := dVar 10) (a := (i : Nat)) (b := (j : Nat)) R (δ := [some p1, some (.int (s : Nat)), c, d, some (rowsL rows), some (.lst (tree.map .int)), g, h1, i8, some (.int (i : Nat)), some (.int (j : Nat)), some (.int sg), l, none]) rfl rfl rfl rfl rfl (by omega) (by omega) (by omega) (by omega)
  have u2 := uIx2_ok (k := 4) (x := -sg) (f := dVar 10) (g := dVar 9) (a := (j : Nat)) (b := (i : Nat)) R1 (δ := [some p1, some (.int (s : Nat)), c, d, some (rowsL (setRC rows i j sg)), some (.lst (tree.map .int)), g, h1, i8, some (.int (i : Nat)), some (.int (j : Nat)), some (.int sg), l, none]) rfl rfl rfl rfl rfl (by omega) (by omega) (by omega) (by omega)
  simp only [List.set_cons_succ, List.set_cons_zero, Int.toNat_natCast] at u1 u2
  obtain ⟨tree', ht', e3⟩ := tree_ok (a := some p1) (c := c) (d := d) (e := some (rowsL (setRC (setRC rows i j sg) j i (-sg)))) (g := g) (h1 := h1) (i8 := i8) (k := some (.int sg)) (l := l) ht hi hj hs
  refine ⟨_, tree', p1, some (.int sg), R2, ht', hp1, ?_⟩
  have eT : dAr dTupD (dCons (dVar 11) (dCons (dUn negD (dVar 11)) dNil)) [some p1, some (.int (s : Nat)), c, d, some (rowsL rows), some (.lst (tree.map .int)), g, h1, i8, some (.int (i : Nat)), some (.int (j : Nat)), some (.int sg), l, none] = .ok (.tup [.int sg, .int (-sg)]) [some p1, some (.int (s : Nat)), c, d, some (rowsL rows), some (.lst (tree.map .int)), g, h1, i8, some (.int (i : Nat)), some (.int (j : Nat)), some (.int sg), l, none] := ar_ok (cons_ok rfl (cons_ok rfl rfl)) (dTupD_ok (by simp))
  have eU : uT 2 (uC (uIx2 4 (dVar 9) (dVar 10)) (uC (uIx2 4 (dVar 10) (dVar 9)) uN)) (.tup [.int sg, .int (-sg)]) [some p1, some (.int (s : Nat)), c, d, some (rowsL rows), some (.lst (tree.map .int)), g, h1, i8, some (.int (i : Nat)), some (.int (j : Nat)), some (.int sg), l, none] = .ok () [some p1, some (.int (s : Nat)), c, d, some (rowsL (setRC (setRC rows i j sg) j i (-sg))), some (.lst (tree.map .int)), g, h1, i8, some (.int (i : Nat)), some (.int (j : Nat)), some (.int sg), l, none] := by
    simp only [uT, uC, uN, List.length_cons, List.length_nil, if_true, u1, u2, e_bind_ok]
  refine (seq_next (set_ok e1)).trans ?_
  refine (seq_next (asg_ok eT eU)).trans ?_
  have r1 : dRng1 (dCons (dVar 1) dNil) [some p1, some (.int (s : Nat)), c, d, some (rowsL (setRC (setRC rows i j sg) j i (-sg))), some (.lst (tree.map .int)), g, h1, i8, some (.int (i : Nat)), some (.int (j : Nat)), some (.int sg), l, none] = .ok (rangeD 0 s) [some p1, some (.int (s : Nat)), c, d, some (rowsL (setRC (setRC rows i j sg) j i (-sg))), some (.lst (tree.map .int)), g, h1, i8, some (.int (i : Nat)), some (.int (j : Nat)), some (.int sg), l, none] := rng1_ok rfl (by omega)
  exact set_ok (lc_ok r1 e3)

theorem ties_loop {n s : Nat} {p : D} {c d g h1 i8 i0 j0 k0 l : Option D} {rows : List (List Int)} {tree : List Int} {ties : List (Nat × Nat)} (h : Pen n p) (hn : n + ties.length < 1000000) (hs : s < 1000) (R : IsRows s rows) (ht : tree.length = s) (T : ∀ t ∈ ties, t.1 < s ∧ t.2 < s) :
    ∃ (rows' : List (List Int)) (tree' : List Int) (p' : D) (i' j' k' : Option D), IsRows s rows' ∧ tree'.length = s ∧ Pen (n + ties.length) p' ∧
      forD (gT 2 (gC (gV 9) (gC (gV 10) gN))) fTie (ties.map pairD) [some p, some (.int (s : Nat)), c, d, some (rowsL rows), some (.lst (tree.map .int)), g, h1, i8, i0, j0, k0, l, none] = .next [some p', some (.int (s : Nat)), c, d, some (rowsL rows'), some (.lst (tree'.map .int)), g, h1, i8, i', j', k', l, none] := by
  obtain ⟨δ', e1, rows', tree', p', i', j', k', rfl, R', ht', hp'⟩ := forD_inv (s := gT 2 (gC (gV 9) (gC (gV 10) gN))) (body := fTie)
    (fun q δ => ∃ (rows' : List (List Int)) (tree' : List Int) (p' : D) (i' j' k' : Option D), δ = [some p', some (.int (s : Nat)), c, d, some (rowsL rows'), some (.lst (tree'.map .int)), g, h1, i8, i', j', k', l, none] ∧ IsRows s rows' ∧ tree'.length = s ∧ Pen (n + q) p') (ties.map pairD) [some p, some (.int (s : Nat)), c, d, some (rowsL rows), some (.lst (tree.map .int)), g, h1, i8, i0, j0, k0, l, none]
    ⟨rows, tree, p, i0, j0, k0, rfl, R, ht, h⟩ (by
      rintro q x δ hx ⟨rows', tree', p', i', j', k', rfl, R', ht', hp'⟩
      rw [List.getElem?_map] at hx
      cases et : ties[q]? with
      | none => rw [et] at hx; cases hx
      | some t =>
        rw [et] at hx
        cases hx
        have hq : q < ties.length := (List.getElem?_eq_some_iff.mp et).1
        obtain ⟨t1, t2⟩ := T t (List.mem_of_getElem? et)
        obtain ⟨r2, tr2, p2, k2, h5, h6, h7, h8⟩ := tie_step (c := c) (d := d) (g := g) (h1 := h1) (i8 := i8) (k := k') (l := l) hp' (by omega) hs R' ht' t1 t2
        exact ⟨_, rfl, _, .inl h8, r2, tr2, p2, _, _, _, rfl, h5, h6, h7⟩)
  rw [List.length_map] at hp'
  exact ⟨rows', tree', p', i', j', k', R', ht', hp', e1⟩
abbrev fLap : DS := dSeq (dAsg (dAr dTupD (dCons (dCallIO 0 1 fn__law_draw (dCons (dVar 1) dNil)) (dCons (dCallIO 0 1 fn__law_draw (dCons (dVar 1) dNil)) dNil))) (uT 2 (uC (uV 9) (uC (uV 10) uN)))) (dIf (dTst asB (dBin ltD (dBin idxD (dVar 5) (dVar 9)) (dBin idxD (dVar 5) (dVar 10)))) (dAsg (dBin subD (dC (.int 1)) (dBin mulD (dC (.int 2)) (dCallIO 0 1 fn__law_draw (dCons (dC (.int 2)) dNil)))) (uIx2 4 (dVar 9) (dVar 10))) dSkip)
theorem lap_step {n s : Nat} {p : D} {c d g h1 i8 i0 j0 k l m : Option D} {rows : List (List Int)} {tree : List Int} (h : Pen n p) (hn : n + 3 < 1000000) (hs : 1 ≤ s ∧ s < 1000) (R : IsRows s rows) (ht : tree.length = s) :
    ∃ (rows' : List (List Int)) (p' : D) (i' j' : Option D), IsRows s rows' ∧ Pen (n + 3) p' ∧
      fLap [some p, some (.int (s : Nat)), c, d, some (rowsL rows), some (.lst (tree.map .int)), g, h1, i8, i0, j0, k, l, m] = .next [some p', some (.int (s : Nat)), c, d, some (rowsL rows'), some (.lst (tree.map .int)), g, h1, i8, i', j', k, l, m] := by
  obtain ⟨i, p1, hi, hp1, e1⟩ := drawV_ok (k := 1) (s := s) (r := [some (.int (s : Nat)), c, d, some (rowsL rows), some (.lst (tree.map .int)), g, h1, i8, i0, j0, k, l, m]) h (by omega) (by omega) rfl
  obtain ⟨j, p2, hj, hp2, e2⟩ := drawV_ok (k := 1) (s := s) (r := [some (.int (s : Nat)), c, d, some (rowsL rows), some (.lst (tree.map .int)), g, h1, i8, i0, j0, k, l, m]) hp1 (by omega) (by omega) rfl
  have eT : dAr dTupD (dCons (dCallIO 0 1 fn__law_draw (dCons (dVar 1) dNil)) (dCons (dCallIO 0 1 fn__law_draw (dCons (dVar 1) dNil)) dNil)) [some p, some (.int (s : Nat)), c, d, some (rowsL rows), some (.lst (tree.map .int)), g, h1, i8, i0, j0, k, l, m] = .ok (.tup [.int (i : Nat), .int (j : Nat)]) [some p2, some (.int (s : Nat)), c, d, some (rowsL rows), some (.lst (tree.map .int)), g, h1, i8, i0, j0, k, l, m] := ar_ok (cons_ok e1 (cons_ok e2 rfl)) (dTupD_ok (by simp))
  have eU : uT 2 (uC (uV 9) (uC (uV 10) uN)) (.tup [.int (i : Nat), .int (j : Nat)]) [some p2, some (.int (s : Nat)), c, d, some (rowsL rows), some (.lst (tree.map .int)), g, h1, i8, i0, j0, k, l, m] = .ok () [some p2, some (.int (s : Nat)), c, d, some (rowsL rows), some (.lst (tree.map .int)), g, h1, i8, some (.int (i : Nat)), some (.int (j : Nat)), k, l, m] := by
    simp only [uT, uC, uN, uV, List.length_cons, List.length_nil, if_true, e_bind_ok, List.set_cons_succ, List.set_cons_zero]
  have i1 := idx_ints (l := tree) (i := i) (by omega)
  have i2 := idx_ints (l := tree) (i := j) (by omega)
  have tt := tst_ok (tr := asB) (bin_ok (op := ltD) (f := dBin idxD (dVar 5) (dVar 9)) (g := dBin idxD (dVar 5) (dVar 10)) (δ := [some p2, some (.int (s : Nat)), c, d, some (rowsL rows), some (.lst (tree.map .int)), g, h1, i8, some (.int (i : Nat)), some (.int (j : Nat)), k, l, m]) (bin_ok rfl rfl i1) (bin_ok rfl rfl i2) e_cmp) rfl
  generalize (decide (tree[i] < tree[j])) = b at tt
  cases b with
  | false =>
    refine ⟨rows, p2, some (.int (i : Nat)), some (.int (j : Nat)), R, hp2.le (by omega), ?_⟩
    exact (seq_next (asg_ok eT eU)).trans (if_f tt)
  | true =>
    obtain ⟨sg, p3, hsg, hp3, e3⟩ := sign_ok (r := [some (.int (s : Nat)), c, d, some (rowsL rows), some (.lst (tree.map .int)), g, h1, i8, some (.int (i : Nat)), some (.int (j : Nat)), k, l, m]) hp2 (by omega)
    have u1 := uIx2_ok (k := 4) (x := sg) (f := dVar 9) (g := dVar 10) (a := (i : Nat)) (b := (j : Nat)) R (δ := [some p3, some (.int (s : Nat)), c, d, some (rowsL rows), some (.lst (tree.map .int)), g, h1, i8, some (.int (i : Nat)), some (.int (j : Nat)), k, l, m]) rfl rfl rfl rfl rfl (by omega) (by omega) (by omega) (by omega)
    simp only [List.set_cons_succ, List.set_cons_zero, Int.toNat_natCast] at u1
    exact ⟨_, p3, some (.int (i : Nat)), some (.int (j : Nat)), R.set hi hsg.1 hsg.2, hp3, (seq_next (asg_ok eT eU)).trans ((if_t tt).trans (asg_ok e3 u1))⟩

theorem laps_loop {n s cnt : Nat} {p : D} {c d g h1 i8 i0 j0 k l m : Option D} {rows : List (List Int)} {tree : List Int} (h : Pen n p) (hn : n + cnt * 3 < 1000000) (hs : 1 ≤ s ∧ s < 1000) (R : IsRows s rows) (ht : tree.length = s) :
    ∃ (rows' : List (List Int)) (p' : D) (g' i' j' : Option D), IsRows s rows' ∧ Pen (n + cnt * 3) p' ∧
      forD (gV 6) fLap (rangeD 0 cnt) [some p, some (.int (s : Nat)), c, d, some (rowsL rows), some (.lst (tree.map .int)), g, h1, i8, i0, j0, k, l, m] = .next [some p', some (.int (s : Nat)), c, d, some (rowsL rows'), some (.lst (tree.map .int)), g', h1, i8, i', j', k, l, m] := by
  obtain ⟨δ', e1, rows', p', g', i', j', rfl, R', hp'⟩ := forD_inv (s := gV 6) (body := fLap)
    (fun q δ => ∃ (rows' : List (List Int)) (p' : D) (g' i' j' : Option D), δ = [some p', some (.int (s : Nat)), c, d, some (rowsL rows'), some (.lst (tree.map .int)), g', h1, i8, i', j', k, l, m] ∧ IsRows s rows' ∧ Pen (n + q * 3) p') (rangeD 0 cnt) [some p, some (.int (s : Nat)), c, d, some (rowsL rows), some (.lst (tree.map .int)), g, h1, i8, i0, j0, k, l, m]
    ⟨rows, p, g, i0, j0, rfl, R, by simpa using h⟩ (by
      rintro q x δ hx ⟨rows', p', g', i', j', rfl, R', hp'⟩
      obtain ⟨hq, rfl⟩ := get_range hx
      obtain ⟨r2, p2, i2, j2, h5, h6, h7⟩ := lap_step (c := c) (d := d) (g := some (.int (q : Nat))) (h1 := h1) (i8 := i8) (i0 := i') (j0 := j') (k := k) (l := l) (m := m) hp' (by omega) hs R' ht
      exact ⟨_, rfl, _, .inl h7, r2, p2, _, _, _, rfl, h5, by rw [show n + (q + 1) * 3 = n + q * 3 + 3 by omega]; exact h6⟩)
  rw [len_range] at hp'
  exact ⟨rows', p', g', i', j', R', hp', e1⟩
theorem rangeD_ints (s : Nat) : rangeD 0 s = ((List.range s).map fun i : Nat => (i : Int)).map D.int := by rw [rangeD_nat, List.map_map]; rfl
theorem forest_ok {n s : Nat} {p : D} (h : Pen n p) (hn : n + 1000 * 10 + s * s < 900000) (hs : 1 ≤ s ∧ s < 1000) : ∃ (rows : List (List Int)) (p' : D), IsRows s rows ∧ Pen (n + 4 * s + s * s + 20) p' ∧ fn__law_forest_rows [p, .int (s : Nat)] = .ok (rowsL rows) [some p', some (.int (s : Nat))] := by
  obtain ⟨ties, p1, T, hp1, e1⟩ := ties_ok h (by omega) hs
  have c1 : dCallIO 0 1 fn__law_tree_ties (dCons (dVar 1) dNil) (some p :: [some (.int (s : Nat)), none, none, none, none, none, none, none, none, none, none, none, none]) = .ok (.lst (ties.map pairD)) (some p1 :: [some (.int (s : Nat)), none, none, none, none, none, none, none, none, none, none, none, none]) := callIO_ok rfl rfl e1
  have hTl := T.len
  obtain ⟨t2, p2, T2, hp2, e2⟩ := some_ties (b := some (.int (s : Nat))) (c := none) (d := none) (e := none) (f := none) (g := none) (h1 := none) (i := none) (j := none) (k := none) (l := none) (m := none) hp1 (by omega) T hs.2
  have c2 : dLc [12] (dSeqI (dCallIO 0 1 fn__law_tree_ties (dCons (dVar 1) dNil))) (gV 12) (dTst asB (dBin gtD (dCallIO 0 1 fn__law_draw (dCons (dC (.int 6)) dNil)) (dC (.int 0)))) (dVar 12) [some p, some (.int (s : Nat)), none, none, none, none, none, none, none, none, none, none, none, none] = .ok (.lst (t2.map pairD)) _ := lc_ok (xs := ties.map pairD) (δ1 := [some p1, some (.int (s : Nat)), none, none, none, none, none, none, none, none, none, none, none, none]) (by rw [e_dSeqI, c1]; rfl) e2
  obtain ⟨much, p3, hM, hp3, e3⟩ := much_ok (r := [some (.int (s : Nat)), some (.lst (t2.map pairD)), none, none, none, none, none, none, none, none, none, none, none]) hp2 (by omega)
  obtain ⟨rows, p4, R, hp4, e4⟩ := frows_ok (c := some (.lst (t2.map pairD))) (e := none) (f := none) (g := none) (h1 := none) (i8 := none) (j0 := none) (k := none) (l := none) (m := none) (p := p3) hp3 (by omega) hM hs.2
  obtain ⟨b, hb⟩ := diag_ok (a := some p4) (c := some (.lst (t2.map pairD))) (d := some much) (f := none) (g := none) (h1 := none) (i8 := none) (j0 := none) (k := none) (l := none) (m := none) R hs.2
  -- the spared place
  have spare : ∃ (rows5 : List (List Int)) (p5 : D) (x8 : Option D), IsRows s rows5 ∧ Pen (n + 2 * s + 1 + ties.length + 1 + s * s + 2) p5 ∧ dIf (dTst truth (dBor .sh (dAr allD (dCons dDiag dNil)))) (dSeq (dLine 4 7 8 (dCallIO 0 1 fn__law_draw (dCons (dVar 1) dNil)) (dCallIO 0 1 fn__law_draw (dCons (dVar 1) dNil))) (dAsg (dUn negD (dC (.int 1))) (uIx2 4 (dVar 8) (dVar 8)))) dSkip
      [some p4, some (.int (s : Nat)), some (.lst (t2.map pairD)), some much, some (rowsL rows), none, none, none, none, none, none, none, none, none] = .next [some p5, some (.int (s : Nat)), some (.lst (t2.map pairD)), some much, some (rowsL rows5), none, none, none, x8, none, none, none, none, none] := by
    cases b with
    | false => exact ⟨rows, p4, none, R, hp4.le (by omega), (if_f hb).trans rfl⟩
    | true =>
      obtain ⟨y, p5, hy, hp5, e5⟩ := line_ok (c := some (.lst (t2.map pairD))) (d := some much) (f := none) (g := none) (h1 := none) (i8 := none) (i := none) (j := none) (k := none) (l := none) (m := none) hp4 (by omega) hs R
      have u1 := uIx2_ok (k := 4) (x := -1) (f := dVar 8) (g := dVar 8) (a := (y : Nat)) (b := (y : Nat)) R (δ := [some p5, some (.int (s : Nat)), some (.lst (t2.map pairD)), some much, some (rowsL rows), none, none, none, some (.int (y : Nat)), none, none, none, none, none]) rfl rfl rfl rfl rfl (by omega) (by omega) (by omega) (by omega)
      simp only [List.set_cons_succ, List.set_cons_zero, Int.toNat_natCast] at u1
      exact ⟨_, p5, some (.int (y : Nat)), R.set hy (by decide) (by decide), hp5, (if_t hb).trans ((seq_next e5).trans (asg_ok rfl u1))⟩
  obtain ⟨rows5, p5, x8, R5, hp5, e5⟩ := spare
  obtain ⟨rows6, tree6, p6, i6, j6, k6, R6, ht6, hp6, e6⟩ := ties_loop (c := some (.lst (t2.map pairD))) (d := some much) (g := none) (h1 := none) (i8 := x8) (i0 := none) (j0 := none) (k0 := none) (l := none) (tree := (List.range s).map fun i : Nat => (i : Int)) hp5 (by have := T2.len; omega) hs.2 R5 (by simp) T2.lt
  obtain ⟨cnt, p7, hcnt, hp7, e7⟩ := drawC_ok (c := 3) (r := [some (.int (s : Nat)), some (.lst (t2.map pairD)), some much, some (rowsL rows6), some (.lst (tree6.map .int)), none, none, x8, i6, j6, k6, none, none]) hp6 (by have := T2.len; omega) (by decide)
  obtain ⟨rows8, p8, g8, i8', j8, R8, hp8, e8⟩ := laps_loop (cnt := cnt) (c := some (.lst (t2.map pairD))) (d := some much) (g := none) (h1 := none) (i8 := x8) (i0 := i6) (j0 := j6) (k := k6) (l := none) (m := none) hp7 (by have := T2.len; omega) hs R6 ht6
  have hT2 := T2.len
  refine ⟨rows8, p8, R8, hp8.le (by omega), ?_⟩
  have r7 : dRng1 (dCons (dCallIO 0 1 fn__law_draw (dCons (dC (.int 3)) dNil)) dNil) [some p6, some (.int (s : Nat)), some (.lst (t2.map pairD)), some much, some (rowsL rows6), some (.lst (tree6.map .int)), none, none, x8, i6, j6, k6, none, none] = .ok (rangeD 0 cnt) [some p7, some (.int (s : Nat)), some (.lst (t2.map pairD)), some much, some (rowsL rows6), some (.lst (tree6.map .int)), none, none, x8, i6, j6, k6, none, none] := e_rng1 (cons_ok e7 rfl) (by omega) (by omega)
  have r3 : dRng1 (dCons (dVar 1) dNil) [some p3, some (.int (s : Nat)), some (.lst (t2.map pairD)), some much, none, none, none, none, none, none, none, none, none, none] = .ok (rangeD 0 s) [some p3, some (.int (s : Nat)), some (.lst (t2.map pairD)), some much, none, none, none, none, none, none, none, none, none, none] := rng1_ok rfl (by omega)
  have l5 : dLRg1 (dVar 1) [some p5, some (.int (s : Nat)), some (.lst (t2.map pairD)), some much, some (rowsL rows5), none, none, none, x8, none, none, none, none, none] = .ok (.lst (((List.range s).map fun i : Nat => (i : Int)).map D.int)) [some p5, some (.int (s : Nat)), some (.lst (t2.map pairD)), some much, some (rowsL rows5), none, none, none, x8, none, none, none, none, none] := by rw [lrg_ok (s := s) rfl (by omega), rangeD_ints]
  refine dFnIO_ret (δ0 := [some p, some (.int (s : Nat)), none, none, none, none, none, none, none, none, none, none, none, none]) (δ := [some p8, some (.int (s : Nat)), some (.lst (t2.map pairD)), some much, none, some (.lst (tree6.map .int)), g8, none, x8, i8', j8, k6, none, none]) rfl ?_ rfl
  unfold d__law_forest_rows
  refine (seq_next (set_ok c2)).trans ?_
  refine (seq_next (set_ok e3)).trans ?_
  refine (seq_next (set_ok (lc_ok r3 e4))).trans ?_
  refine (seq_next e5).trans ?_
  refine (seq_next (set_ok l5)).trans ?_
  refine (seq_next (for_ok rfl e6)).trans ?_
  refine (seq_next (for_ok r7 e8)).trans ?_
  rfl

/-- rows of picks: way 0 -/
abbrev wRow : DE := dAr tupOf (dCons (dLc [9] (dRng1 (dCons (dVar 1) dNil)) (gV 9) dYes (dCallIO 0 1 fn__law_pick (dCons (dVar 4) dNil))) dNil)
theorem wrow_ok {n s : Nat} {p much : D} {c d f g h1 i8 : Option D} (h : Pen n p) (hn : n + s < 1000000) (hm : IsMuch much) (hs : s < 1000) :
    ∃ (row : List Int) (p' : D), (row.length = s ∧ ∀ x ∈ row, -1 ≤ x ∧ x ≤ 1) ∧ Pen (n + s) p' ∧ wRow [some p, some (.int (s : Nat)), c, d, some much, f, g, h1, i8, none] = .ok (.tup (row.map .int)) [some p', some (.int (s : Nat)), c, d, some much, f, g, h1, i8, none] := by
  obtain ⟨L, δe, e1, row, p', rfl, rfl, hp, hl, hx⟩ := lcD_inv (vs := [9]) (s := gV 9) (t := dYes) (f := dCallIO 0 1 fn__law_pick (dCons (dVar 4) dNil))
    (fun q acc δ => ∃ (row : List Int) (p' : D), acc = row.map .int ∧ δ = [some p', some (.int (s : Nat)), c, d, some much, f, g, h1, i8, none] ∧ Pen (n + q) p' ∧ row.length = q ∧ ∀ x ∈ row, -1 ≤ x ∧ x ≤ 1) (rangeD 0 s) 0 [] [some p, some (.int (s : Nat)), c, d, some much, f, g, h1, i8, none] ⟨[], p, rfl, rfl, h, rfl, fun _ z => by cases z⟩ (by
      rintro q x acc δ hx ⟨row, p', rfl, rfl, hp, hl, hr⟩
      rw [Nat.zero_add] at hp hl
      obtain ⟨hq, rfl⟩ := get_range hx
      have hz := sizeLine_big
      obtain ⟨y, p'', hy, hp2, e2⟩ := pickM_ok (k := 4) (r := [some (.int (s : Nat)), c, d, some much, f, g, h1, i8, some (.int (q : Nat))]) hp (by omega) hm rfl
      exact ⟨_, rfl, true, _, rfl, fun _ => ⟨.int y, _, e2, by rw [List.length_map]; omega, row ++ [y], p'', by simp, rfl, by rw [Nat.zero_add]; exact hp2, by simp [hl], fun z hz => by
          rcases List.mem_append.mp hz with a | a
          · exact hr z a
          · rw [List.mem_singleton.mp a]; exact hy⟩, fun z => by cases z⟩)
  rw [Nat.zero_add, len_range] at hp hl
  have r1 : dRng1 (dCons (dVar 1) dNil) [some p, some (.int (s : Nat)), c, d, some much, f, g, h1, i8, none] = .ok (rangeD 0 s) [some p, some (.int (s : Nat)), c, d, some much, f, g, h1, i8, none] := rng1_ok rfl (by omega)
  have c1 : dLc [9] (dRng1 (dCons (dVar 1) dNil)) (gV 9) dYes (dCallIO 0 1 fn__law_pick (dCons (dVar 4) dNil)) [some p, some (.int (s : Nat)), c, d, some much, f, g, h1, i8, none] = .ok (.lst (row.map .int)) [some p', some (.int (s : Nat)), c, d, some much, f, g, h1, i8, none] := lc_ok r1 e1
  exact ⟨row, p', ⟨hl, hx⟩, hp, ar_ok (cons_ok c1 e_dNil) rfl⟩
theorem wrows_ok {n s : Nat} {p much : D} {c d f h1 i8 : Option D} (h : Pen n p) (hn : n + s * s < 1000000) (hm : IsMuch much) (hs : s < 1000) :
    ∃ (rows : List (List Int)) (p' : D), IsRows s rows ∧ Pen (n + s * s) p' ∧ dAr tupOf (dCons (dLc [6] (dRng1 (dCons (dVar 1) dNil)) (gV 6) dYes wRow) dNil) [some p, some (.int (s : Nat)), c, d, some much, f, none, h1, i8, none] = .ok (rowsT rows) [some p', some (.int (s : Nat)), c, d, some much, f, none, h1, i8, none] := by
  obtain ⟨L, δe, e1, rows, p', rfl, rfl, hp, hl, hx⟩ := lcD_inv (vs := [6]) (s := gV 6) (t := dYes) (f := wRow)
    (fun q acc δ => ∃ (rows : List (List Int)) (p' : D), acc = rows.map (fun r => .tup (r.map .int)) ∧ δ = [some p', some (.int (s : Nat)), c, d, some much, f, none, h1, i8, none] ∧ Pen (n + q * s) p' ∧ rows.length = q ∧ ∀ r ∈ rows, r.length = s ∧ ∀ x ∈ r, -1 ≤ x ∧ x ≤ 1) (rangeD 0 s) 0 [] [some p, some (.int (s : Nat)), c, d, some much, f, none, h1, i8, none] ⟨[], p, rfl, rfl, by simpa using h, rfl, fun _ z => by cases z⟩ (by
      rintro q x acc δ hx ⟨rows, p', rfl, rfl, hp, hl, hr⟩
      rw [Nat.zero_add] at hp hl
      obtain ⟨hq, rfl⟩ := get_range hx
      have hz := sizeLine_big
      have hqs : q * s + s ≤ s * s := by
        have : (q + 1) * s ≤ s * s := Nat.mul_le_mul_right s hq
        rw [Nat.add_mul, Nat.one_mul] at this
        exact this
      obtain ⟨row, p'', hrow, hp2, e2⟩ := wrow_ok (c := c) (d := d) (f := f) (g := some (.int (q : Nat))) (h1 := h1) (i8 := i8) hp (by omega) hm hs
      refine ⟨_, rfl, true, _, rfl, fun _ => ⟨.tup (row.map .int), _, e2, by rw [List.length_map]; omega, rows ++ [row], p'', by simp, rfl, ?_, by simp [hl], fun z hz => ?_⟩, fun z => by cases z⟩
      · rw [Nat.zero_add, show n + (q + 1) * s = n + q * s + s by rw [Nat.add_mul]; omega]; exact hp2
      · rcases List.mem_append.mp hz with a | a
        · exact hr z a
        · rw [List.mem_singleton.mp a]; exact hrow)
  rw [Nat.zero_add, len_range] at hp hl
  have r1 : dRng1 (dCons (dVar 1) dNil) [some p, some (.int (s : Nat)), c, d, some much, f, none, h1, i8, none] = .ok (rangeD 0 s) [some p, some (.int (s : Nat)), c, d, some much, f, none, h1, i8, none] := rng1_ok rfl (by omega)
  have c1 : dLc [6] (dRng1 (dCons (dVar 1) dNil)) (gV 6) dYes wRow [some p, some (.int (s : Nat)), c, d, some much, f, none, h1, i8, none] = .ok (.lst (rows.map fun r => .tup (r.map .int))) [some p', some (.int (s : Nat)), c, d, some much, f, none, h1, i8, none] := lc_ok r1 e1
  exact ⟨rows, p', ⟨hl, hx⟩, hp, ar_ok (cons_ok c1 e_dNil) tupOf_rows⟩

/-- for i in range(size): rows[i][i] = -1 if i == spared else 0 -/
abbrev wSpare : DS := dAsg (dIte (dTst asB (dBin (eqD false) (dVar 6) (dVar 5))) (dUn negD (dC (.int 1))) (dC (.int 0))) (uIx2 3 (dVar 6) (dVar 6))
theorem spare_loop {s : Nat} {a c d g h1 i8 j9 : Option D} {sp : Int} {rows : List (List Int)} {x6 : Option D} (hs : s < 1000) (R : IsRows s rows) :
    ∃ (rows' : List (List Int)) (x' : Option D), IsRows s rows' ∧ forD (gV 6) wSpare (rangeD 0 s) [a, some (.int (s : Nat)), c, some (rowsL rows), d, some (.int sp), x6, g, h1, i8] = .next [a, some (.int (s : Nat)), c, some (rowsL rows'), d, some (.int sp), x', g, h1, i8] := by
  obtain ⟨δ', e1, rows', x', rfl, R'⟩ := forD_inv (s := gV 6) (body := wSpare)
    (fun q δ => ∃ (rows' : List (List Int)) (x' : Option D), δ = [a, some (.int (s : Nat)), c, some (rowsL rows'), d, some (.int sp), x', g, h1, i8] ∧ IsRows s rows') (rangeD 0 s) [a, some (.int (s : Nat)), c, some (rowsL rows), d, some (.int sp), x6, g, h1, i8] ⟨rows, x6, rfl, R⟩ (by
      rintro q x δ hx ⟨rows', x', rfl, R'⟩
      obtain ⟨hq, rfl⟩ := get_range hx
      have ht : dTst asB (dBin (eqD false) (dVar 6) (dVar 5)) [a, some (.int (s : Nat)), c, some (rowsL rows'), d, some (.int sp), some (.int (q : Nat)), g, h1, i8] = .ok (((q : Nat) : Int) == sp) [a, some (.int (s : Nat)), c, some (rowsL rows'), d, some (.int sp), some (.int (q : Nat)), g, h1, i8] := tst_ok (bin_ok rfl rfl e_eq_int) rfl
      have fin : ∃ v : Int, (-1 ≤ v ∧ v ≤ 1) ∧ dIte (dTst asB (dBin (eqD false) (dVar 6) (dVar 5))) (dUn negD (dC (.int 1))) (dC (.int 0)) [a, some (.int (s : Nat)), c, some (rowsL rows'), d, some (.int sp), some (.int (q : Nat)), g, h1, i8] = .ok (.int v) [a, some (.int (s : Nat)), c, some (rowsL rows'), d, some (.int sp), some (.int (q : Nat)), g, h1, i8] := by
        generalize (((q : Nat) : Int) == sp) = b at ht
        cases b with
        | true => exact ⟨-1, by decide, (ite_t ht).trans rfl⟩
        | false => exact ⟨0, by decide, (ite_f ht).trans rfl⟩
      obtain ⟨v, hv, ev⟩ := fin
      have u1 := uIx2_ok (k := 3) (x := v) (f := dVar 6) (g := dVar 6) (a := (q : Nat)) (b := (q : Nat)) R' (δ := [a, some (.int (s : Nat)), c, some (rowsL rows'), d, some (.int sp), some (.int (q : Nat)), g, h1, i8]) rfl rfl rfl rfl rfl (by omega) (by omega) (by omega) (by omega)
      simp only [List.set_cons_succ, List.set_cons_zero, Int.toNat_natCast] at u1
      exact ⟨_, rfl, _, .inl (asg_ok ev u1), _, _, rfl, R'.set hq hv.1 hv.2⟩)
  exact ⟨rows', x', R', e1⟩
/-- for lap in range(way): rows[draw(size)][draw(size)] = draw(3) - 1 -/
abbrev wScatter : DS := dAsg (dBin subD (dCallIO 0 1 fn__law_draw (dCons (dC (.int 3)) dNil)) (dC (.int 1))) (uIx2 3 (dCallIO 0 1 fn__law_draw (dCons (dVar 1) dNil)) (dCallIO 0 1 fn__law_draw (dCons (dVar 1) dNil)))
theorem scatter_loop {n s cnt : Nat} {p : D} {c d e5 e6 h1 i8 x7 : Option D} {rows : List (List Int)} (h : Pen n p) (hn : n + cnt * 3 < 1000000) (hs : 1 ≤ s ∧ s < 1000) (R : IsRows s rows) :
    ∃ (rows' : List (List Int)) (p' : D) (x' : Option D), IsRows s rows' ∧ Pen (n + cnt * 3) p' ∧ forD (gV 7) wScatter (rangeD 0 cnt) [some p, some (.int (s : Nat)), c, some (rowsL rows), d, e5, e6, x7, h1, i8] = .next [some p', some (.int (s : Nat)), c, some (rowsL rows'), d, e5, e6, x', h1, i8] := by
  obtain ⟨δ', e1, rows', p', x', rfl, R', hp'⟩ := forD_inv (s := gV 7) (body := wScatter)
    (fun q δ => ∃ (rows' : List (List Int)) (p' : D) (x' : Option D), δ = [some p', some (.int (s : Nat)), c, some (rowsL rows'), d, e5, e6, x', h1, i8] ∧ IsRows s rows' ∧ Pen (n + q * 3) p') (rangeD 0 cnt) [some p, some (.int (s : Nat)), c, some (rowsL rows), d, e5, e6, x7, h1, i8] ⟨rows, p, x7, rfl, R, by simpa using h⟩ (by
      rintro q x δ hx ⟨rows', p', x', rfl, R', hp'⟩
      obtain ⟨hq, rfl⟩ := get_range hx
      obtain ⟨y, p1, hy, hp1, e1⟩ := drawC_ok (c := 3) (r := [some (.int (s : Nat)), c, some (rowsL rows'), d, e5, e6, some (.int (q : Nat)), h1, i8]) hp' (by omega) (by decide)
      obtain ⟨i, p2, hi, hp2, e2⟩ := drawV_ok (k := 1) (s := s) (r := [some (.int (s : Nat)), c, some (rowsL rows'), d, e5, e6, some (.int (q : Nat)), h1, i8]) hp1 (by omega) (by omega) rfl
      obtain ⟨j, p3, hj, hp3, e3⟩ := drawV_ok (k := 1) (s := s) (r := [some (.int (s : Nat)), c, none, d, e5, e6, some (.int (q : Nat)), h1, i8]) hp2 (by omega) (by omega) rfl
      have eV : dBin subD (dCallIO 0 1 fn__law_draw (dCons (dC (.int 3)) dNil)) (dC (.int 1)) [some p', some (.int (s : Nat)), c, some (rowsL rows'), d, e5, e6, some (.int (q : Nat)), h1, i8] = .ok (.int ((y : Int) - 1)) [some p1, some (.int (s : Nat)), c, some (rowsL rows'), d, e5, e6, some (.int (q : Nat)), h1, i8] := bin_ok e1 rfl rfl
      have u1 := uIx2_ok (k := 3) (x := (y : Int) - 1) (a := (i : Nat)) (b := (j : Nat)) R' (δ := [some p1, some (.int (s : Nat)), c, some (rowsL rows'), d, e5, e6, some (.int (q : Nat)), h1, i8]) rfl e2 rfl e3 rfl (by omega) (by omega) (by omega) (by omega)
      simp only [List.set_cons_succ, List.set_cons_zero, Int.toNat_natCast] at u1
      exact ⟨_, rfl, _, .inl (asg_ok eV u1), _, p3, _, rfl, R'.set hi (by omega) (by omega), by rw [show n + (q + 1) * 3 = n + q * 3 + 1 + 1 + 1 by omega]; exact hp3⟩)
  rw [len_range] at hp'
  exact ⟨rows', p', x', R', hp', e1⟩

theorem in2_ok (w a b : Nat) : ∃ r : Bool, inTD false (.int (w : Nat)) (.tup [.int (a : Nat), .int (b : Nat)]) = some (.bl r) := by
  have h1 : okD (.int (w : Nat)) = true := rfl
  have h2 : okD (.tup [.int (a : Nat), .int (b : Nat)]) = true := rfl
  refine ⟨[D.int (a : Nat), D.int (b : Nat)].any fun z => eqv z (.int (w : Nat)), ?_⟩
  simp only [inTD, h1, h2, and_self, if_true, Bool.false_eq_true, if_false]
/-- the pick of way 0 -/
theorem much0_ok {n : Nat} {p : D} {r : List (Option D)} (h : Pen n p) (hn : n < 1000000) : ∃ (x p' : D), IsMuch x ∧ Pen (n + 1) p' ∧ dCallIO 0 1 fn__law_pick (dCons (dAr dLstD (dCons (dAr dLstD (dCons (dC (.int 0)) (dCons (dC (.int 0)) (dCons (dC (.int 1)) (dCons (dUn negD (dC (.int 1))) dNil))))) (dCons (dAr dLstD (dCons (dC (.int 0)) (dCons (dC (.int 0)) (dCons (dC (.int 0)) (dCons (dC (.int 1)) (dCons (dUn negD (dC (.int 1))) dNil)))))) (dCons (dAr dLstD (dCons (dC (.int 0)) (dCons (dUn negD (dC (.int 1))) dNil))) (dCons (dAr dLstD (dCons (dC (.int 0)) (dCons (dC (.int 0)) (dCons (dC (.int 0)) (dCons (dC (.int 0)) (dCons (dC (.int 0)) (dCons (dC (.int 1)) (dCons (dUn negD (dC (.int 1))) dNil)))))))) dNil))))) dNil) (some p :: r) = .ok x (some p' :: r) := by
  obtain ⟨x, p', hx, hp, e⟩ := pick_ok (l := [.lst (([0, 0, 1, -1] : List Int).map .int), .lst (([0, 0, 0, 1, -1] : List Int).map .int), .lst (([0, -1] : List Int).map .int), .lst (([0, 0, 0, 0, 0, 1, -1] : List Int).map .int)]) h (by omega) (by simp) (by simp)
  refine ⟨x, p', ?_, hp, callIO_ok (by simp [dLstD_ok]) rfl e⟩
  simp only [List.mem_cons, List.not_mem_nil, or_false] at hx
  rcases hx with rfl | rfl | rfl | rfl
  · exact ⟨_, rfl, by simp, by simp, fun y hy => by simp at hy; omega⟩
  · exact ⟨_, rfl, by simp, by simp, fun y hy => by simp at hy; omega⟩
  · exact ⟨_, rfl, by simp, by simp, fun y hy => by simp at hy; omega⟩
  · exact ⟨_, rfl, by simp, by simp, fun y hy => by simp at hy; omega⟩

theorem web_ok {n s : Nat} {p : D} (h : Pen n p) (hn : n + 10000 + s * s < 800000) (hs : 1 ≤ s ∧ s < 1000) : ∃ (rows : List (List Int)) (p' : D), IsRows s rows ∧ Pen (n + 4 * s + s * s + 60) p' ∧ fn__law_web_rows [p, .int (s : Nat)] = .ok (rowsT rows) [some p', some (.int (s : Nat))] := by
  obtain ⟨w, p1, hw, hp1, e1⟩ := drawC_ok (c := 8) (r := [some (.int (s : Nat)), none, none, none, none, none, none, none, none]) h (by omega) (by decide)
  have t0 : dTst asB (dBin (eqD false) (dVar 2) (dC (.int 0))) [some p1, some (.int (s : Nat)), some (.int (w : Nat)), none, none, none, none, none, none, none] = .ok (((w : Nat) : Int) == 0) [some p1, some (.int (s : Nat)), some (.int (w : Nat)), none, none, none, none, none, none, none] := tst_ok (bin_ok rfl rfl e_eq_int) rfl
  by_cases hw0 : w = 0
  · subst hw0
    obtain ⟨x, p2, hM, hp2, e2⟩ := much0_ok (r := [some (.int (s : Nat)), some (.int ((0 : Nat) : Int)), none, none, none, none, none, none, none]) hp1 (by omega)
    obtain ⟨rows, p3, R, hp3, e3⟩ := wrows_ok (c := some (.int ((0 : Nat) : Int))) (d := none) (f := none) (h1 := none) (i8 := none) hp2 (by omega) hM hs.2
    refine ⟨rows, p3, R, hp3.le (by omega), ?_⟩
    refine dFnIO_ret (δ0 := [some p, some (.int (s : Nat)), none, none, none, none, none, none, none, none]) (δ := [some p3, some (.int (s : Nat)), some (.int ((0 : Nat) : Int)), none, some x, none, none, none, none, none]) rfl ?_ rfl
    unfold d__law_web_rows
    refine (seq_next (set_ok e1)).trans ?_
    exact seq_ret ((if_t t0).trans ((seq_next (set_ok e2)).trans (ret_ok e3)))
  · have f0 : (((w : Nat) : Int) == 0) = false := beq_false_of_ne (by omega)
    rw [f0] at t0
    obtain ⟨rows, p2, R, hp2, e2⟩ := forest_ok hp1 (by omega) hs
    have c2 : dCallIO 0 1 fn__law_forest_rows (dCons (dVar 1) dNil) (some p1 :: [some (.int (s : Nat)), some (.int (w : Nat)), none, none, none, none, none, none, none]) = .ok (rowsL rows) (some p2 :: [some (.int (s : Nat)), some (.int (w : Nat)), none, none, none, none, none, none, none]) := callIO_ok rfl rfl e2
    obtain ⟨b1, hb1⟩ := in2_ok w 3 4
    obtain ⟨b2, hb2⟩ := in2_ok w 1 2
    have part1 : ∃ (rows3 : List (List Int)) (p3 : D) (x5 x6 : Option D), IsRows s rows3 ∧ Pen (n + 4 * s + s * s + 30) p3 ∧ dIf (dTst asB (dBin (inTD false) (dVar 2) (dAr dTupD (dCons (dC (.int 3)) (dCons (dC (.int 4)) dNil))))) (dSeq (dSet 5 (dIte (dTst asB (dBin (eqD false) (dCallIO 0 1 fn__law_draw (dCons (dC (.int 2)) dNil)) (dC (.int 0)))) (dVar 1) (dCallIO 0 1 fn__law_draw (dCons (dVar 1) dNil)))) (dFor (dRng1 (dCons (dVar 1) dNil)) (gV 6) wSpare)) dSkip
        [some p2, some (.int (s : Nat)), some (.int (w : Nat)), some (rowsL rows), none, none, none, none, none, none] = .next [some p3, some (.int (s : Nat)), some (.int (w : Nat)), some (rowsL rows3), none, x5, x6, none, none, none] := by
      have tt : dTst asB (dBin (inTD false) (dVar 2) (dAr dTupD (dCons (dC (.int 3)) (dCons (dC (.int 4)) dNil)))) [some p2, some (.int (s : Nat)), some (.int (w : Nat)), some (rowsL rows), none, none, none, none, none, none] = .ok b1 [some p2, some (.int (s : Nat)), some (.int (w : Nat)), some (rowsL rows), none, none, none, none, none, none] := tst_ok (bin_ok rfl (ar_ok (cons_ok rfl (cons_ok rfl rfl)) (dTupD_ok (by simp))) hb1) rfl
      cases b1 with
      | false => exact ⟨rows, p2, none, none, R, hp2.le (by omega), (if_f tt).trans rfl⟩
      | true =>
        obtain ⟨y, q, hy, hq, ey⟩ := drawC_ok (c := 2) (r := [some (.int (s : Nat)), some (.int (w : Nat)), some (rowsL rows), none, none, none, none, none, none]) hp2 (by omega) (by decide)
        have ty : dTst asB (dBin (eqD false) (dCallIO 0 1 fn__law_draw (dCons (dC (.int 2)) dNil)) (dC (.int 0))) [some p2, some (.int (s : Nat)), some (.int (w : Nat)), some (rowsL rows), none, none, none, none, none, none] = .ok (((y : Nat) : Int) == 0) [some q, some (.int (s : Nat)), some (.int (w : Nat)), some (rowsL rows), none, none, none, none, none, none] := tst_ok (bin_ok ey rfl e_eq_int) rfl
        have sp : ∃ (v : Int) (q2 : D), Pen (n + 4 * s + s * s + 30) q2 ∧ dIte (dTst asB (dBin (eqD false) (dCallIO 0 1 fn__law_draw (dCons (dC (.int 2)) dNil)) (dC (.int 0)))) (dVar 1) (dCallIO 0 1 fn__law_draw (dCons (dVar 1) dNil)) [some p2, some (.int (s : Nat)), some (.int (w : Nat)), some (rowsL rows), none, none, none, none, none, none] = .ok (.int v) [some q2, some (.int (s : Nat)), some (.int (w : Nat)), some (rowsL rows), none, none, none, none, none, none] := by
          generalize (((y : Nat) : Int) == 0) = b at ty
          cases b with
          | true => exact ⟨_, q, hq.le (by omega), (ite_t ty).trans rfl⟩
          | false =>
            obtain ⟨z, q2, hz, hq2, ez⟩ := drawV_ok (k := 1) (s := s) (r := [some (.int (s : Nat)), some (.int (w : Nat)), some (rowsL rows), none, none, none, none, none, none]) hq (by omega) (by omega) rfl
            exact ⟨_, q2, hq2.le (by omega), (ite_f ty).trans ez⟩
        obtain ⟨v, q2, hq2, ev⟩ := sp
        obtain ⟨rows', x', R', e5⟩ := spare_loop (a := some q2) (c := some (.int (w : Nat))) (d := none) (g := none) (h1 := none) (i8 := none) (j9 := none) (sp := v) (x6 := none) hs.2 R
        exact ⟨rows', q2, some (.int v), x', R', hq2, (if_t tt).trans ((seq_next (set_ok ev)).trans (for_ok (rng1_ok (s := s) rfl (by omega)) e5))⟩
    obtain ⟨rows3, p3, x5, x6, R3, hp3, ep1⟩ := part1
    have part2 : ∃ (rows4 : List (List Int)) (p4 : D) (x7 : Option D), IsRows s rows4 ∧ Pen (n + 4 * s + s * s + 54) p4 ∧ dIf (dTst asB (dBin (inTD false) (dVar 2) (dAr dTupD (dCons (dC (.int 1)) (dCons (dC (.int 2)) dNil))))) (dSeq (dFor (dRng1 (dCons (dVar 2) dNil)) (gV 7) wScatter) dSkip) dSkip
        [some p3, some (.int (s : Nat)), some (.int (w : Nat)), some (rowsL rows3), none, x5, x6, none, none, none] = .next [some p4, some (.int (s : Nat)), some (.int (w : Nat)), some (rowsL rows4), none, x5, x6, x7, none, none] := by
      have tt : dTst asB (dBin (inTD false) (dVar 2) (dAr dTupD (dCons (dC (.int 1)) (dCons (dC (.int 2)) dNil)))) [some p3, some (.int (s : Nat)), some (.int (w : Nat)), some (rowsL rows3), none, x5, x6, none, none, none] = .ok b2 [some p3, some (.int (s : Nat)), some (.int (w : Nat)), some (rowsL rows3), none, x5, x6, none, none, none] := tst_ok (bin_ok rfl (ar_ok (cons_ok rfl (cons_ok rfl rfl)) (dTupD_ok (by simp))) hb2) rfl
      cases b2 with
      | false => exact ⟨rows3, p3, none, R3, hp3.le (by omega), (if_f tt).trans rfl⟩
      | true =>
        obtain ⟨rows4, p4, x7, R4, hp4, e4⟩ := scatter_loop (cnt := w) (c := some (.int (w : Nat))) (d := none) (e5 := x5) (e6 := x6) (h1 := none) (i8 := none) (x7 := none) hp3 (by omega) hs R3
        exact ⟨rows4, p4, x7, R4, hp4.le (by omega), (if_t tt).trans ((seq_next (for_ok (rng1_ok (s := w) rfl (by omega)) e4)).trans rfl)⟩
    obtain ⟨rows4, p4, x7, R4, hp4, ep2⟩ := part2
    have c3 := rowsOut_ok (v := 8) (k := 3) (δ := [some p4, some (.int (s : Nat)), some (.int (w : Nat)), some (rowsL rows4), none, x5, x6, x7, none, none]) (rows := rows4) (by rw [R4.len]; omega) rfl rfl (fun _ => rfl) (fun _ => rfl)
    refine ⟨rows4, p4, R4, hp4.le (by omega), ?_⟩
    refine dFnIO_ret (δ0 := [some p, some (.int (s : Nat)), none, none, none, none, none, none, none, none]) (δ := [some p4, some (.int (s : Nat)), some (.int (w : Nat)), some (rowsL rows4), none, x5, x6, x7, none, none]) rfl ?_ rfl
    unfold d__law_web_rows
    refine (seq_next (set_ok e1)).trans ?_
    refine (seq_next ((if_f t0).trans rfl)).trans ?_
    refine (seq_next (set_ok c2)).trans ?_
    refine (seq_next ep1).trans ?_
    refine (seq_next ep2).trans ?_
    exact ret_ok c3

@[simp] theorem e_isi {l : List String} {tab : List (Str × Bool)} {f : DE} {δ : List (Option D)} : dIsi l tab f δ = (f δ).bind fun d δ1 => lift ((isiB l tab d).map D.bl) δ1 := rfl
theorem is_whole_int (i : Int) : fn_is_whole [.int i] = .ok (.bl true) [some (.int i)] := rfl
theorem is_whole_bl (b : Bool) : fn_is_whole [.bl b] = .ok (.bl false) [some (.bl b)] := by cases b <;> rfl
theorem is_list_tup (l : List D) : fn_is_list [.tup l] = .ok (.bl true) [some (.tup l)] := rfl
/-- what a call gives -/
theorem call_ok {n : Nat} {fn : List D → FRes} {g : DA} {d : D} {δ δ1 : List (Option D)} {ds : List D} {outs : List (Option D)} (hg : g δ = .ok ds δ1) (hn : ds.length = n) (hf : fn ds = .ok d outs) : dCall n fn g δ = .ok d δ1 := by
  unfold dCall
  rw [hg, e_bind_ok, if_pos hn, hf]

abbrev sgElt : DE := dAndV (dCall 1 fn_is_whole (dCons (dVar 2) dNil)) (dChain leD leD (dUn negD (dC (.int 1))) (dVar 2) (dC (.int 1)))
theorem sgElt_ok {x : Int} {a b : Option D} (h : -1 ≤ x ∧ x ≤ 1) : sgElt [a, b, some (.int x)] = .ok (.bl true) [a, b, some (.int x)] := by
  have c : dCall 1 fn_is_whole (dCons (dVar 2) dNil) [a, b, some (.int x)] = .ok (.bl true) [a, b, some (.int x)] := call_ok rfl rfl (is_whole_int x)
  have h1 : (decide (-1 ≤ x)) = true := decide_eq_true h.1
  have h2 : (decide (x ≤ 1)) = true := decide_eq_true h.2
  simp [c, h1, h2]
theorem is_signs_row {row : List Int} {a : Option D} (h : ∀ x ∈ row, -1 ≤ x ∧ x ≤ 1) (hl : row.length < 1000) : lcD [2] (gV 2) dYes sgElt (row.map .int) [] [a, some (.tup (row.map .int)), none] = .ok ((row.map fun _ => true).map .bl) [a, some (.tup (row.map .int)), none] := by
  have hz := sizeLine_big
  rw [lcD_map (fun _ => .bl true) (by rw [List.length_map]; omega) (fun d hd => by
    obtain ⟨x, hx, rfl⟩ := List.mem_map.mp hd
    exact ⟨_, rfl, sgElt_ok (h x hx), rfl⟩)]
  congr 1
  rw [List.map_map, List.map_map]
  rfl

abbrev sgBody : DS := dIf (dOr (dNot (dTst truth (dCall 1 fn_is_list (dCons (dVar 1) dNil)))) (dOr (dTst asB (dBin (eqD true) (dAr lenD (dCons (dVar 1) dNil)) (dAr lenD (dCons (dVar 0) dNil)))) (dNot (dTst truth (dAr allD (dCons (dLc [2] (dSeqI (dVar 1)) (gV 2) dYes sgElt) dNil)))))) (dRet (dC (.bl false))) dSkip
theorem sgBody_ok {s : Nat} {row : List Int} {rows : List (List Int)} (hr : rows.length = s) (hl : row.length = s) (h : ∀ x ∈ row, -1 ≤ x ∧ x ≤ 1) (hs : s < 1000) : sgBody [some (rowsT rows), some (.tup (row.map .int)), none] = .next [some (rowsT rows), some (.tup (row.map .int)), none] := by
  have c1 : dCall 1 fn_is_list (dCons (dVar 1) dNil) [some (rowsT rows), some (.tup (row.map .int)), none] = .ok (.bl true) [some (rowsT rows), some (.tup (row.map .int)), none] := call_ok rfl rfl (is_list_tup _)
  have c2 : dLc [2] (dSeqI (dVar 1)) (gV 2) dYes sgElt [some (rowsT rows), some (.tup (row.map .int)), none] = .ok (.lst ((row.map fun _ => true).map .bl)) [some (rowsT rows), some (.tup (row.map .int)), none] := by
    have e : dSeqI (dVar 1) [some (rowsT rows), some (.tup (row.map .int)), none] = .ok (row.map .int) [some (rowsT rows), some (.tup (row.map .int)), none] := rfl
    exact lc_ok e (is_signs_row h (by omega))
  have c3 : dAr allD (dCons (dLc [2] (dSeqI (dVar 1)) (gV 2) dYes sgElt) dNil) [some (rowsT rows), some (.tup (row.map .int)), none] = .ok (.bl true) [some (rowsT rows), some (.tup (row.map .int)), none] := ar_ok (cons_ok c2 e_dNil) (by rw [allD_bools]; congr 2; simp)
  have c4 : dTst asB (dBin (eqD true) (dAr lenD (dCons (dVar 1) dNil)) (dAr lenD (dCons (dVar 0) dNil))) [some (rowsT rows), some (.tup (row.map .int)), none] = .ok false [some (rowsT rows), some (.tup (row.map .int)), none] := by
    refine tst_ok (d := .bl false) (bin_ok (ar_ok (cons_ok rfl e_dNil) e_lenT) (ar_ok (cons_ok rfl e_dNil) e_lenT) ?_) rfl
    rw [e_ne_int]
    simp [hr, hl]
  refine (if_f (c := dOr _ _) ?_).trans rfl
  rw [e_dOr, e_dNot, tst_ok c1 rfl, e_bind_ok, e_bind_ok]
  simp only [Bool.not_true, Bool.false_eq_true, if_false]
  rw [e_dOr, c4, e_bind_ok]
  simp only [Bool.false_eq_true, if_false]
  rw [e_dNot, tst_ok c3 rfl, e_bind_ok]
  rfl

theorem is_signs_ok {s : Nat} {rows : List (List Int)} (R : IsRows s rows) (hs : 1 ≤ s ∧ s < 1000) : fn_is_signs [rowsT rows] = .ok (.bl true) [some (rowsT rows)] := by
  obtain ⟨δ', e1, x, rfl⟩ := forD_inv (s := gV 1) (body := sgBody) (fun q δ => ∃ x : Option D, δ = [some (rowsT rows), x, none]) (rows.map fun r => .tup (r.map .int)) [some (rowsT rows), none, none] ⟨none, rfl⟩ (by
    rintro q d δ hx ⟨x, rfl⟩
    rw [List.getElem?_map] at hx
    cases et : rows[q]? with
    | none => rw [et] at hx; cases hx
    | some r =>
      rw [et] at hx
      cases hx
      obtain ⟨h1, h2⟩ := R.row r (List.mem_of_getElem? et)
      exact ⟨_, rfl, _, .inl (sgBody_ok R.len h1 h2 hs.2), _, rfl⟩)
  have c1 : dCall 1 fn_is_list (dCons (dVar 0) dNil) [some (rowsT rows), none, none] = .ok (.bl true) [some (rowsT rows), none, none] := call_ok rfl rfl (is_list_tup _)
  have c4 : dTst asB (dBin (eqD false) (dAr lenD (dCons (dVar 0) dNil)) (dC (.int 0))) [some (rowsT rows), none, none] = .ok false [some (rowsT rows), none, none] := by
    refine tst_ok (d := .bl false) (bin_ok (ar_ok (cons_ok rfl e_dNil) e_lenT) rfl ?_) rfl
    rw [e_eq_int]
    have hl := R.len
    congr 2
    refine beq_false_of_ne ?_
    rw [List.length_map]
    omega
  have t1 : dOr (dNot (dTst truth (dCall 1 fn_is_list (dCons (dVar 0) dNil)))) (dTst asB (dBin (eqD false) (dAr lenD (dCons (dVar 0) dNil)) (dC (.int 0)))) [some (rowsT rows), none, none] = .ok false [some (rowsT rows), none, none] := by
    rw [e_dOr, e_dNot, tst_ok c1 rfl, e_bind_ok, e_bind_ok]
    simp only [Bool.not_true, Bool.false_eq_true, if_false]
    exact c4
  have hE : dSeqI (dVar 0) [some (rowsT rows), none, none] = .ok (rows.map fun r => .tup (r.map .int)) [some (rowsT rows), none, none] := rfl
  refine dFn_ret (δ0 := [some (rowsT rows), none, none]) (δ := [some (rowsT rows), x, none]) rfl ?_
  unfold d_is_signs
  refine (seq_next ((if_f t1).trans rfl)).trans ?_
  refine (seq_next (for_ok hE e1)).trans ?_
  exact ret_ok rfl

/-- the Web of rows -/
def webD (rows : List (List Int)) : D := .ins "Web" [("rows", rowsT rows), ("size", .int (rows.length : Nat))]
theorem tupRows_ok {v k : Nat} {δ : List (Option D)} {rows : List (List Int)} (hl : rows.length < 1000) (h3 : δ[k]? = some (some (rowsT rows))) (h4 : backD δ (wipeD δ [v]) [v] = δ) (h6 : ∀ d : D, ((wipeD δ [v]).set v (some d))[v]? = some (some d)) (h5 : ∀ d : D, wipeD ((wipeD δ [v]).set v (some d)) [v] = wipeD δ [v]) :
    dAr tupOf (dCons (dLc [v] (dSeqI (dVar k)) (gV v) dYes (dAr tupOf (dCons (dVar v) dNil))) dNil) δ = .ok (rowsT rows) δ := by
  have hz := sizeLine_big
  have e := lcD_map (vs := [v]) (s := gV v) (f := dAr tupOf (dCons (dVar v) dNil)) (δ := wipeD δ [v]) (fun d => d) (xs := rows.map fun r => .tup (r.map .int)) (by rw [List.length_map]; omega) (fun d hd => by
    obtain ⟨r, _, rfl⟩ := List.mem_map.mp hd
    refine ⟨_, rfl, ?_, h5 _⟩
    simp only [e_dAr, e_dCons, e_dVar, h6, e_bind_ok, e_dNil, tupOf, e_lift_some])
  simp only [e_dAr, e_dCons, e_dLc, e_dSeqI, e_dVar, h3, rowsT, e_bind_ok, e_items_tup, e, h4, e_dNil, tupOf, e_lift_some, List.map_id']

theorem web_init_ok {s : Nat} {rows : List (List Int)} (R : IsRows s rows) (hs : 1 ≤ s ∧ s < 1000) : fn_Web_init [.ins "Web" [], rowsT rows] = .ok .non [some (webD rows), some (rowsT rows)] := by
  have c1 : dCall 1 fn_is_signs (dCons (dVar 1) dNil) [some (.ins "Web" []), some (rowsT rows), none] = .ok (.bl true) [some (.ins "Web" []), some (rowsT rows), none] := call_ok rfl rfl (is_signs_ok R hs)
  have t1 : dNot (dTst truth (dCall 1 fn_is_signs (dCons (dVar 1) dNil))) [some (.ins "Web" []), some (rowsT rows), none] = .ok false [some (.ins "Web" []), some (rowsT rows), none] := by
    rw [e_dNot, tst_ok c1 rfl]
    rfl
  have c2 := tupRows_ok (v := 2) (k := 1) (δ := [some (.ins "Web" []), some (rowsT rows), none]) (rows := rows) (by rw [R.len]; omega) rfl rfl (fun _ => rfl) (fun _ => rfl)
  have p1 : dFPut 0 ["Web"] "rows" (dAr tupOf (dCons (dLc [2] (dSeqI (dVar 1)) (gV 2) dYes (dAr tupOf (dCons (dVar 2) dNil))) dNil)) [some (.ins "Web" []), some (rowsT rows), none] = .next [some (.ins "Web" [("rows", rowsT rows)]), some (rowsT rows), none] := by
    unfold dFPut
    rw [c2]
    rfl
  have p2 : dFPut 0 ["Web"] "size" (dAr lenD (dCons (dFldO 0 ["Web"] "rows") dNil)) [some (.ins "Web" [("rows", rowsT rows)]), some (rowsT rows), none] = .next [some (webD rows), some (rowsT rows), none] := by
    have e : dAr lenD (dCons (dFldO 0 ["Web"] "rows") dNil) [some (.ins "Web" [("rows", rowsT rows)]), some (rowsT rows), none] = .ok (.int (rows.length : Nat)) [some (.ins "Web" [("rows", rowsT rows)]), some (rowsT rows), none] := by
      refine ar_ok (cons_ok (d := rowsT rows) rfl e_dNil) ?_
      unfold rowsT
      rw [e_lenT, List.length_map]
    unfold dFPut
    rw [e]
    rfl
  refine dFnIO_next (δ0 := [some (.ins "Web" []), some (rowsT rows), none]) (δ := [some (webD rows), some (rowsT rows), none]) rfl ?_ rfl
  unfold d_Web_init
  refine (seq_next ((if_f t1).trans rfl)).trans ?_
  exact (seq_next p1).trans p2
theorem web_make_ok {s k : Nat} {rows : List (List Int)} {δ : List (Option D)} (R : IsRows s rows) (hs : 1 ≤ s ∧ s < 1000) (hk : δ[k]? = some (some (rowsT rows))) : dMake "Web" 1 fn_Web_init (dCons (dVar k) dNil) δ = .ok (webD rows) δ := by
  unfold dMake
  rw [cons_ok (d := rowsT rows) (δ1 := δ) (by rw [e_dVar, hk]) e_dNil, e_bind_ok]
  simp only [List.length_cons, List.length_nil, if_true, web_init_ok R hs]

/-! Ways over places: plain lists. -/
abbrev Way := List Nat
def cell (rows : List (List Int)) (i j : Nat) : Int := (rows.getD i []).getD j 0
def rg (a s : Nat) : List Nat := (List.range (s - a)).map fun i => a + i
def okx (rows : List (List Int)) (w : Way) (j : Nat) : Bool := !(w.contains j) && (cell rows j (w.getLastD 0) != 0)
def ext (rows : List (List Int)) (s a : Nat) (w : Way) : List Way := ((rg (a + 1) s).filter (okx rows w)).map fun j => w ++ [j]
def layL (rows : List (List Int)) (s a : Nat) : Nat → List Way
  | 0 => [[a]]
  | k + 1 => (layL rows s a k).flatMap (ext rows s a)
def layM (rows : List (List Int)) (s : Nat) : Nat → List Way
  | 0 => (List.range s).map fun a => [a]
  | k + 1 => (layM rows s k).flatMap fun w => ext rows s (w.headD 0) w
def clo (rows : List (List Int)) (w : Way) : Bool := cell rows (w.headD 0) (w.getLastD 0) != 0
def lexLt : Way → Way → Bool
  | [], [] => false
  | [], _ :: _ => true
  | _ :: _, [] => false
  | a :: x, b :: y => decide (a < b) || (a == b && lexLt x y)
theorem mem_rg {a s j : Nat} (h : j ∈ rg a s) : a ≤ j ∧ j < s := by
  unfold rg at h
  obtain ⟨i, hi, rfl⟩ := List.mem_map.mp h
  have := List.mem_range.mp hi
  omega
theorem rg_pair (a s : Nat) : (rg a s).Pairwise (· < ·) := by
  unfold rg
  rw [List.pairwise_map]
  exact List.Pairwise.imp (by intro a b h; omega) List.pairwise_lt_range
theorem mem_ext {rows : List (List Int)} {s a : Nat} {w x : Way} (h : x ∈ ext rows s a w) : ∃ j, a < j ∧ j < s ∧ x = w ++ [j] := by
  unfold ext at h
  obtain ⟨j, hj, rfl⟩ := List.mem_map.mp h
  have := mem_rg (List.mem_filter.mp hj).1
  exact ⟨j, by omega, by omega, rfl⟩
/-- the ways of a layer -/
theorem layL_mem {rows : List (List Int)} {s a : Nat} (ha : a < s) : ∀ {k : Nat} {w : Way}, w ∈ layL rows s a k → w.length = k + 1 ∧ w.headD 0 = a ∧ ∀ i ∈ w, i < s
  | 0, w, h => by
    simp only [layL, List.mem_singleton] at h
    subst h
    refine ⟨rfl, rfl, ?_⟩
    simp [ha]
  | k + 1, w, h => by
    simp only [layL, List.mem_flatMap] at h
    obtain ⟨v, hv, hw⟩ := h
    obtain ⟨h1, h2, h3⟩ := layL_mem ha hv
    obtain ⟨j, j1, j2, rfl⟩ := mem_ext hw
    refine ⟨by simp [h1], ?_, ?_⟩
    · cases v with
      | nil => simp at h1
      | cons b v => simpa using h2
    · intro i hi
      rcases List.mem_append.mp hi with q | q
      · exact h3 i q
      · rw [List.mem_singleton.mp q]; exact j2
theorem layM_eq (rows : List (List Int)) (s : Nat) : ∀ k, layM rows s k = (List.range s).flatMap fun a => layL rows s a k
  | 0 => by
    simp only [layM, layL]
    induction (List.range s) with
    | nil => rfl
    | cons a l ih => simp [ih]
  | k + 1 => by
    simp only [layM, layL]
    rw [layM_eq rows s k, List.flatMap_assoc]
    have key : ∀ l : List Nat, (∀ a ∈ l, a < s) → (l.flatMap fun a => (layL rows s a k).flatMap fun w => ext rows s (w.headD 0) w) = l.flatMap fun a => (layL rows s a k).flatMap (ext rows s a) := by
      intro l
      induction l with
      | nil => intro _; rfl
      | cons a l ih =>
        intro h
        rw [List.flatMap_cons, List.flatMap_cons, ih fun b hb => h b (List.mem_cons_of_mem _ hb)]
        congr 1
        have ha := h a (List.mem_cons_self ..)
        have k2 : ∀ ws : List Way, (∀ w ∈ ws, w ∈ layL rows s a k) → (ws.flatMap fun w => ext rows s (w.headD 0) w) = ws.flatMap (ext rows s a) := by
          intro ws
          induction ws with
          | nil => intro _; rfl
          | cons w ws ih2 =>
            intro hw
            rw [List.flatMap_cons, List.flatMap_cons, ih2 fun b hb => hw b (List.mem_cons_of_mem _ hb), (layL_mem ha (hw w (List.mem_cons_self ..))).2.1]
        exact k2 _ fun _ h => h
    exact key _ fun a ha => List.mem_range.mp ha
theorem layM_mem {rows : List (List Int)} {s k : Nat} {w : Way} (h : w ∈ layM rows s k) : w.length = k + 1 ∧ w.headD 0 < s ∧ ∀ i ∈ w, i < s := by
  rw [layM_eq, List.mem_flatMap] at h
  obtain ⟨a, ha, hw⟩ := h
  obtain ⟨h1, h2, h3⟩ := layL_mem (List.mem_range.mp ha) hw
  exact ⟨h1, by rw [h2]; exact List.mem_range.mp ha, h3⟩
theorem ext_len (rows : List (List Int)) (s a : Nat) (w : Way) : (ext rows s a w).length ≤ s := by
  unfold ext
  rw [List.length_map]
  refine Nat.le_trans (List.length_filter_le _ _) ?_
  unfold rg
  rw [List.length_map, List.length_range]
  omega
theorem flat_len {α β : Type} {f : α → List β} {n : Nat} (h : ∀ a, (f a).length ≤ n) : ∀ l : List α, (l.flatMap f).length ≤ l.length * n
  | [] => by simp
  | a :: l => by
    rw [List.flatMap_cons, List.length_append, List.length_cons, Nat.succ_mul]
    have := flat_len h l
    have := h a
    omega
theorem layM_len (rows : List (List Int)) (s : Nat) : ∀ k, (layM rows s k).length ≤ s ^ (k + 1)
  | 0 => by simp [layM]
  | k + 1 => by
    simp only [layM]
    refine Nat.le_trans (flat_len (fun w => ext_len rows s _ w) _) ?_
    rw [Nat.pow_succ]
    exact Nat.mul_le_mul_right _ (layM_len rows s k)
theorem layL_len (rows : List (List Int)) (s a : Nat) : ∀ k, (layL rows s a k).length ≤ s ^ k
  | 0 => by simp [layL]
  | k + 1 => by
    simp only [layL]
    refine Nat.le_trans (flat_len (fun w => ext_len rows s _ w) _) ?_
    rw [Nat.pow_succ]
    exact Nat.mul_le_mul_right _ (layL_len rows s a k)
theorem lex_app {x y u v : Way} (h : lexLt x y = true) (hl : x.length = y.length) : lexLt (x ++ u) (y ++ v) = true := by
  induction x generalizing y with
  | nil => cases y with
    | nil => simp [lexLt] at h
    | cons b y => simp at hl
  | cons a x ih =>
    cases y with
    | nil => simp at hl
    | cons b y =>
      simp only [lexLt, Bool.or_eq_true, Bool.and_eq_true, List.cons_append] at h ⊢
      rcases h with h | ⟨h1, h2⟩
      · exact .inl h
      · exact .inr ⟨h1, ih h2 (by simpa using hl)⟩
theorem lex_same {x : Way} {i j : Nat} (h : i < j) : lexLt (x ++ [i]) (x ++ [j]) = true := by
  induction x with
  | nil => simp [lexLt, h]
  | cons a x ih => simp [lexLt, ih]
theorem layM_lex (rows : List (List Int)) (s : Nat) : ∀ k, (layM rows s k).Pairwise fun x y => lexLt x y = true
  | 0 => by
    simp only [layM]
    rw [List.pairwise_map]
    exact List.Pairwise.imp (by intro a b h; simp [lexLt, h]) List.pairwise_lt_range
  | k + 1 => by
    simp only [layM]
    rw [List.pairwise_flatMap]
    refine ⟨fun w _ => ?_, ?_⟩
    · unfold ext
      rw [List.pairwise_map]
      exact List.Pairwise.imp (fun h => lex_same h) (List.Pairwise.filter _ (rg_pair _ _))
    · refine List.Pairwise.imp_of_mem ?_ (layM_lex rows s k)
      intro a b ha hb h x hx y hy
      obtain ⟨i, _, _, rfl⟩ := mem_ext hx
      obtain ⟨j, _, _, rfl⟩ := mem_ext hy
      exact lex_app h (by rw [(layM_mem ha).1, (layM_mem hb).1])
/-- all rounds, those with fewer places first -/
def allR (rows : List (List Int)) (s : Nat) : List Way := (List.range s).flatMap fun k => (layM rows s k).filter (clo rows)
def badW (rows : List (List Int)) (w : Way) : Bool := match w with
  | [i] => cell rows i i == 1
  | [i, j] => cell rows i j == cell rows j i
  | _ => true
theorem allR_mem {rows : List (List Int)} {s : Nat} {w : Way} (h : w ∈ allR rows s) : 1 ≤ w.length ∧ w.length ≤ s ∧ ∀ i ∈ w, i < s := by
  unfold allR at h
  rw [List.mem_flatMap] at h
  obtain ⟨k, hk, hw⟩ := h
  obtain ⟨h1, _, h3⟩ := layM_mem (List.mem_filter.mp hw).1
  have := List.mem_range.mp hk
  exact ⟨by omega, by omega, h3⟩
/-- the program's order is the law's -/
theorem allR_eq (rows : List (List Int)) (s : Nat) : allR rows s = (List.range s).flatMap fun k => (List.range s).flatMap fun a => (layL rows s a k).filter (clo rows) := by
  unfold allR
  congr 1
  funext k
  rw [layM_eq, List.filter_flatMap]
def progOK (rows : List (List Int)) (v : Way) : Bool := (List.range v.length).all fun i => !((v.take i).contains (v.getD i 0)) && (cell rows (v.getD ((i + 1) % v.length) 0) (v.getD i 0) != 0)
def lawOK (rows : List (List Int)) (v : Way) : Bool := !((List.range v.length).any fun i => (v.take i).contains (v.getD i 0)) && (List.range v.length).all fun i => cell rows (v.getD i 0) (v.getD (if i = 0 then v.length - 1 else i - 1) 0) != 0
theorem ok_same (rows : List (List Int)) (v : Way) : progOK rows v = lawOK rows v := by
  rw [Bool.eq_iff_iff]
  unfold progOK lawOK
  simp only [List.all_eq_true, Bool.and_eq_true, Bool.not_eq_true', List.any_eq_false, List.mem_range]
  constructor
  · intro h
    refine ⟨fun i hi => by simpa using (h i hi).1, fun i hi => ?_⟩
    by_cases z : i = 0
    · subst z
      rw [if_pos rfl]
      have := (h (v.length - 1) (by omega)).2
      rwa [show v.length - 1 + 1 = v.length by omega, Nat.mod_self] at this
    · rw [if_neg z]
      have := (h (i - 1) (by omega)).2
      rwa [show i - 1 + 1 = i by omega, Nat.mod_eq_of_lt hi] at this
  · rintro ⟨h1, h2⟩ i hi
    refine ⟨by simpa using h1 i hi, ?_⟩
    by_cases z : i + 1 = v.length
    · rw [z, Nat.mod_self]
      have := h2 0 (by omega)
      rw [if_pos rfl] at this
      rwa [show v.length - 1 = i by omega] at this
    · rw [Nat.mod_eq_of_lt (by omega)]
      have := h2 (i + 1) (by omega)
      rw [if_neg (by omega)] at this
      rwa [show i + 1 - 1 = i by omega] at this

/-! Tuples of places. -/
def nI (i : Nat) : D := .int (i : Nat)
def wD (w : Way) : D := .tup (w.map nI)
theorem nI_ints (w : Way) : w.map nI = (w.map fun i : Nat => (i : Int)).map .int := by rw [List.map_map]; rfl
theorem okD_tints (l : List Int) : okD (.tup (l.map .int)) = true := by
  have h : depth (.tup (l.map .int)) ≤ 64 := by simp only [depth, depthL_ints]; decide
  unfold okD
  rw [Bool.and_eq_true]
  exact ⟨by simp only [VL.plain]; exact plainL_ints l, decide_eq_true h⟩
theorem okD_way (w : Way) : okD (wD w) = true := by unfold wD; rw [nI_ints]; exact okD_tints _
theorem any_way (w : Way) (x : Nat) : ((w.map nI).any fun z => eqv z (nI x)) = w.contains x := by
  induction w with
  | nil => rfl
  | cons a w ih =>
    rw [List.map_cons, List.any_cons, ih, List.contains_cons]
    have e : eqv (nI a) (nI x) = ((a : Int) == (x : Int)) := rfl
    rw [e]
    congr 1
    rw [Bool.eq_iff_iff]
    simp only [beq_iff_eq]
    omega
theorem in_way (neg : Bool) (w : Way) (x : Nat) : inTD neg (nI x) (wD w) = some (.bl (if neg then !(w.contains x) else w.contains x)) := by
  have h1 : okD (nI x) = true := rfl
  have h2 := okD_way w
  unfold wD at h2
  unfold wD inTD
  simp only [h1, h2, and_self, if_true, any_way]
/-- the number in a row and a column -/
theorem cell_idx {s i j : Nat} {rows : List (List Int)} (R : IsRows s rows) (hi : i < s) (hj : j < s) : idxD (rowsT rows) (nI i) = some (.tup ((rows.getD i []).map .int)) ∧ idxD (.tup ((rows.getD i []).map .int)) (nI j) = some (.int (cell rows i j)) := by
  have hil : i < rows.length := by rw [R.len]; exact hi
  have hg : rows.getD i [] = rows[i] := by rw [List.getD_eq_getElem?_getD, List.getElem?_eq_getElem hil]; rfl
  have hl := (R.row _ (List.getElem_mem hil)).1
  unfold cell nI
  rw [hg]
  constructor
  · have := idx_intT (l := rows.map fun r => D.tup (r.map .int)) (i := (i : Nat)) (by omega) (by rw [List.length_map]; omega)
    unfold rowsT
    rw [this]
    simp
  · have := idx_intT (l := rows[i].map D.int) (i := (j : Nat)) (by omega) (by rw [List.length_map]; omega)
    rw [this]
    have hj2 : j < rows[i].length := by omega
    rw [List.getD_eq_getElem?_getD, List.getElem?_eq_getElem hj2]
    simp
theorem cell_ok {s i j : Nat} {e f g : DE} {δ δ1 δ2 δ3 : List (Option D)} {rows : List (List Int)} (R : IsRows s rows) (he : e δ = .ok (rowsT rows) δ1) (hf : f δ1 = .ok (nI i) δ2) (hg : g δ2 = .ok (nI j) δ3) (hi : i < s) (hj : j < s) : dBin idxD (dBin idxD e f) g δ = .ok (.int (cell rows i j)) δ3 :=
  bin_ok (bin_ok he hf (cell_idx R hi hj).1) hg (cell_idx R hi hj).2
theorem way_idx {w : Way} {i : Nat} (hi : i < w.length) : idxD (wD w) (nI i) = some (nI (w.getD i 0)) := by
  have := idx_intT (l := w.map nI) (i := (i : Nat)) (by omega) (by rw [List.length_map]; omega)
  unfold wD nI at *
  rw [this, List.getD_eq_getElem?_getD, List.getElem?_eq_getElem hi]
  simp
theorem way_last {w : Way} (hw : w ≠ []) : idxD (wD w) (.int (-1)) = some (nI (w.getLastD 0)) := by
  have hl : 0 < w.length := List.length_pos_iff.mpr hw
  have e : ixN (w.map nI).length (-1) = some (w.length - 1) := by
    unfold ixN
    rw [List.length_map, if_neg (by decide), if_pos (by omega)]
    congr 1
    omega
  show atI _ _ = _
  unfold atI
  rw [e]
  simp only [Option.bind_some]
  rw [List.getElem?_map, List.getElem?_eq_getElem (by omega)]
  have : w.getLastD 0 = w[w.length - 1] := by
    rw [List.getLastD_eq_getLast?, List.getLast?_eq_getElem?, List.getElem?_eq_getElem (by omega)]
    rfl
  rw [this]
  rfl
theorem way_head {w : Way} (hw : w ≠ []) : idxD (wD w) (.int 0) = some (nI (w.headD 0)) := by
  cases w with
  | nil => exact absurd rfl hw
  | cons a w => exact way_idx (w := a :: w) (i := 0) (Nat.succ_pos _)
/-- a value's item: an int or a bool -/
def simpleB : D → Bool
  | .int _ => true
  | .bl _ => true
  | .non => true
  | .tup _ => true
  | .lst _ => true
  | .str _ => true
  | .dct _ => true
  | _ => false
def Simple (d : D) : Prop := simpleB d = true
theorem simple_int (i : Int) : Simple (.int i) := rfl
theorem simple_bl (b : Bool) : Simple (.bl b) := rfl
theorem simple_non : Simple .non := rfl
theorem simple_tup (l : List D) : Simple (.tup l) := rfl
theorem whole_not {d : D} (h : Simple d) (h3 : ∀ i, d ≠ .int i) : fn_is_whole [d] = .ok (.bl false) [some d] := by
  cases d with
  | int i => exact absurd rfl (h3 i)
  | bl b => exact is_whole_bl b
  | frz _ => cases h
  | gh _ _ => cases h
  | ins _ _ => cases h
  | glb _ => cases h
  | _ => rfl
theorem int_or (d : D) : (∃ i, d = .int i) ∨ ∀ i, d ≠ .int i := by
  cases d with
  | int i => exact .inl ⟨i, rfl⟩
  | _ => exact .inr fun i h => by cases h
def okI (s : Nat) : D → Bool
  | .int i => decide (0 ≤ i) && decide (i < s)
  | _ => false
theorem okI_not {s : Nat} {d : D} (h : ∀ i, d ≠ .int i) : okI s d = false := by
  cases d with
  | int i => exact absurd rfl (h i)
  | _ => rfl
theorem chain_ix {s : Nat} {i : Int} {f g : DE} {δ : List (Option D)} (hf : f δ = .ok (.int i) δ) (hg : g δ = .ok (.int (s : Nat)) δ) : dChain leD ltD (dC (.int 0)) f g δ = .ok (.bl (decide (0 ≤ i) && decide (i < s))) δ := by
  have c1 : leD (.int 0) (.int i) = some (.bl (decide (0 ≤ i))) := rfl
  have c2 : ltD (.int i) (.int (s : Nat)) = some (.bl (decide (i < s))) := rfl
  rw [e_dChain, e_dC, e_bind_ok, hf, e_bind_ok, c1]
  by_cases h : 0 ≤ i
  · have h1 : decide (0 ≤ i) = true := decide_eq_true h
    simp only [h1, hg, e_bind_ok, c2, e_lift_some, Bool.true_and]
  · have h1 : decide (0 ≤ i) = false := decide_eq_false h
    simp only [h1, Bool.false_and]
theorem is_index_ok {s : Nat} {d : D} (h : Simple d) : fn_is_index [.int (s : Nat), d] = .ok (.bl (okI s d)) [some (.int (s : Nat)), some d] := by
  refine dFn_ret (δ0 := [some (.int (s : Nat)), some d]) (δ := [some (.int (s : Nat)), some d]) rfl ?_
  unfold d_is_index
  refine ret_ok ?_
  rcases int_or d with ⟨i, rfl⟩ | h3
  · have c : dCall 1 fn_is_whole (dCons (dVar 1) dNil) [some (.int (s : Nat)), some (.int i)] = .ok (.bl true) [some (.int (s : Nat)), some (.int i)] := call_ok rfl rfl (is_whole_int i)
    rw [e_dAndV, c, e_bind_ok]
    exact chain_ix rfl rfl
  · have c : dCall 1 fn_is_whole (dCons (dVar 1) dNil) [some (.int (s : Nat)), some d] = .ok (.bl false) [some (.int (s : Nat)), some d] := call_ok rfl rfl (whole_not h h3)
    rw [e_dAndV, c, e_bind_ok, okI_not h3]
    rfl
def isI : D → Bool
  | .int _ => true
  | _ => false
/-- a list of items that are places -/
theorem places_of {s : Nat} : ∀ {l : List D}, (l.all (okI s)) = true → ∃ v : Way, l = v.map nI ∧ ∀ i ∈ v, i < s
  | [], _ => ⟨[], rfl, fun i h => absurd h (List.not_mem_nil)⟩
  | d :: l, h => by
    rw [List.all_cons, Bool.and_eq_true] at h
    obtain ⟨v, rfl, hv⟩ := places_of h.2
    cases d with
    | int i =>
      have := h.1
      simp only [okI, Bool.and_eq_true, decide_eq_true_eq] at this
      refine ⟨i.toNat :: v, ?_, ?_⟩
      · rw [List.map_cons]
        congr 1
        unfold nI
        rw [Int.toNat_of_nonneg this.1]
      · intro j hj
        rcases List.mem_cons.mp hj with rfl | hj
        · omega
        · exact hv j hj
    | _ => exact absurd h.1 (by simp [okI])
/-- a loop that ends at the first place where something is wrong -/
theorem forD_all {s : D → List (Option D) → Option (List (Option D))} {body : DS} (xs : List D) (ok : Nat → Bool) (rd : D) (Inv : List (Option D) → Prop) {δ : List (Option D)} (h0 : Inv δ)
    (st : ∀ j d δ, xs[j]? = some d → Inv δ → ∃ δ1, s d δ = some δ1 ∧ ((ok j = true ∧ ∃ δ2, body δ1 = .next δ2 ∧ Inv δ2) ∨ (ok j = false ∧ ∃ δ2, body δ1 = .ret rd δ2))) :
    ((List.range xs.length).all ok = true ∧ ∃ δ', forD s body xs δ = .next δ' ∧ Inv δ') ∨ ((List.range xs.length).all ok = false ∧ ∃ δ', forD s body xs δ = .ret rd δ') := by
  refine forD_gen (fun r => ((List.range xs.length).all ok = true ∧ ∃ δ', r = .next δ' ∧ Inv δ') ∨ ((List.range xs.length).all ok = false ∧ ∃ δ', r = .ret rd δ')) (fun j δ => Inv δ ∧ ∀ i, i < j → ok i = true) xs 0 δ ⟨h0, fun i hi => absurd hi (Nat.not_lt_zero _)⟩ ?_ ?_
  · rintro j d δ hx ⟨hi, ha⟩
    obtain ⟨δ1, e1, ⟨a, δ2, e2, e3⟩ | ⟨a, δ2, e2⟩⟩ := st j d δ hx hi
    · refine ⟨δ1, e1, .inl ⟨δ2, .inl e2, e3, fun i h => ?_⟩⟩
      by_cases z : i = j
      · rw [z]; exact a
      · exact ha i (by omega)
    · refine ⟨δ1, e1, .inr (.inl ⟨rd, δ2, e2, .inr ⟨?_, δ2, rfl⟩⟩)⟩
      rw [List.all_eq_false]
      have hj : j < xs.length := by
        by_cases h : j < xs.length
        · exact h
        · rw [List.getElem?_eq_none (by omega)] at hx; cases hx
      exact ⟨j, List.mem_range.mpr hj, by rw [a]; decide⟩
  · rintro δ ⟨hi, ha⟩
    refine .inl ⟨?_, δ, rfl, hi⟩
    rw [List.all_eq_true]
    intro i h
    exact ha i (by have := List.mem_range.mp h; omega)
/-- the values tried -/
def IsVal (d : D) : Prop := (∃ l : List D, d = .tup l ∧ l.length < 100000 ∧ ∀ x ∈ l, Simple x) ∨ ∃ l : List D, d = .lst l

/-! is_round -/
theorem cut_take {l : List D} {j : Nat} (h : j ≤ l.length) : VL.cutD l none (some (j : Int)) = l.take j := by
  unfold VL.cutD
  rw [HT.sIx_none, HT.sIx_nat, List.drop_zero, Nat.min_eq_left h, Nat.sub_zero]
theorem cut_drop {l : List D} {j : Nat} (h : j ≤ l.length) : VL.cutD l (some (j : Int)) none = l.drop j := by
  unfold VL.cutD
  rw [HT.sIx_none, HT.sIx_nat, Nat.min_eq_left h, List.take_of_length_le]
  rw [List.length_drop]
  omega
abbrev vHead (el : DE) : DT := dOr (dNot (dTst truth (dIsi ["tuple"] [] (dVar 1)))) (dOr (dTst asB (dBin (eqD false) (dAr lenD (dCons (dVar 1) dNil)) (dC (.int 0)))) (dNot (dTst truth (dAr allD (dCons (dLc [3] (dSeqI (dVar 1)) (gV 3) dYes el) dNil)))))
theorem head_ok {el : DE} {w : D} {s : Nat} {l : List D} (hl : l.length < 100000) (hel : ∀ d ∈ l, el [some w, some (.tup l), none, some d] = .ok (.bl (okI s d)) [some w, some (.tup l), none, some d]) :
    vHead el [some w, some (.tup l), none, none] = .ok (((l.length : Int) == 0) || !(l.all (okI s))) [some w, some (.tup l), none, none] := by
  have hz := sizeLine_big
  have c0 : dTst truth (dIsi ["tuple"] [] (dVar 1)) [some w, some (.tup l), none, none] = .ok true [some w, some (.tup l), none, none] := tst_ok (d := .bl true) rfl rfl
  have c1 : dTst asB (dBin (eqD false) (dAr lenD (dCons (dVar 1) dNil)) (dC (.int 0))) [some w, some (.tup l), none, none] = .ok ((l.length : Int) == 0) [some w, some (.tup l), none, none] := tst_ok (bin_ok (ar_ok (cons_ok rfl e_dNil) e_lenT) rfl e_eq_int) rfl
  have e2 := lcD_map (vs := [3]) (s := gV 3) (f := el) (δ := [some w, some (.tup l), none, none]) (fun d => .bl (okI s d)) (xs := l) (by omega) (fun d hd => ⟨_, rfl, hel d hd, rfl⟩)
  have c2 : dLc [3] (dSeqI (dVar 1)) (gV 3) dYes el [some w, some (.tup l), none, none] = .ok (.lst (l.map fun d => .bl (okI s d))) [some w, some (.tup l), none, none] := by
    have e : dSeqI (dVar 1) [some w, some (.tup l), none, none] = .ok l [some w, some (.tup l), none, none] := rfl
    exact lc_ok e e2
  have c3 : dTst truth (dAr allD (dCons (dLc [3] (dSeqI (dVar 1)) (gV 3) dYes el) dNil)) [some w, some (.tup l), none, none] = .ok (l.all (okI s)) [some w, some (.tup l), none, none] := by
    refine tst_ok (d := .bl (l.all (okI s))) (ar_ok (cons_ok c2 e_dNil) ?_) rfl
    have := allD_bools (l.map (okI s))
    rw [List.map_map] at this
    refine this.trans ?_
    rw [List.all_map]
    rfl
  unfold vHead
  rw [e_dOr, e_dNot, c0, e_bind_ok, e_bind_ok]
  simp only [Bool.not_true, Bool.false_eq_true, if_false]
  rw [e_dOr, c1, e_bind_ok, e_dNot, c3, e_bind_ok]
  cases ((l.length : Int) == 0) <;> simp
theorem webD_rows (rows : List (List Int)) : fldD ["Web"] "rows" (webD rows) = some (rowsT rows) := rfl
theorem webD_size (rows : List (List Int)) : fldD ["Web"] "size" (webD rows) = some (.int (rows.length : Nat)) := rfl
theorem un_ok {op : D → Option D} {f : DE} {δ δ1 : List (Option D)} {a d : D} (e : f δ = .ok a δ1) (k : op a = some d) : dUn op f δ = .ok d δ1 := by rw [e_dUn, e, e_bind_ok, k]; rfl
theorem sli_take {f g : DE} {δ : List (Option D)} {v : Way} {j : Nat} (hj : j ≤ v.length) (hf : f δ = .ok (wD v) δ) (hg : g δ = .ok (nI j) δ) : dSli sliA f dNo0 (dPart g) δ = .ok (wD (v.take j)) δ := by
  have h : sliA (wD v) none (some (j : Int)) = some (wD (v.take j)) := by
    show some (D.tup (VL.cutD (v.map nI) none (some (j : Int)))) = _
    rw [cut_take (by rw [List.length_map]; exact hj), ← List.map_take]
    rfl
  have hp : dPart g δ = .ok (some (j : Int)) δ := by unfold dPart; rw [hg, e_bind_ok]; rfl
  have hn : dNo0 δ = .ok none δ := rfl
  unfold dSli
  rw [hf, e_bind_ok, hn, e_bind_ok, hp, e_bind_ok, h]
  rfl
abbrev inPre : DT := dTst asB (dBin (inTD false) (dBin idxD (dVar 1) (dVar 2)) (dSli sliA (dVar 1) dNo0 (dPart (dVar 2))))
abbrev rnBody : DS := dIf (dOr inPre (dTst asB (dBin (eqD false) (dBin idxD (dBin idxD (dUn (fldD ["Web"] "rows") (dVar 0)) (dBin idxD (dVar 1) (dBin modD (dBin add4D (dVar 2) (dC (.int 1))) (dAr lenD (dCons (dVar 1) dNil))))) (dBin idxD (dVar 1) (dVar 2))) (dC (.int 0))))) (dRet (dC (.bl false))) dSkip
theorem inPre_ok {w : D} {v : Way} {j : Nat} {x : Option D} (hj : j < v.length) : inPre [some w, some (wD v), some (nI j), x] = .ok ((v.take j).contains (v.getD j 0)) [some w, some (wD v), some (nI j), x] := by
  have s1 : dSli sliA (dVar 1) dNo0 (dPart (dVar 2)) [some w, some (wD v), some (nI j), x] = .ok (wD (v.take j)) [some w, some (wD v), some (nI j), x] := sli_take (by omega) rfl rfl
  exact tst_ok (bin_ok (bin_ok rfl rfl (way_idx hj)) s1 (in_way false _ _)) rfl
theorem getD_lt {v : Way} {s i : Nat} (h : ∀ i ∈ v, i < s) (hi : i < v.length) : v.getD i 0 < s := by
  rw [List.getD_eq_getElem?_getD, List.getElem?_eq_getElem hi]
  exact h _ (List.getElem_mem hi)
def rnOK (rows : List (List Int)) (v : Way) (i : Nat) : Bool := !((v.take i).contains (v.getD i 0)) && (cell rows (v.getD ((i + 1) % v.length) 0) (v.getD i 0) != 0)
theorem rnBody_ok {s : Nat} {rows : List (List Int)} {v : Way} {j : Nat} {x : Option D} (R : IsRows s rows) (hv : ∀ i ∈ v, i < s) (hj : j < v.length) :
    (rnOK rows v j = true ∧ rnBody [some (webD rows), some (wD v), some (nI j), x] = .next [some (webD rows), some (wD v), some (nI j), x]) ∨ (rnOK rows v j = false ∧ rnBody [some (webD rows), some (wD v), some (nI j), x] = .ret (.bl false) [some (webD rows), some (wD v), some (nI j), x]) := by
  have hm : (j + 1) % v.length < v.length := Nat.mod_lt _ (by omega)
  have m1 : dBin modD (dBin add4D (dVar 2) (dC (.int 1))) (dAr lenD (dCons (dVar 1) dNil)) [some (webD rows), some (wD v), some (nI j), x] = .ok (nI ((j + 1) % v.length)) [some (webD rows), some (wD v), some (nI j), x] := by
    refine bin_ok (a := .int ((j : Int) + 1)) (b := .int (v.length : Nat)) (bin_ok rfl rfl e_add) (ar_ok (cons_ok rfl e_dNil) ?_) ?_
    · unfold wD
      rw [e_lenT, List.length_map]
    · rw [e_mod (by omega)]
      unfold nI
      rw [Int.natCast_emod]
      rfl
  have c1 : dTst asB (dBin (eqD false) (dBin idxD (dBin idxD (dUn (fldD ["Web"] "rows") (dVar 0)) (dBin idxD (dVar 1) (dBin modD (dBin add4D (dVar 2) (dC (.int 1))) (dAr lenD (dCons (dVar 1) dNil))))) (dBin idxD (dVar 1) (dVar 2))) (dC (.int 0))) [some (webD rows), some (wD v), some (nI j), x] = .ok (cell rows (v.getD ((j + 1) % v.length) 0) (v.getD j 0) == 0) [some (webD rows), some (wD v), some (nI j), x] :=
    tst_ok (bin_ok (cell_ok R (un_ok rfl (webD_rows rows)) (bin_ok rfl m1 (way_idx hm)) (bin_ok rfl rfl (way_idx hj)) (getD_lt hv hm) (getD_lt hv hj)) rfl e_eq_int) rfl
  have c2 : dOr inPre (dTst asB (dBin (eqD false) (dBin idxD (dBin idxD (dUn (fldD ["Web"] "rows") (dVar 0)) (dBin idxD (dVar 1) (dBin modD (dBin add4D (dVar 2) (dC (.int 1))) (dAr lenD (dCons (dVar 1) dNil))))) (dBin idxD (dVar 1) (dVar 2))) (dC (.int 0)))) [some (webD rows), some (wD v), some (nI j), x] = .ok (!(rnOK rows v j)) [some (webD rows), some (wD v), some (nI j), x] := by
    rw [e_dOr, inPre_ok hj, e_bind_ok, c1]
    unfold rnOK
    generalize cell rows (v.getD ((j + 1) % v.length) 0) (v.getD j 0) = z
    generalize (v.take j).contains (v.getD j 0) = b
    cases b <;> simp [bne]
  cases h : rnOK rows v j with
  | true => rw [h] at c2; exact .inl ⟨rfl, (if_f c2).trans rfl⟩
  | false => rw [h] at c2; exact .inr ⟨rfl, (if_t c2).trans rfl⟩
theorem for_any {f : DA} {s : D → List (Option D) → Option (List (Option D))} {b : DS} {δ δ1 : List (Option D)} {xs : List D} {r : SRes} (e : f δ = .ok xs δ1) (h : forD s b xs δ1 = r) : dFor f s b δ = r := by rw [e_dFor, e]; exact h
def natOf : D → Nat
  | .int i => i.toNat
  | _ => 0
/-- what a tuple of simple items is worth -/
def roundB (rows : List (List Int)) (s : Nat) (l : List D) : Bool := !((l.length : Int) == 0) && l.all (okI s) && progOK rows (l.map natOf)
theorem back_nats (v : Way) : (v.map nI).map natOf = v := by
  rw [List.map_map]
  induction v with
  | nil => rfl
  | cons a v ih => rw [List.map_cons, ih]; rfl
def unW : D → Way
  | .tup l => l.map natOf
  | _ => []
theorem unW_wD (w : Way) : unW (wD w) = w := back_nats w
theorem is_round_tup {s : Nat} {rows : List (List Int)} {l : List D} (R : IsRows s rows) (hl : l.length < 100000) (hs : ∀ d ∈ l, Simple d) : ∃ o, fn_is_round [webD rows, .tup l] = .ok (.bl (roundB rows s l)) o := by
  have hel : ∀ d ∈ l, dCall 2 fn_is_index (dCons (dUn (fldD ["Web"] "size") (dVar 0)) (dCons (dVar 3) dNil)) [some (webD rows), some (.tup l), none, some d] = .ok (.bl (okI s d)) [some (webD rows), some (.tup l), none, some d] := fun d hd => by
    refine call_ok (ds := [.int (s : Nat), d]) (cons_ok (un_ok rfl ?_) (cons_ok rfl e_dNil)) rfl (is_index_ok (hs d hd))
    rw [webD_size, R.len]
  have hh := head_ok (w := webD rows) hl hel
  by_cases hb : (((l.length : Int) == 0) || !(l.all (okI s))) = true
  · rw [hb] at hh
    refine ⟨_, dFn_ret (δ0 := [some (webD rows), some (.tup l), none, none]) (d := .bl (roundB rows s l)) (δ := [some (webD rows), some (.tup l), none, none]) rfl ?_⟩
    have e : roundB rows s l = false := by
      unfold roundB
      rw [Bool.or_eq_true] at hb
      rcases hb with h | h
      · rw [h]; rfl
      · rw [Bool.not_eq_true'] at h; rw [h]; simp
    rw [e]
    unfold d_is_round
    exact seq_ret ((if_t hh).trans rfl)
  · rw [Bool.not_eq_true] at hb
    rw [hb] at hh
    rw [Bool.or_eq_false_iff, Bool.not_eq_false'] at hb
    obtain ⟨v, rfl, hv⟩ := places_of hb.2
    have e : roundB rows s (v.map nI) = progOK rows v := by
      unfold roundB
      rw [hb.1, hb.2, back_nats]
      simp
    rw [e]
    have r1 : dRng1 (dCons (dAr lenD (dCons (dVar 1) dNil)) dNil) [some (webD rows), some (wD v), none, none] = .ok (rangeD 0 v.length) [some (webD rows), some (wD v), none, none] := by
      rw [List.length_map] at hl
      refine e_rng1 (cons_ok (ar_ok (cons_ok rfl e_dNil) ?_) e_dNil) (by omega) (by omega)
      unfold wD
      rw [e_lenT, List.length_map]
    have lp := forD_all (s := gV 2) (body := rnBody) (rangeD 0 v.length) (rnOK rows v) (.bl false) (fun δ => ∃ x, δ = [some (webD rows), some (wD v), x, none]) (δ := [some (webD rows), some (wD v), none, none]) ⟨none, rfl⟩ (by
      rintro j d δ hx ⟨x, rfl⟩
      obtain ⟨hq, rfl⟩ := get_range hx
      refine ⟨_, rfl, ?_⟩
      rcases rnBody_ok (x := none) R hv hq with ⟨a, b⟩ | ⟨a, b⟩
      · exact .inl ⟨a, _, b, _, rfl⟩
      · exact .inr ⟨a, _, b⟩)
    rw [len_range] at lp
    have ep : progOK rows v = (List.range v.length).all (rnOK rows v) := rfl
    rw [ep]
    rcases lp with ⟨a, δ', b, x, rfl⟩ | ⟨a, δ', b⟩
    · rw [a]
      refine ⟨_, dFn_ret (δ0 := [some (webD rows), some (wD v), none, none]) (d := .bl true) (δ := [some (webD rows), some (wD v), x, none]) rfl ?_⟩
      unfold d_is_round
      refine (seq_next ((if_f hh).trans rfl)).trans ?_
      refine (seq_next (for_ok r1 b)).trans ?_
      exact ret_ok rfl
    · rw [a]
      refine ⟨_, dFn_ret (δ0 := [some (webD rows), some (wD v), none, none]) (d := .bl false) (δ := δ') rfl ?_⟩
      unfold d_is_round
      refine (seq_next ((if_f hh).trans rfl)).trans ?_
      exact seq_ret (for_any r1 b)

/-! _law_right -/
theorem way_prev {w : Way} {j : Nat} (hj : j < w.length) : idxD (wD w) (.int ((j : Int) - 1)) = some (nI (w.getD (if j = 0 then w.length - 1 else j - 1) 0)) := by
  by_cases z : j = 0
  · subst z
    rw [if_pos rfl]
    have hw : w ≠ [] := fun h => by rw [h] at hj; exact absurd hj (Nat.lt_irrefl _)
    have := way_last hw
    rw [List.getLastD_eq_getLast?, List.getLast?_eq_getElem?] at this
    rw [List.getD_eq_getElem?_getD]
    exact this
  · rw [if_neg z]
    have := way_idx (w := w) (i := j - 1) (by omega)
    unfold nI at this ⊢
    rwa [show ((j - 1 : Nat) : Int) = (j : Int) - 1 by omega] at this
theorem anyD_bools (bs : List Bool) : anyD [.lst (bs.map .bl)] = some (.bl (bs.any id)) := by
  have e : bools (bs.map .bl) = some bs := by
    induction bs with
    | nil => rfl
    | cons b bs ih => simp [bools, ih]
  simp [anyD, e]
theorem is_round_lst (w : D) (l : List D) : ∃ o, fn_is_round [w, .lst l] = .ok (.bl false) o := ⟨_, dFn_ret (δ0 := [some w, some (.lst l), none, none]) (δ := [some w, some (.lst l), none, none]) rfl rfl⟩
/-! bad rounds -/
theorem lenW {k : Nat} {w : Way} {δ : List (Option D)} (h : δ[k]? = some (some (wD w))) : dAr lenD (dCons (dVar k) dNil) δ = .ok (.int (w.length : Nat)) δ := by
  refine ar_ok (cons_ok (d := wD w) (by rw [e_dVar, h]) e_dNil) ?_
  unfold wD
  rw [e_lenT, List.length_map]
theorem lenEq {k : Nat} {w : Way} {δ : List (Option D)} {c : Int} (h : δ[k]? = some (some (wD w))) : dTst asB (dBin (eqD false) (dAr lenD (dCons (dVar k) dNil)) (dC (.int c))) δ = .ok ((w.length : Int) == c) δ := tst_ok (bin_ok (lenW h) rfl e_eq_int) rfl
theorem headE {k : Nat} {w : Way} {δ : List (Option D)} (h : δ[k]? = some (some (wD w))) (hw : w ≠ []) : dBin idxD (dVar k) (dC (.int 0)) δ = .ok (nI (w.headD 0)) δ := bin_ok (a := wD w) (by rw [e_dVar, h]) e_dC (way_head hw)
theorem lastE {k : Nat} {w : Way} {δ : List (Option D)} (h : δ[k]? = some (some (wD w))) (hw : w ≠ []) : dBin idxD (dVar k) (dUn negD (dC (.int 1))) δ = .ok (nI (w.getLastD 0)) δ := bin_ok (a := wD w) (by rw [e_dVar, h]) (un_ok e_dC e_neg) (way_last hw)
theorem is_bad_ok {s : Nat} {rows : List (List Int)} {w : Way} (R : IsRows s rows) (hw : w ≠ []) (hs : ∀ i ∈ w, i < s) : ∃ o, fn_is_bad [webD rows, wD w] = .ok (.bl (badW rows w)) o := by
  refine ⟨_, dFn_ret (δ0 := [some (webD rows), some (wD w)]) (d := .bl (badW rows w)) (δ := [some (webD rows), some (wD w)]) rfl ?_⟩
  unfold d_is_bad
  have ro : ∀ w : Way, dUn (fldD ["Web"] "rows") (dVar 0) [some (webD rows), some (wD w)] = .ok (rowsT rows) [some (webD rows), some (wD w)] := fun w => un_ok rfl (webD_rows rows)
  match w, hw, hs with
  | [i], _, hs =>
    have hi := hs i (List.mem_cons_self ..)
    have t1 := lenEq (k := 1) (w := [i]) (δ := [some (webD rows), some (wD [i])]) (c := 1) rfl
    refine seq_ret ((if_t t1).trans (ret_ok ?_))
    exact bin_ok (cell_ok R (ro _) (bin_ok rfl rfl (way_idx (w := [i]) (i := 0) (by simp))) (bin_ok rfl rfl (way_idx (w := [i]) (i := 0) (by simp))) hi hi) rfl e_eq_int
  | [i, j], _, hs =>
    have hi := hs i (by simp)
    have hj := hs j (by simp)
    have t1 := lenEq (k := 1) (w := [i, j]) (δ := [some (webD rows), some (wD [i, j])]) (c := 1) rfl
    have t2 := lenEq (k := 1) (w := [i, j]) (δ := [some (webD rows), some (wD [i, j])]) (c := 2) rfl
    have x0 : dBin idxD (dVar 1) (dC (.int 0)) [some (webD rows), some (wD [i, j])] = .ok (nI i) [some (webD rows), some (wD [i, j])] := bin_ok rfl rfl (way_idx (w := [i, j]) (i := 0) (by simp))
    have x1 : dBin idxD (dVar 1) (dC (.int 1)) [some (webD rows), some (wD [i, j])] = .ok (nI j) [some (webD rows), some (wD [i, j])] := bin_ok rfl rfl (way_idx (w := [i, j]) (i := 1) (by simp))
    refine (seq_next ((if_f t1).trans rfl)).trans ?_
    refine seq_ret ((if_t t2).trans (ret_ok ?_))
    exact bin_ok (cell_ok R (ro _) x0 x1 hi hj) (cell_ok R (ro _) x1 x0 hj hi) e_eq_int
  | i :: j :: k :: r, _, hs =>
    have t1 := lenEq (k := 1) (w := i :: j :: k :: r) (δ := [some (webD rows), some (wD (i :: j :: k :: r))]) (c := 1) rfl
    have t2 := lenEq (k := 1) (w := i :: j :: k :: r) (δ := [some (webD rows), some (wD (i :: j :: k :: r))]) (c := 2) rfl
    have b1 : (((i :: j :: k :: r).length : Int) == 1) = false := beq_false_of_ne (by simp only [List.length_cons]; omega)
    have b2 : (((i :: j :: k :: r).length : Int) == 2) = false := beq_false_of_ne (by simp only [List.length_cons]; omega)
    rw [b1] at t1
    rw [b2] at t2
    refine (seq_next ((if_f t1).trans rfl)).trans ?_
    refine (seq_next ((if_f t2).trans rfl)).trans ?_
    exact ret_ok rfl
theorem law_is_bad_ok {s : Nat} {rows : List (List Int)} {w : Way} (R : IsRows s rows) (hw : w ≠ []) (hs : ∀ i ∈ w, i < s) : ∃ o, fn__law_is_bad [rowsT rows, wD w] = .ok (.bl (badW rows w)) o := by
  have lt3 : ∀ w : Way, dTst asB (dBin ltD (dAr lenD (dCons (dVar 1) dNil)) (dC (.int 3))) [some (rowsT rows), some (wD w), none, none] = .ok (decide ((w.length : Int) < 3)) [some (rowsT rows), some (wD w), none, none] := fun w => tst_ok (bin_ok (lenW rfl) rfl e_cmp) rfl
  have pa : ∀ w : Way, w ≠ [] → dPar2 2 3 (dCons (dBin idxD (dVar 1) (dC (.int 0))) (dCons (dBin idxD (dVar 1) (dUn negD (dC (.int 1)))) dNil)) [some (rowsT rows), some (wD w), none, none] = .next [some (rowsT rows), some (wD w), some (nI (w.headD 0)), some (nI (w.getLastD 0))] := fun w hw => by
    have h1 := headE (k := 1) (w := w) (δ := [some (rowsT rows), some (wD w), none, none]) rfl hw
    have h2 := lastE (k := 1) (w := w) (δ := [some (rowsT rows), some (wD w), none, none]) rfl hw
    exact par2_ok (cons_ok h1 (cons_ok h2 e_dNil))
  refine ⟨outsOf (List.replicate 2 .sh) [rowsT rows, wD w] [], ?_⟩
  have fin : ∀ δ, d__law_is_bad [some (rowsT rows), some (wD w), none, none] = .ret (.bl (badW rows w)) δ → fn__law_is_bad [rowsT rows, wD w] = .ok (.bl (badW rows w)) (outsOf (List.replicate 2 .sh) [rowsT rows, wD w] []) := fun δ e => (dFn_ret (δ0 := [some (rowsT rows), some (wD w), none, none]) (δ := δ) rfl e).trans rfl
  match w, hw, hs with
  | [i], hw, hs =>
    have hi := hs i (List.mem_cons_self ..)
    refine fin [some (rowsT rows), some (wD [i]), some (nI i), some (nI i)] ?_
    unfold d__law_is_bad
    have t1 := lenEq (k := 1) (w := [i]) (δ := [some (rowsT rows), some (wD [i]), some (nI i), some (nI i)]) (c := 1) rfl
    refine seq_ret ((if_t (lt3 [i])).trans ?_)
    refine (seq_next (pa [i] hw)).trans (ret_ok ((ite_t t1).trans ?_))
    exact bin_ok (cell_ok R rfl rfl rfl hi hi) rfl e_eq_int
  | [i, j], hw, hs =>
    have hi := hs i (by simp)
    have hj := hs j (by simp)
    refine fin [some (rowsT rows), some (wD [i, j]), some (nI i), some (nI j)] ?_
    unfold d__law_is_bad
    have t1 := lenEq (k := 1) (w := [i, j]) (δ := [some (rowsT rows), some (wD [i, j]), some (nI i), some (nI j)]) (c := 1) rfl
    refine seq_ret ((if_t (lt3 [i, j])).trans ?_)
    refine (seq_next (pa [i, j] hw)).trans (ret_ok ((ite_f t1).trans ?_))
    exact bin_ok (cell_ok R rfl rfl rfl hi hj) (cell_ok R rfl rfl rfl hj hi) e_eq_int
  | i :: j :: k :: r, hw, hs =>
    refine fin [some (rowsT rows), some (wD (i :: j :: k :: r)), none, none] ?_
    unfold d__law_is_bad
    have t1 := lt3 (i :: j :: k :: r)
    rw [decide_eq_false (by simp only [List.length_cons]; omega)] at t1
    exact (seq_next ((if_f t1).trans rfl)).trans (ret_ok rfl)

/-! layers -/
theorem cat_way {kw kj : Nat} {w : Way} {j : Nat} {δ : List (Option D)} (hw : δ[kw]? = some (some (wD w))) (hj : δ[kj]? = some (some (nI j))) (hl : w.length < 1000) : dBin add4D (dVar kw) (dAr dTupD (dCons (dVar kj) dNil)) δ = .ok (wD (w ++ [j])) δ := by
  have hz := sizeLine_big
  have e : addD (.tup (w.map nI)) (.tup [nI j]) = some (.tup (w.map nI ++ [nI j])) := by
    simp only [addD]
    rw [if_pos]
    rw [List.length_map, List.length_singleton]
    omega
  refine bin_ok (a := wD w) (b := .tup [nI j]) (by rw [e_dVar, hw]) (ar_ok (cons_ok (by rw [e_dVar, hj]) e_dNil) (dTupD_ok (by simp))) ?_
  show addD (.tup (w.map nI)) (.tup [nI j]) = _
  rw [e]
  unfold wD
  rw [List.map_append]
  rfl
theorem cat_lst {l l' : List D} (h : l.length + l'.length ≤ 1000000) : add4D (.lst l) (.lst l') = some (.lst (l ++ l')) := by
  have hz := sizeLine_big
  show catD (.lst l) (.lst l') = _
  simp only [catD]
  rw [if_pos (by omega)]
theorem okx_ok {s j kw kj : Nat} {w : Way} {rows : List (List Int)} {e : DE} {δ : List (Option D)} (R : IsRows s rows) (he : e δ = .ok (rowsT rows) δ) (hw : δ[kw]? = some (some (wD w))) (hk : δ[kj]? = some (some (nI j))) (hne : w ≠ []) (hs : ∀ i ∈ w, i < s) (hj : j < s) :
    dAnd (dTst asB (dBin (inTD true) (dVar kj) (dVar kw))) (dTst asB (dBin (eqD true) (dBin idxD (dBin idxD e (dVar kj)) (dBin idxD (dVar kw) (dUn negD (dC (.int 1))))) (dC (.int 0)))) δ = .ok (okx rows w j) δ := by
  have vj : dVar kj δ = .ok (nI j) δ := by rw [e_dVar, hk]
  have vw : dVar kw δ = .ok (wD w) δ := by rw [e_dVar, hw]
  have hl : w.getLastD 0 < s := by
    rw [List.getLastD_eq_getLast?, List.getLast?_eq_some_getLast hne]
    exact hs _ (List.getLast_mem hne)
  have t1 : dTst asB (dBin (inTD true) (dVar kj) (dVar kw)) δ = .ok (!(w.contains j)) δ := tst_ok (bin_ok vj vw (in_way true w j)) rfl
  have t2 : dTst asB (dBin (eqD true) (dBin idxD (dBin idxD e (dVar kj)) (dBin idxD (dVar kw) (dUn negD (dC (.int 1))))) (dC (.int 0))) δ = .ok (cell rows j (w.getLastD 0) != 0) δ :=
    tst_ok (bin_ok (cell_ok R he vj (lastE hw hne) hj hl) rfl e_ne_int) rfl
  rw [e_dAnd, t1, e_bind_ok, t2]
  unfold okx
  cases w.contains j <;> simp
/-- a comprehension that changes nothing, from any beginning -/
theorem lcD_pureA {vs : List Nat} {s : D → List (Option D) → Option (List (Option D))} {t : DT} {f : DE} {δ : List (Option D)} (p : D → Bool) (g : D → D) : ∀ (xs acc : List D), acc.length + xs.length ≤ sizeLine →
    (∀ d ∈ xs, ∃ δ1, s d δ = some δ1 ∧ t δ1 = .ok (p d) δ1 ∧ (p d = true → f δ1 = .ok (g d) δ1) ∧ wipeD δ1 vs = δ) → lcD vs s t f xs acc δ = .ok (acc ++ (xs.filter p).map g) δ := by
  intro xs
  induction xs with
  | nil => intro acc _ _; simp [lcD]
  | cons x xs ih =>
    intro acc hz hx
    obtain ⟨δ1, h1, h2, h3, h4⟩ := hx x (List.mem_cons_self ..)
    rw [List.length_cons] at hz
    unfold lcD
    rw [h1]
    simp only [h2]
    cases hp : p x with
    | true =>
      simp only [if_true, h3 hp, if_pos (show acc.length < sizeLine by omega), h4]
      rw [ih (acc ++ [g x]) (by rw [List.length_append, List.length_singleton]; omega) fun d hd => hx d (List.mem_cons_of_mem _ hd)]
      simp [hp]
    | false =>
      simp only [Bool.false_eq_true, if_false, h4]
      rw [ih acc (by omega) fun d hd => hx d (List.mem_cons_of_mem _ hd)]
      simp [hp]
theorem lcD2_pure {vs vs1 : List Nat} {s s1 : D → List (Option D) → Option (List (Option D))} {t1 : DT} {g1 : DA} {f : DE} {δ : List (Option D)} {m : Nat} (out : D → List D) : ∀ (xs acc : List D), acc.length + xs.length * m ≤ sizeLine →
    (∀ d ∈ xs, (out d).length ≤ m ∧ ∃ δ1 δ2 ys, s d δ = some δ1 ∧ g1 δ1 = .ok ys δ1 ∧ (∀ acc : List D, acc.length + m ≤ sizeLine → lcD vs1 s1 t1 f ys acc (wipeD δ1 vs1) = .ok (acc ++ out d) δ2) ∧ wipeD δ2 vs = δ) →
    lcD2 vs s dYes g1 vs1 s1 t1 f xs acc δ = .ok (acc ++ xs.flatMap out) δ := by
  intro xs
  induction xs with
  | nil => intro acc _ _; simp [lcD2]
  | cons x xs ih =>
    intro acc hz hx
    obtain ⟨h0, δ1, δ2, ys, h1, h2, h3, h4⟩ := hx x (List.mem_cons_self ..)
    rw [List.length_cons, Nat.succ_mul] at hz
    unfold lcD2
    rw [h1]
    simp only [e_dYes, if_true, h2, h3 acc (by omega), h4]
    rw [ih (acc ++ out x) (by rw [List.length_append]; omega) fun d hd => hx d (List.mem_cons_of_mem _ hd), List.flatMap_cons, List.append_assoc]
/-- one way made longer -/
theorem ext_lc {s a kw kj : Nat} {vs : List Nat} {w : Way} {rows : List (List Int)} {e : DE} {δ : List (Option D)} (R : IsRows s rows) (hss : s < 1000) (he : ∀ d : D, e (δ.set kj (some d)) = .ok (rowsT rows) (δ.set kj (some d))) (hw : ∀ d : D, (δ.set kj (some d))[kw]? = some (some (wD w))) (hk : ∀ d : D, (δ.set kj (some d))[kj]? = some (some d)) (hv : ∀ d : D, wipeD (δ.set kj (some d)) vs = δ) (hne : w ≠ []) (hs : ∀ i ∈ w, i < s) (hl : w.length < 1000) (acc : List D) (hacc : acc.length + s ≤ sizeLine) :
    lcD vs (gV kj) (dAnd (dTst asB (dBin (inTD true) (dVar kj) (dVar kw))) (dTst asB (dBin (eqD true) (dBin idxD (dBin idxD e (dVar kj)) (dBin idxD (dVar kw) (dUn negD (dC (.int 1))))) (dC (.int 0))))) (dBin add4D (dVar kw) (dAr dTupD (dCons (dVar kj) dNil))) ((rg (a + 1) s).map nI) acc δ = .ok (acc ++ (ext rows s a w).map wD) δ := by
  have hlen : ((rg (a + 1) s).map nI).length ≤ s := by
    unfold rg
    rw [List.length_map, List.length_map, List.length_range]
    omega
  have := lcD_pureA (vs := vs) (s := gV kj) (t := dAnd (dTst asB (dBin (inTD true) (dVar kj) (dVar kw))) (dTst asB (dBin (eqD true) (dBin idxD (dBin idxD e (dVar kj)) (dBin idxD (dVar kw) (dUn negD (dC (.int 1))))) (dC (.int 0))))) (f := dBin add4D (dVar kw) (dAr dTupD (dCons (dVar kj) dNil))) (δ := δ) (fun d => match d with | .int i => okx rows w i.toNat | _ => false) (fun d => match d with | .int i => wD (w ++ [i.toNat]) | _ => .non) ((rg (a + 1) s).map nI) acc (by omega) (fun d hd => by
    obtain ⟨j, hj, rfl⟩ := List.mem_map.mp hd
    have hjs := (mem_rg hj).2
    exact ⟨_, e_gV, okx_ok R (he _) (hw _) (hk _) hne hs hjs, fun _ => cat_way (hw _) (hk _) hl, hv _⟩)
  rw [this]
  congr 2
  unfold ext
  rw [List.filter_map, List.map_map, List.map_map]
  rfl

/-! rounds_from -/
theorem rg_D (a s : Nat) : rangeD ((a : Int)) (s : Int) = (rg a s).map nI := by
  rw [rangeD_from]
  unfold rg
  rw [List.map_map]
  rfl
theorem flat_wD {f : Way → List Way} (ws : List Way) : (ws.map wD).flatMap (fun d => (f (unW d)).map wD) = (ws.flatMap f).map wD := by
  induction ws with
  | nil => rfl
  | cons w ws ih => rw [List.map_cons, List.flatMap_cons, List.flatMap_cons, ih, List.map_append, unW_wD]
abbrev rfCond (e : DE) (kw kj : Nat) : DT := dAnd (dTst asB (dBin (inTD true) (dVar kj) (dVar kw))) (dTst asB (dBin (eqD true) (dBin idxD (dBin idxD e (dVar kj)) (dBin idxD (dVar kw) (dUn negD (dC (.int 1))))) (dC (.int 0))))
abbrev rfRng : DA := dRng2 (dCons (dBin add4D (dVar 1) (dC (.int 1))) (dCons (dUn (fldD ["Web"] "size") (dVar 0)) dNil))
abbrev rfE (web a len : D) (l x : Option D) : List (Option D) := [some web, some a, some len, l, x, none, none]
theorem layer_step {s a k : Nat} {rows : List (List Int)} {len : D} {x : Option D} (R : IsRows s rows) (ha : a < s) (hs : s ≤ 6) (hk : k < 6) :
    dLc2 [5, 6] (dSeqI (dVar 3)) (gV 5) dYes rfRng [6] (gV 6) (rfCond (dUn (fldD ["Web"] "rows") (dVar 0)) 5 6) (dBin add4D (dVar 5) (dAr dTupD (dCons (dVar 6) dNil))) (rfE (webD rows) (nI a) len (some (.lst ((layL rows s a k).map wD))) x) = .ok (.lst ((layL rows s a (k + 1)).map wD)) (rfE (webD rows) (nI a) len (some (.lst ((layL rows s a k).map wD))) x) := by
  have hz := sizeLine_big
  have hlen : (layL rows s a k).length ≤ 6 ^ 5 := Nat.le_trans (layL_len rows s a k) (Nat.le_trans (Nat.pow_le_pow_left hs k) (Nat.pow_le_pow_right (by decide) (by omega)))
  have e := lcD2_pure (vs := [5, 6]) (vs1 := [6]) (s := gV 5) (s1 := gV 6) (t1 := rfCond (dUn (fldD ["Web"] "rows") (dVar 0)) 5 6) (g1 := rfRng) (f := dBin add4D (dVar 5) (dAr dTupD (dCons (dVar 6) dNil))) (δ := rfE (webD rows) (nI a) len (some (.lst ((layL rows s a k).map wD))) x) (m := 6)
    (fun d => (ext rows s a (unW d)).map wD) ((layL rows s a k).map wD) [] (by rw [List.length_map, List.length_nil]; omega) (fun d hd => by
      obtain ⟨w, hw, rfl⟩ := List.mem_map.mp hd
      obtain ⟨w1, w2, w3⟩ := layL_mem ha hw
      have hne : w ≠ [] := fun h => by rw [h] at w1; simp at w1
      simp only [unW_wD]
      refine ⟨by rw [List.length_map]; exact Nat.le_trans (ext_len rows s a w) hs, _, [some (webD rows), some (nI a), some len, some (.lst ((layL rows s a k).map wD)), x, some (wD w), none], (rg (a + 1) s).map nI, rfl, ?_, fun acc hacc => ?_, rfl⟩
      · have := e_rng2 (f := dCons (dBin add4D (dVar 1) (dC (.int 1))) (dCons (dUn (fldD ["Web"] "size") (dVar 0)) dNil)) (δ := [some (webD rows), some (nI a), some len, some (.lst ((layL rows s a k).map wD)), x, some (wD w), none]) (i := ((a + 1 : Nat) : Int)) (j := (s : Nat)) (cons_ok (bin_ok rfl rfl rfl) (cons_ok (un_ok rfl (by rw [webD_size, R.len])) e_dNil)) (by omega) (by omega) (by omega) (by omega)
        rw [rg_D] at this
        exact this
      · exact ext_lc (kw := 5) (kj := 6) (vs := [6]) (e := dUn (fldD ["Web"] "rows") (dVar 0)) (δ := [some (webD rows), some (nI a), some len, some (.lst ((layL rows s a k).map wD)), x, some (wD w), none]) R (by omega) (fun d => un_ok rfl (webD_rows rows)) (fun d => rfl) (fun d => rfl) (fun d => rfl) hne w3 (by omega) acc (by omega))
  rw [flat_wD, List.nil_append] at e
  rw [show dLc2 [5, 6] (dSeqI (dVar 3)) (gV 5) dYes rfRng [6] (gV 6) (rfCond (dUn (fldD ["Web"] "rows") (dVar 0)) 5 6) (dBin add4D (dVar 5) (dAr dTupD (dCons (dVar 6) dNil))) (rfE (webD rows) (nI a) len (some (.lst ((layL rows s a k).map wD))) x) = ((match lcD2 [5, 6] (gV 5) dYes rfRng [6] (gV 6) (rfCond (dUn (fldD ["Web"] "rows") (dVar 0)) 5 6) (dBin add4D (dVar 5) (dAr dTupD (dCons (dVar 6) dNil))) ((layL rows s a k).map wD) [] (rfE (webD rows) (nI a) len (some (.lst ((layL rows s a k).map wD))) x) with
    | .ok l δ2 => .ok (.lst l) (backD (rfE (webD rows) (nI a) len (some (.lst ((layL rows s a k).map wD))) x) δ2 [5, 6])
    | _ => .no) : Res D) from rfl, e]
  rfl
theorem clo_lc {s kw : Nat} {vs : List Nat} {e h : DE} {rows : List (List Int)} {ws : List Way} {δ : List (Option D)} (R : IsRows s rows) (hws : ∀ w ∈ ws, w ≠ [] ∧ ∀ i ∈ w, i < s) (hl : ws.length ≤ 1000000) (he : ∀ w ∈ ws, e (δ.set kw (some (wD w))) = .ok (rowsT rows) (δ.set kw (some (wD w)))) (hh : ∀ w ∈ ws, h (δ.set kw (some (wD w))) = .ok (nI (w.headD 0)) (δ.set kw (some (wD w)))) (hw : ∀ d : D, (δ.set kw (some d))[kw]? = some (some d)) (hv : ∀ d : D, wipeD (δ.set kw (some d)) vs = δ) :
    lcD vs (gV kw) (dTst asB (dBin (eqD true) (dBin idxD (dBin idxD e h) (dBin idxD (dVar kw) (dUn negD (dC (.int 1))))) (dC (.int 0)))) (dVar kw) (ws.map wD) [] δ = .ok ((ws.filter (clo rows)).map wD) δ := by
  have hz := sizeLine_big
  have := lcD_pureA (vs := vs) (s := gV kw) (t := dTst asB (dBin (eqD true) (dBin idxD (dBin idxD e h) (dBin idxD (dVar kw) (dUn negD (dC (.int 1))))) (dC (.int 0)))) (f := dVar kw) (δ := δ) (fun d => clo rows (unW d)) (fun d => d) (ws.map wD) [] (by rw [List.length_map, List.length_nil]; omega) (fun d hd => by
    obtain ⟨w, hm, rfl⟩ := List.mem_map.mp hd
    obtain ⟨hne, hs⟩ := hws w hm
    have hlast : w.getLastD 0 < s := by
      rw [List.getLastD_eq_getLast?, List.getLast?_eq_some_getLast hne]
      exact hs _ (List.getLast_mem hne)
    have hhead : w.headD 0 < s := by
      cases w with
      | nil => exact absurd rfl hne
      | cons a w => exact hs a (List.mem_cons_self ..)
    have vw : dVar kw (δ.set kw (some (wD w))) = .ok (wD w) (δ.set kw (some (wD w))) := by rw [e_dVar, hw]
    simp only [unW_wD]
    exact ⟨_, e_gV, tst_ok (bin_ok (cell_ok R (he w hm) (hh w hm) (lastE (hw _) hne) hhead hlast) rfl e_ne_int) rfl, fun _ => vw, hv _⟩)
  rw [this, List.nil_append, List.map_id', List.filter_map]
  congr 2
  refine List.filter_congr fun w _ => ?_
  show clo rows (unW (wD w)) = _
  rw [unW_wD]
theorem rounds_from_ok {s a k : Nat} {rows : List (List Int)} (R : IsRows s rows) (ha : a < s) (hs : s ≤ 6) (hk : k < 6) : ∃ o, fn_rounds_from [webD rows, nI a, nI (k + 1)] = .ok (.lst (((layL rows s a k).filter (clo rows)).map wD)) o := by
  have hlen : (layL rows s a k).length ≤ 6 ^ 5 := Nat.le_trans (layL_len rows s a k) (Nat.le_trans (Nat.pow_le_pow_left hs k) (Nat.pow_le_pow_right (by decide) (by omega)))
  have s1 : dSet 3 (dAr dLstD (dCons (dAr dTupD (dCons (dVar 1) dNil)) dNil)) [some (webD rows), some (nI a), some (nI (k + 1)), none, none, none, none] = .next (rfE (webD rows) (nI a) (nI (k + 1)) (some (.lst ((layL rows s a 0).map wD))) none) :=
    set_ok (d := .lst [.tup [nI a]]) (ar_ok (cons_ok (ar_ok (cons_ok rfl e_dNil) (dTupD_ok (by simp))) e_dNil) (dLstD_ok (by simp)))
  have r1 : dRng1 (dCons (dBin subD (dVar 2) (dC (.int 1))) dNil) (rfE (webD rows) (nI a) (nI (k + 1)) (some (.lst ((layL rows s a 0).map wD))) none) = .ok (rangeD 0 k) (rfE (webD rows) (nI a) (nI (k + 1)) (some (.lst ((layL rows s a 0).map wD))) none) := by
    refine e_rng1 (cons_ok (bin_ok rfl rfl ?_) e_dNil) (by omega) (by omega)
    unfold nI
    rw [e_sub]
    congr 2
    omega
  obtain ⟨δ', l1, x, rfl⟩ := forD_inv (s := gV 4) (body := dSeq (dSet 3 (dLc2 [5, 6] (dSeqI (dVar 3)) (gV 5) dYes rfRng [6] (gV 6) (rfCond (dUn (fldD ["Web"] "rows") (dVar 0)) 5 6) (dBin add4D (dVar 5) (dAr dTupD (dCons (dVar 6) dNil))))) dSkip)
    (fun q δ => ∃ x, δ = rfE (webD rows) (nI a) (nI (k + 1)) (some (.lst ((layL rows s a q).map wD))) x) (rangeD 0 k) _ ⟨none, rfl⟩ (by
      rintro q d δ hx ⟨x, rfl⟩
      obtain ⟨hq, rfl⟩ := get_range hx
      exact ⟨_, rfl, _, .inl ((seq_next (set_ok (layer_step R ha hs (by omega)))).trans rfl), _, rfl⟩)
  rw [len_range] at l1
  have c1 : dLc [5] (dSeqI (dVar 3)) (gV 5) (dTst asB (dBin (eqD true) (dBin idxD (dBin idxD (dUn (fldD ["Web"] "rows") (dVar 0)) (dVar 1)) (dBin idxD (dVar 5) (dUn negD (dC (.int 1))))) (dC (.int 0)))) (dVar 5) (rfE (webD rows) (nI a) (nI (k + 1)) (some (.lst ((layL rows s a k).map wD))) x) = .ok (.lst (((layL rows s a k).filter (clo rows)).map wD)) (rfE (webD rows) (nI a) (nI (k + 1)) (some (.lst ((layL rows s a k).map wD))) x) := by
    have e1 : dSeqI (dVar 3) (rfE (webD rows) (nI a) (nI (k + 1)) (some (.lst ((layL rows s a k).map wD))) x) = .ok ((layL rows s a k).map wD) (rfE (webD rows) (nI a) (nI (k + 1)) (some (.lst ((layL rows s a k).map wD))) x) := rfl
    have e2 := clo_lc (kw := 5) (vs := [5]) (e := dUn (fldD ["Web"] "rows") (dVar 0)) (h := dVar 1) (ws := layL rows s a k) (δ := rfE (webD rows) (nI a) (nI (k + 1)) (some (.lst ((layL rows s a k).map wD))) x) R (fun w hw => by
      obtain ⟨w1, w2, w3⟩ := layL_mem ha hw
      exact ⟨fun h => by rw [h] at w1; simp at w1, w3⟩) (by omega) (fun w _ => un_ok rfl (webD_rows rows)) (fun w hw => by
      rw [(layL_mem ha hw).2.1]
      rfl) (fun d => rfl) (fun d => rfl)
    exact lc_ok e1 e2
  refine ⟨_, dFn_ret (δ0 := [some (webD rows), some (nI a), some (nI (k + 1)), none, none, none, none]) (d := .lst (((layL rows s a k).filter (clo rows)).map wD)) (δ := rfE (webD rows) (nI a) (nI (k + 1)) (some (.lst ((layL rows s a k).map wD))) x) rfl ?_⟩
  unfold d_rounds_from
  refine (seq_next s1).trans ?_
  refine (seq_next (for_ok r1 l1)).trans ?_
  exact ret_ok c1

/-! bad_round -/
theorem forD_find {s : D → List (Option D) → Option (List (Option D))} {body : DS} (g : D → Option D) (Inv : List (Option D) → Prop) : ∀ (xs : List D) (δ : List (Option D)), Inv δ →
    (∀ d ∈ xs, ∀ δ, Inv δ → ∃ δ1, s d δ = some δ1 ∧ ((g d = none ∧ ∃ δ2, body δ1 = .next δ2 ∧ Inv δ2) ∨ ∃ v, g d = some v ∧ ∃ δ2, body δ1 = .ret v δ2)) →
    (∃ v, xs.findSome? g = some v ∧ ∃ δ', forD s body xs δ = .ret v δ') ∨ (xs.findSome? g = none ∧ ∃ δ', forD s body xs δ = .next δ' ∧ Inv δ')
  | [], δ, h, _ => .inr ⟨rfl, δ, rfl, h⟩
  | x :: xs, δ, h, st => by
    obtain ⟨δ1, h1, ⟨h2, δ2, h3, h4⟩ | ⟨v, h2, δ2, h3⟩⟩ := st x (List.mem_cons_self ..) δ h
    · rw [List.findSome?_cons, h2]
      have e : forD s body (x :: xs) δ = forD s body xs δ2 := by
        rw [forD, h1]
        simp only [h3]
      rw [e]
      exact forD_find g Inv xs δ2 h4 fun d hd => st d (List.mem_cons_of_mem _ hd)
    · rw [List.findSome?_cons, h2]
      refine .inl ⟨v, rfl, δ2, ?_⟩
      rw [forD, h1]
      simp only [h3]
theorem seqI_ok {f : DE} {δ δ1 : List (Option D)} {d : D} {xs : List D} (e : f δ = .ok d δ1) (h : itemsD d = some xs) : dSeqI f δ = .ok xs δ1 := by
  rw [e_dSeqI, e, e_bind_ok, h]
def firstBad (rows : List (List Int)) (ws : List Way) : Option D := (ws.find? (badW rows)).map wD
theorem first_findSome (rows : List (List Int)) (ws : List Way) : (ws.map wD).findSome? (fun d => if badW rows (unW d) = true then some d else none) = firstBad rows ws := by
  unfold firstBad
  induction ws with
  | nil => rfl
  | cons w ws ih =>
    rw [List.map_cons, List.findSome?_cons, List.find?_cons, ih]
    rw [unW_wD]
    cases badW rows w <;> rfl
theorem firstBad_flat {α : Type} (rows : List (List Int)) (xs : List α) (f : α → List Way) : firstBad rows (xs.flatMap f) = xs.findSome? fun x => firstBad rows (f x) := by
  unfold firstBad
  induction xs with
  | nil => rfl
  | cons x xs ih =>
    rw [List.flatMap_cons, List.find?_append, List.findSome?_cons]
    cases (f x).find? (badW rows) with
    | none => simpa using ih
    | some w => rfl
theorem find_nI (G : Nat → Option D) (xs : List Nat) : (xs.map nI).findSome? (fun d => G (natOf d)) = xs.findSome? G := by
  rw [List.findSome?_map]
  rfl
abbrev brE (web : D) (x y z : Option D) : List (Option D) := [some web, x, y, z]
abbrev br3 : DS := dFor (dSeqI (dCall 3 fn_rounds_from (dCons (dVar 0) (dCons (dVar 2) (dCons (dVar 1) dNil))))) (gV 3) (dIf (dTst truth (dCall 2 fn_is_bad (dCons (dVar 0) (dCons (dVar 3) dNil)))) (dRet (dVar 3)) dSkip)
abbrev br2 : DS := dFor (dRng1 (dCons (dUn (fldD ["Web"] "size") (dVar 0)) dNil)) (gV 2) br3
theorem br3_ok {s a k : Nat} {rows : List (List Int)} {z : Option D} (R : IsRows s rows) (ha : a < s) (hs : s ≤ 6) (hk : k < 6) :
    (∃ v, firstBad rows ((layL rows s a k).filter (clo rows)) = some v ∧ ∃ δ', br3 (brE (webD rows) (some (nI (k + 1))) (some (nI a)) z) = .ret v δ') ∨ (firstBad rows ((layL rows s a k).filter (clo rows)) = none ∧ ∃ z', br3 (brE (webD rows) (some (nI (k + 1))) (some (nI a)) z) = .next (brE (webD rows) (some (nI (k + 1))) (some (nI a)) z')) := by
  obtain ⟨o, ef⟩ := rounds_from_ok R ha hs hk
  have hA : dSeqI (dCall 3 fn_rounds_from (dCons (dVar 0) (dCons (dVar 2) (dCons (dVar 1) dNil)))) (brE (webD rows) (some (nI (k + 1))) (some (nI a)) z) = .ok (((layL rows s a k).filter (clo rows)).map wD) (brE (webD rows) (some (nI (k + 1))) (some (nI a)) z) := by
    exact seqI_ok (call_ok (ds := [webD rows, nI a, nI (k + 1)]) rfl rfl ef) rfl
  have lp := forD_find (s := gV 3) (body := dIf (dTst truth (dCall 2 fn_is_bad (dCons (dVar 0) (dCons (dVar 3) dNil)))) (dRet (dVar 3)) dSkip) (fun d => if badW rows (unW d) = true then some d else none)
    (fun δ => ∃ z', δ = brE (webD rows) (some (nI (k + 1))) (some (nI a)) z') (((layL rows s a k).filter (clo rows)).map wD) (brE (webD rows) (some (nI (k + 1))) (some (nI a)) z) ⟨z, rfl⟩ (by
      rintro d hd δ ⟨z', rfl⟩
      obtain ⟨w, hw, rfl⟩ := List.mem_map.mp hd
      obtain ⟨w1, w2, w3⟩ := layL_mem ha (List.mem_filter.mp hw).1
      obtain ⟨o2, eb⟩ := is_bad_ok (w := w) R (fun h => by rw [h] at w1; simp at w1) w3
      simp only [unW_wD]
      have t : dTst truth (dCall 2 fn_is_bad (dCons (dVar 0) (dCons (dVar 3) dNil))) (brE (webD rows) (some (nI (k + 1))) (some (nI a)) (some (wD w))) = .ok (badW rows w) (brE (webD rows) (some (nI (k + 1))) (some (nI a)) (some (wD w))) := tst_ok (call_ok (ds := [webD rows, wD w]) rfl rfl eb) rfl
      refine ⟨brE (webD rows) (some (nI (k + 1))) (some (nI a)) (some (wD w)), rfl, ?_⟩
      cases h : badW rows w with
      | true =>
        rw [h] at t
        exact .inr ⟨wD w, rfl, _, (if_t t).trans (ret_ok rfl)⟩
      | false =>
        rw [h] at t
        exact .inl ⟨rfl, _, (if_f t).trans rfl, _, rfl⟩)
  rw [first_findSome] at lp
  rcases lp with ⟨v, h1, δ', h2⟩ | ⟨h1, δ', h2, z', rfl⟩
  · exact .inl ⟨v, h1, δ', for_any hA h2⟩
  · exact .inr ⟨h1, z', for_ok hA h2⟩
theorem br2_ok {s k : Nat} {rows : List (List Int)} {y z : Option D} (R : IsRows s rows) (hs : s ≤ 6) (hk : k < 6) :
    (∃ v, (List.range s).findSome? (fun a => firstBad rows ((layL rows s a k).filter (clo rows))) = some v ∧ ∃ δ', br2 (brE (webD rows) (some (nI (k + 1))) y z) = .ret v δ') ∨ ((List.range s).findSome? (fun a => firstBad rows ((layL rows s a k).filter (clo rows))) = none ∧ ∃ y' z', br2 (brE (webD rows) (some (nI (k + 1))) y z) = .next (brE (webD rows) (some (nI (k + 1))) y' z')) := by
  have hA : dRng1 (dCons (dUn (fldD ["Web"] "size") (dVar 0)) dNil) (brE (webD rows) (some (nI (k + 1))) y z) = .ok (rangeD 0 s) (brE (webD rows) (some (nI (k + 1))) y z) := e_rng1 (cons_ok (un_ok rfl (by rw [webD_size, R.len])) e_dNil) (by omega) (by omega)
  have lp := forD_find (s := gV 2) (body := br3) (fun d => firstBad rows ((layL rows s (natOf d) k).filter (clo rows)))
    (fun δ => ∃ y' z', δ = brE (webD rows) (some (nI (k + 1))) y' z') (rangeD 0 s) (brE (webD rows) (some (nI (k + 1))) y z) ⟨y, z, rfl⟩ (by
      rintro d hd δ ⟨y', z', rfl⟩
      obtain ⟨a, ha, rfl⟩ := mem_range hd
      refine ⟨brE (webD rows) (some (nI (k + 1))) (some (nI a)) z', rfl, ?_⟩
      rcases br3_ok (z := z') R ha hs hk with ⟨v, h1, δ', h2⟩ | ⟨h1, z2, h2⟩
      · exact .inr ⟨v, h1, δ', h2⟩
      · exact .inl ⟨h1, _, h2, _, _, rfl⟩)
  have er : rangeD 0 s = (List.range s).map nI := by rw [rangeD_nat]; rfl
  rw [show (rangeD 0 s).findSome? (fun d => firstBad rows ((layL rows s (natOf d) k).filter (clo rows))) = (List.range s).findSome? (fun a => firstBad rows ((layL rows s a k).filter (clo rows))) from by rw [er]; exact find_nI (fun a => firstBad rows ((layL rows s a k).filter (clo rows))) _] at lp
  rcases lp with ⟨v, h1, δ', h2⟩ | ⟨h1, δ', h2, y', z', rfl⟩
  · exact .inl ⟨v, h1, δ', for_any hA h2⟩
  · exact .inr ⟨h1, y', z', for_ok hA h2⟩
def firstD (o : Option D) : D := o.getD .non
theorem bad_round_ok {s : Nat} {rows : List (List Int)} (R : IsRows s rows) (hs : s ≤ 6) : ∃ o, fn_bad_round [webD rows] = .ok (firstD (firstBad rows (allR rows s))) o := by
  have hA : dRng2 (dCons (dC (.int 1)) (dCons (dBin add4D (dUn (fldD ["Web"] "size") (dVar 0)) (dC (.int 1))) dNil)) (brE (webD rows) none none none) = .ok ((rg 1 (s + 1)).map nI) (brE (webD rows) none none none) := by
    have := e_rng2 (f := dCons (dC (.int 1)) (dCons (dBin add4D (dUn (fldD ["Web"] "size") (dVar 0)) (dC (.int 1))) dNil)) (δ := brE (webD rows) none none none) (i := ((1 : Nat) : Int)) (j := ((s + 1 : Nat) : Int)) (cons_ok rfl (cons_ok (bin_ok (un_ok rfl (by rw [webD_size, R.len])) rfl rfl) e_dNil)) (by omega) (by omega) (by omega) (by omega)
    rwa [rg_D] at this
  have lp := forD_find (s := gV 1) (body := br2) (fun d => (List.range s).findSome? (fun a => firstBad rows ((layL rows s a (natOf d - 1)).filter (clo rows))))
    (fun δ => ∃ x y z, δ = brE (webD rows) x y z) ((rg 1 (s + 1)).map nI) (brE (webD rows) none none none) ⟨_, _, _, rfl⟩ (by
      rintro d hd δ ⟨x, y, z, rfl⟩
      obtain ⟨k, hk, rfl⟩ := List.mem_map.mp hd
      have hk2 := mem_rg hk
      obtain ⟨q, rfl⟩ : ∃ q, k = q + 1 := ⟨k - 1, by omega⟩
      refine ⟨brE (webD rows) (some (nI (q + 1))) y z, rfl, ?_⟩
      rcases br2_ok (y := y) (z := z) (k := q) R hs (by omega) with ⟨v, h1, δ', h2⟩ | ⟨h1, y2, z2, h2⟩
      · exact .inr ⟨v, h1, δ', h2⟩
      · exact .inl ⟨h1, _, h2, _, _, _, rfl⟩)
  have ef : ((rg 1 (s + 1)).map nI).findSome? (fun d => (List.range s).findSome? (fun a => firstBad rows ((layL rows s a (natOf d - 1)).filter (clo rows)))) = firstBad rows (allR rows s) := by
    rw [find_nI fun k => (List.range s).findSome? (fun a => firstBad rows ((layL rows s a (k - 1)).filter (clo rows)))]
    unfold rg
    rw [List.findSome?_map, allR_eq, firstBad_flat, Nat.add_sub_cancel]
    refine congrArg (fun G => (List.range s).findSome? G) (funext fun k => ?_)
    rw [firstBad_flat]
    show (List.range s).findSome? (fun a => firstBad rows ((layL rows s a (1 + k - 1)).filter (clo rows))) = _
    rw [Nat.add_sub_cancel_left]
  rw [ef] at lp
  rcases lp with ⟨v, h1, δ', h2⟩ | ⟨h1, δ', h2, x, y, z, rfl⟩
  · rw [h1]
    refine ⟨_, dFn_ret (δ0 := brE (webD rows) none none none) (d := v) (δ := δ') rfl ?_⟩
    unfold d_bad_round
    exact seq_ret (for_any hA h2)
  · rw [h1]
    refine ⟨_, dFn_ret (δ0 := brE (webD rows) none none none) (d := .non) (δ := brE (webD rows) x y z) rfl ?_⟩
    unfold d_bad_round
    exact (seq_next (for_ok hA h2)).trans (ret_ok rfl)
theorem never_rises_ok {s : Nat} {rows : List (List Int)} (R : IsRows s rows) (hs : s ≤ 6) : ∃ o, fn_never_rises [webD rows] = .ok (.bl (firstBad rows (allR rows s)).isNone) o := by
  obtain ⟨o, e⟩ := bad_round_ok R hs
  refine ⟨_, dFn_ret (δ0 := [some (webD rows)]) (d := .bl (firstBad rows (allR rows s)).isNone) (δ := [some (webD rows)]) rfl ?_⟩
  unfold d_never_rises
  refine ret_ok (bin_ok (call_ok (ds := [webD rows]) rfl rfl e) rfl ?_)
  unfold firstBad
  cases (allR rows s).find? (badW rows) <;> rfl

/-! _law_rounds -/
theorem alike_ints : ∀ {x y : Way}, x.length = y.length → PySem.W.alikeAll (toPyL (x.map nI)) (toPyL (y.map nI)) = true
  | [], [], _ => rfl
  | [], _ :: _, h => by simp at h
  | _ :: _, [], h => by simp at h
  | a :: x, b :: y, h => by
    have := alike_ints (x := x) (y := y) (by simpa using h)
    simp only [List.map_cons, toPyL, nI, toPy, PySem.W.alikeAll, PySem.W.alike, Bool.true_and]
    exact this
theorem toPyL_nI (x : Way) : toPyL (x.map nI) = (x.map fun i : Nat => (i : Int)).map PyData.int := by
  induction x with
  | nil => rfl
  | cons a x ih => rw [List.map_cons, List.map_cons, List.map_cons, toPyL, ih]; rfl
theorem lex_ints : ∀ {x y : Way}, lexLt x y = true → ¬ ((y.map fun i : Nat => (i : Int)) < (x.map fun i : Nat => (i : Int)))
  | [], [], h => by simp [lexLt] at h
  | [], _ :: _, _ => by simp
  | _ :: _, [], h => by simp [lexLt] at h
  | a :: x, b :: y, h => by
    simp only [lexLt, Bool.or_eq_true, Bool.and_eq_true, decide_eq_true_eq, beq_iff_eq] at h
    rw [List.map_cons, List.map_cons, List.cons_lt_cons_iff]
    rintro (h1 | ⟨h1, h2⟩)
    · rcases h with h | ⟨h, _⟩ <;> omega
    · rcases h with h | ⟨_, h⟩
      · omega
      · exact lex_ints h h2
theorem le_ways {x y : Way} (h : lexLt x y = true) : dataLeD (wD x) (wD y) = true := by
  show (!PySem.W.dataLt (.tuple (toPyL (y.map nI))) (.tuple (toPyL (x.map nI)))) = true
  rw [PySem.W.dataLt_tuple]
  show (!PySem.W.rowLt (toPyL (y.map nI)) (toPyL (x.map nI))) = true
  rw [toPyL_nI, toPyL_nI, PySem.W.dataLt_ints, decide_eq_false (lex_ints h)]
  rfl
/-- rows that come in their order stay -/
theorem sort_ways {n : Nat} {ws : List Way} (hl : ws.length ≤ 1000000) (hn : ∀ w ∈ ws, w.length = n + 1) (hp : ws.Pairwise fun x y => lexLt x y = true) : sortD [.lst (ws.map wD)] = some (.lst (ws.map wD)) := by
  have hz := sizeLine_big
  have h1 : sortOk (ws.map wD) = true := by
    unfold sortOk
    rw [Bool.and_eq_true, Bool.and_eq_true, Bool.or_eq_true]
    refine ⟨⟨?_, ?_⟩, .inl ?_⟩
    · rw [List.all_eq_true]
      intro d hd
      obtain ⟨w, _, rfl⟩ := List.mem_map.mp hd
      exact okD_way w
    · rw [List.all_eq_true]
      intro d hd
      rw [List.all_eq_true]
      intro e he
      obtain ⟨w, hw, rfl⟩ := List.mem_map.mp hd
      obtain ⟨v, hv, rfl⟩ := List.mem_map.mp he
      show PySem.W.alike (.tuple (toPyL (w.map nI))) (.tuple (toPyL (v.map nI))) = true
      simp only [PySem.W.alike]
      exact alike_ints (by rw [hn w hw, hn v hv])
    · rw [List.all_eq_true]
      intro d hd
      obtain ⟨w, hw, rfl⟩ := List.mem_map.mp hd
      cases w with
      | nil => have := hn [] hw; simp at this
      | cons a w => rfl
  show (if sortOk (ws.map wD) = true ∧ (ws.map wD).length ≤ sizeLine then some (D.lst ((ws.map wD).mergeSort dataLeD)) else none) = _
  rw [if_pos ⟨h1, by rw [List.length_map]; omega⟩, List.mergeSort_of_pairwise]
  rw [List.pairwise_map]
  exact List.Pairwise.imp (fun h => le_ways h) hp
abbrev lrE (rows : D) (layer : D) (x2 : Option D) (s : Nat) (found : D) (x5 x6 : Option D) : List (Option D) := [some rows, some layer, x2, some (nI s), some found, x5, x6, none, none]
def foundD (rows : List (List Int)) (s k : Nat) : List Way := (List.range k).flatMap fun q => (layM rows s q).filter (clo rows)
abbrev lrHead : DE := dBin idxD (dVar 6) (dC (.int 0))
abbrev lrOne : DS := dSet 5 (dBin add4D (dVar 5) (dLc [8] (dRng2 (dCons (dBin add4D lrHead (dC (.int 1))) (dCons (dVar 3) dNil))) (gV 8) (rfCond (dVar 0) 6 8) (dBin add4D (dVar 6) (dAr dTupD (dCons (dVar 8) dNil)))))
theorem lr_one {s k : Nat} {rows : List (List Int)} {layer : D} {x2 : Option D} {found : D} {w : Way} {ls : List Way} (R : IsRows s rows) (hs : s ≤ 6) (hw : w ∈ layM rows s k) (hk : k < 6) (hl : ls.length + 6 ≤ 900000) :
    lrOne (lrE (rowsT rows) layer x2 s found (some (.lst (ls.map wD))) (some (wD w))) = .next (lrE (rowsT rows) layer x2 s found (some (.lst ((ls ++ ext rows s (w.headD 0) w).map wD))) (some (wD w))) := by
  have hz := sizeLine_big
  obtain ⟨w1, w2, w3⟩ := layM_mem hw
  have hne : w ≠ [] := fun h => by rw [h] at w1; simp at w1
  have hr : dRng2 (dCons (dBin add4D lrHead (dC (.int 1))) (dCons (dVar 3) dNil)) (lrE (rowsT rows) layer x2 s found (some (.lst (ls.map wD))) (some (wD w))) = .ok ((rg (w.headD 0 + 1) s).map nI) (lrE (rowsT rows) layer x2 s found (some (.lst (ls.map wD))) (some (wD w))) := by
    have := e_rng2 (f := dCons (dBin add4D lrHead (dC (.int 1))) (dCons (dVar 3) dNil)) (δ := lrE (rowsT rows) layer x2 s found (some (.lst (ls.map wD))) (some (wD w))) (i := ((w.headD 0 + 1 : Nat) : Int)) (j := (s : Nat)) (cons_ok (bin_ok (bin_ok rfl rfl (way_head hne)) rfl rfl) (cons_ok rfl e_dNil)) (by omega) (by omega) (by omega) (by omega)
    rwa [rg_D] at this
  have e := ext_lc (a := w.headD 0) (kw := 6) (kj := 8) (vs := [8]) (e := dVar 0) (δ := lrE (rowsT rows) layer x2 s found (some (.lst (ls.map wD))) (some (wD w))) R (by omega) (fun d => rfl) (fun d => rfl) (fun d => rfl) (fun d => rfl) hne w3 (by omega) [] (by rw [List.length_nil]; omega)
  rw [List.nil_append] at e
  have hx := ext_len rows s (w.headD 0) w
  refine set_ok (d := .lst ((ls ++ ext rows s (w.headD 0) w).map wD)) (bin_ok rfl (lc_ok hr e) ?_)
  rw [cat_lst (by rw [List.length_map, List.length_map]; omega), List.map_append]
theorem forD_step {s : D → List (Option D) → Option (List (Option D))} {body : DS} {x : D} {xs : List D} {δ δ1 δ2 : List (Option D)} (h : s x δ = some δ1) (h1 : body δ1 = .next δ2) : forD s body (x :: xs) δ = forD s body xs δ2 := by
  rw [forD, h]
  simp only [h1]
theorem lr_loop {s k : Nat} {rows : List (List Int)} {layer : D} {x2 x6 : Option D} {found : D} (R : IsRows s rows) (hs : s ≤ 6) (hk : k < 6) :
    ∃ x6', forD (gV 6) lrOne ((layM rows s k).map wD) (lrE (rowsT rows) layer x2 s found (some (.lst [])) x6) = .next (lrE (rowsT rows) layer x2 s found (some (.lst ((layM rows s (k + 1)).map wD))) x6') := by
  have hlen : (layM rows s k).length ≤ 6 ^ 6 := Nat.le_trans (layM_len rows s k) (Nat.le_trans (Nat.pow_le_pow_left hs (k + 1)) (Nat.pow_le_pow_right (by decide) (by omega)))
  have key : ∀ (ws : List Way) (ls : List Way) (x6 : Option D), (∀ w ∈ ws, w ∈ layM rows s k) → ls.length + ws.length * 6 ≤ 800000 → ∃ x6', forD (gV 6) lrOne (ws.map wD) (lrE (rowsT rows) layer x2 s found (some (.lst (ls.map wD))) x6) = .next (lrE (rowsT rows) layer x2 s found (some (.lst ((ls ++ ws.flatMap fun w => ext rows s (w.headD 0) w).map wD))) x6') := by
    intro ws
    induction ws with
    | nil => intro ls x6 _ _; exact ⟨x6, by rw [List.flatMap_nil, List.append_nil]; rfl⟩
    | cons w ws ih =>
      intro ls x6 hm hl
      rw [List.length_cons, Nat.succ_mul] at hl
      have h1 := lr_one (layer := layer) (x2 := x2) (found := found) (ls := ls) R hs (hm w (List.mem_cons_self ..)) hk (by omega)
      have hx := ext_len rows s (w.headD 0) w
      obtain ⟨x6', e⟩ := ih (ls ++ ext rows s (w.headD 0) w) (some (wD w)) (fun v hv => hm v (List.mem_cons_of_mem _ hv)) (by rw [List.length_append]; omega)
      refine ⟨x6', ?_⟩
      rw [List.flatMap_cons, ← List.append_assoc, ← e, List.map_cons]
      exact forD_step rfl h1
  have := key (layM rows s k) [] x6 (fun _ h => h) (by rw [List.length_nil]; omega)
  rw [List.nil_append] at this
  exact this
theorem found_succ (rows : List (List Int)) (s k : Nat) : foundD rows s (k + 1) = foundD rows s k ++ (layM rows s k).filter (clo rows) := by
  unfold foundD
  rw [List.range_succ, List.flatMap_append]
  simp
theorem found_len {s k : Nat} {rows : List (List Int)} (hs : s ≤ 6) : k ≤ 6 → (foundD rows s k).length ≤ k * 6 ^ 6 := by
  unfold foundD
  induction k with
  | zero => intro _; simp
  | succ k ih =>
    intro hk
    rw [List.range_succ, List.flatMap_append, List.length_append, Nat.succ_mul]
    have := ih (by omega)
    have h2 : (layM rows s k).length ≤ 6 ^ 6 := Nat.le_trans (layM_len rows s k) (Nat.le_trans (Nat.pow_le_pow_left hs (k + 1)) (Nat.pow_le_pow_right (by decide) (by omega)))
    have h3 := List.length_filter_le (clo rows) (layM rows s k)
    have h4 : ([k].flatMap fun q => (layM rows s q).filter (clo rows)) = (layM rows s k).filter (clo rows) := by simp
    rw [h4]
    omega
theorem law_rounds_ok {s : Nat} {rows : List (List Int)} (R : IsRows s rows) (hs : s ≤ 6) : ∃ o, fn__law_rounds [rowsT rows] = .ok (.lst ((allR rows s).map wD)) o := by
  have hz := sizeLine_big
  have p1 : dPar2 3 4 (dCons (dAr lenD (dCons (dVar 0) dNil)) (dCons (dAr dLstD dNil) dNil)) [some (rowsT rows), none, none, none, none, none, none, none, none] = .next [some (rowsT rows), none, none, some (nI s), some (.lst []), none, none, none, none] := by
    refine par2_ok (d := nI s) (e := .lst []) (cons_ok (ar_ok (cons_ok (d := rowsT rows) rfl e_dNil) ?_) (cons_ok (ar_ok e_dNil (dLstD_ok (by simp))) e_dNil))
    unfold rowsT
    rw [e_lenT, List.length_map, R.len]
    rfl
  have r0 : dRng1 (dCons (dVar 3) dNil) [some (rowsT rows), none, none, some (nI s), some (.lst []), none, none, none, none] = .ok (rangeD 0 s) [some (rowsT rows), none, none, some (nI s), some (.lst []), none, none, none, none] := rng1_ok rfl (by omega)
  have l0 := lcD_map (vs := [7]) (s := gV 7) (f := dAr dTupD (dCons (dVar 7) dNil)) (δ := [some (rowsT rows), none, none, some (nI s), some (.lst []), none, none, none, none]) (fun d => .tup [d]) (xs := rangeD 0 s) (by rw [len_range]; omega) (fun d hd => ⟨_, rfl, ar_ok (cons_ok rfl e_dNil) (dTupD_ok (by simp)), rfl⟩)
  have e0 : (rangeD 0 s).map (fun d => D.tup [d]) = (layM rows s 0).map wD := by
    rw [rangeD_nat]
    simp only [layM]
    rw [List.map_map, List.map_map]
    rfl
  rw [e0] at l0
  have s1 : dSet 1 (dLc [7] (dRng1 (dCons (dVar 3) dNil)) (gV 7) dYes (dAr dTupD (dCons (dVar 7) dNil))) [some (rowsT rows), none, none, some (nI s), some (.lst []), none, none, none, none] = .next (lrE (rowsT rows) (.lst ((layM rows s 0).map wD)) none s (.lst ((foundD rows s 0).map wD)) none none) := set_ok (lc_ok r0 l0)
  obtain ⟨δ', l1, x2, x5, x6, rfl⟩ := forD_inv (s := gV 2) (body := dSeq (dSet 4 (dBin add4D (dVar 4) (dAr sortD (dCons (dLc [6] (dSeqI (dVar 1)) (gV 6) (dTst asB (dBin (eqD true) (dBin idxD (dBin idxD (dVar 0) lrHead) (dBin idxD (dVar 6) (dUn negD (dC (.int 1))))) (dC (.int 0)))) (dVar 6)) dNil)))) (dSeq (dSet 5 (dAr dLstD dNil)) (dSeq (dFor (dSeqI (dVar 1)) (gV 6) lrOne) (dSet 1 (dVar 5)))))
    (fun q δ => ∃ x2 x5 x6, δ = lrE (rowsT rows) (.lst ((layM rows s q).map wD)) x2 s (.lst ((foundD rows s q).map wD)) x5 x6) (rangeD 0 s) _ ⟨none, none, none, rfl⟩ (by
      rintro q d δ hx ⟨x2, x5, x6, rfl⟩
      obtain ⟨hq, rfl⟩ := get_range hx
      have hlen : (layM rows s q).length ≤ 6 ^ 6 := Nat.le_trans (layM_len rows s q) (Nat.le_trans (Nat.pow_le_pow_left hs (q + 1)) (Nat.pow_le_pow_right (by decide) (by omega)))
      have hfl := found_len (rows := rows) (k := q) hs (by omega)
      have hcl := List.length_filter_le (clo rows) (layM rows s q)
      have hA : dSeqI (dVar 1) (lrE (rowsT rows) (.lst ((layM rows s q).map wD)) (some (nI q)) s (.lst ((foundD rows s q).map wD)) x5 x6) = .ok ((layM rows s q).map wD) (lrE (rowsT rows) (.lst ((layM rows s q).map wD)) (some (nI q)) s (.lst ((foundD rows s q).map wD)) x5 x6) := rfl
      have c1 := clo_lc (kw := 6) (vs := [6]) (e := dVar 0) (h := lrHead) (ws := layM rows s q) (δ := lrE (rowsT rows) (.lst ((layM rows s q).map wD)) (some (nI q)) s (.lst ((foundD rows s q).map wD)) x5 none) R (fun w hw => ⟨fun h => by have := (layM_mem hw).1; rw [h] at this; simp at this, (layM_mem hw).2.2⟩) (by omega) (fun w _ => rfl) (fun w hw => bin_ok rfl rfl (way_head fun h => by have := (layM_mem hw).1; rw [h] at this; simp at this)) (fun d => rfl) (fun d => rfl)
      have c2 : dLc [6] (dSeqI (dVar 1)) (gV 6) (dTst asB (dBin (eqD true) (dBin idxD (dBin idxD (dVar 0) lrHead) (dBin idxD (dVar 6) (dUn negD (dC (.int 1))))) (dC (.int 0)))) (dVar 6) (lrE (rowsT rows) (.lst ((layM rows s q).map wD)) (some (nI q)) s (.lst ((foundD rows s q).map wD)) x5 x6) = .ok (.lst (((layM rows s q).filter (clo rows)).map wD)) (lrE (rowsT rows) (.lst ((layM rows s q).map wD)) (some (nI q)) s (.lst ((foundD rows s q).map wD)) x5 x6) := lc_ok hA c1
      have c3 := sort_ways (n := q) (ws := (layM rows s q).filter (clo rows)) (by omega) (fun w hw => (layM_mem (List.mem_filter.mp hw).1).1) (List.Pairwise.filter _ (layM_lex rows s q))
      have s4 : dSet 4 (dBin add4D (dVar 4) (dAr sortD (dCons (dLc [6] (dSeqI (dVar 1)) (gV 6) (dTst asB (dBin (eqD true) (dBin idxD (dBin idxD (dVar 0) lrHead) (dBin idxD (dVar 6) (dUn negD (dC (.int 1))))) (dC (.int 0)))) (dVar 6)) dNil))) (lrE (rowsT rows) (.lst ((layM rows s q).map wD)) (some (nI q)) s (.lst ((foundD rows s q).map wD)) x5 x6) = .next (lrE (rowsT rows) (.lst ((layM rows s q).map wD)) (some (nI q)) s (.lst ((foundD rows s (q + 1)).map wD)) x5 x6) := by
        refine set_ok (d := .lst ((foundD rows s (q + 1)).map wD)) (bin_ok rfl (ar_ok (cons_ok c2 e_dNil) c3) ?_)
        rw [cat_lst (by rw [List.length_map, List.length_map]; omega), ← List.map_append]
        rw [found_succ]
      have s5 : dSet 5 (dAr dLstD dNil) (lrE (rowsT rows) (.lst ((layM rows s q).map wD)) (some (nI q)) s (.lst ((foundD rows s (q + 1)).map wD)) x5 x6) = .next (lrE (rowsT rows) (.lst ((layM rows s q).map wD)) (some (nI q)) s (.lst ((foundD rows s (q + 1)).map wD)) (some (.lst [])) x6) := set_ok (ar_ok e_dNil (dLstD_ok (by simp)))
      obtain ⟨x6', lp⟩ := lr_loop (layer := .lst ((layM rows s q).map wD)) (x2 := some (nI q)) (x6 := x6) (found := .lst ((foundD rows s (q + 1)).map wD)) R hs (show q < 6 by omega)
      have hA2 : dSeqI (dVar 1) (lrE (rowsT rows) (.lst ((layM rows s q).map wD)) (some (nI q)) s (.lst ((foundD rows s (q + 1)).map wD)) (some (.lst [])) x6) = .ok ((layM rows s q).map wD) (lrE (rowsT rows) (.lst ((layM rows s q).map wD)) (some (nI q)) s (.lst ((foundD rows s (q + 1)).map wD)) (some (.lst [])) x6) := rfl
      refine ⟨_, rfl, _, .inl ((seq_next s4).trans ((seq_next s5).trans ((seq_next (for_ok hA2 lp)).trans (set_ok rfl)))), _, _, _, rfl⟩)
  rw [len_range] at l1
  have r1 : dRng1 (dCons (dVar 3) dNil) (lrE (rowsT rows) (.lst ((layM rows s 0).map wD)) none s (.lst ((foundD rows s 0).map wD)) none none) = .ok (rangeD 0 s) (lrE (rowsT rows) (.lst ((layM rows s 0).map wD)) none s (.lst ((foundD rows s 0).map wD)) none none) := rng1_ok rfl (by omega)
  refine ⟨_, dFn_ret (δ0 := [some (rowsT rows), none, none, none, none, none, none, none, none]) (d := .lst ((allR rows s).map wD)) (δ := lrE (rowsT rows) (.lst ((layM rows s (rangeD 0 s).length).map wD)) x2 s (.lst ((foundD rows s s).map wD)) x5 x6) rfl ?_⟩
  unfold d__law_rounds
  refine (seq_next p1).trans ?_
  refine (seq_next s1).trans ?_
  rw [len_range]
  refine (seq_next (for_ok r1 l1)).trans ?_
  exact ret_ok rfl
/-! the law of rounds: the draws -/
theorem callIO1_ok {n : Nat} {fn : List D → FRes} {g : DA} {x : Option D} {p p' d : D} {r : List (Option D)} {ds : List D} {outs : List (Option D)} (hg : g (x :: some p :: r) = .ok ds (x :: some p :: r)) (hn : ds.length = n) (hf : fn (p :: ds) = .ok d (some p' :: outs)) : dCallIO 1 n fn g (x :: some p :: r) = .ok d (x :: some p' :: r) := by
  unfold dCallIO
  simp [hg, hn, hf]
theorem draw1_ok {n : Nat} {c : Int} {x : Option D} {p : D} {g : DA} {r : List (Option D)} (h : Pen n p) (hn : n < 2 ^ 40) (hs : 1 ≤ c ∧ c < 1000000) (hg : ∀ p : D, g (x :: some p :: r) = .ok [.int c] (x :: some p :: r)) : ∃ (y : Nat) (p' : D), (y : Int) < c ∧ Pen (n + 1) p' ∧ dCallIO 1 1 fn__law_draw g (x :: some p :: r) = .ok (nI y) (x :: some p' :: r) := by
  obtain ⟨y, p', y0, y1, hp, e⟩ := draw_ok (many := c) h hn hs.1 (by omega)
  refine ⟨y.toNat, p', by omega, hp, callIO1_ok (ds := [.int c]) (outs := [some (.int c)]) (hg p) rfl ?_⟩
  rw [e]
  unfold nI
  rw [show ((y.toNat : Nat) : Int) = y by omega]
theorem okD_ways (ws : List Way) : okD (.lst (ws.map wD)) = true := by
  have h1 : ∀ ws : List Way, plainL (ws.map wD) = true := by
    intro ws
    induction ws with
    | nil => rfl
    | cons w ws ih =>
      rw [List.map_cons, plainL, ih, Bool.and_true]
      unfold wD
      rw [VL.plain, nI_ints]
      exact plainL_ints _
  have h2 : ∀ ws : List Way, depthL (ws.map wD) ≤ 1 := by
    intro ws
    induction ws with
    | nil => exact Nat.zero_le 1
    | cons w ws ih =>
      rw [List.map_cons, depthL]
      have : depth (wD w) = 1 := by
        unfold wD
        rw [depth, nI_ints, depthL_ints]
      omega
  unfold okD
  rw [Bool.and_eq_true, VL.plain, depth]
  have := h2 ws
  exact ⟨h1 ws, decide_eq_true (by omega)⟩
theorem eqv_way (w : Way) : eqv (wD w) (wD w) = true := by
  have h : PySem.W.alike (.tuple (toPyL (w.map nI))) (.tuple (toPyL (w.map nI))) = true := by
    simp only [PySem.W.alike]
    exact alike_ints rfl
  exact PySem.W.eqv_refl_alike _ h
theorem eq_nil (neg : Bool) (ws : List Way) : eqD neg (.lst (ws.map wD)) (.lst []) = some (.bl (if neg then !ws.isEmpty else ws.isEmpty)) := by
  have h1 := okD_ways ws
  have h2 : okD (.lst []) = true := rfl
  have h3 : eqv (.lst (ws.map wD)) (.lst []) = ws.isEmpty := by
    cases ws with
    | nil => rfl
    | cons w ws => rfl
  unfold eqD
  rw [if_pos ⟨h1, h2⟩, h3]
theorem eq_way (neg : Bool) (w : Way) : eqD neg (wD w) (wD w) = some (.bl (if neg then false else true)) := by
  unfold eqD
  rw [if_pos ⟨okD_way w, okD_way w⟩, eqv_way]
  cases neg <;> rfl

/-! the law of rounds: the values -/
def IsV (d : D) : Prop := (∃ l : List D, d = .tup l ∧ l.length < 100000 ∧ ∀ x ∈ l, Simple x) ∨ ∃ l : List D, d = .lst l
theorem isV_tup {l : List D} (hl : l.length < 100000) (h : ∀ x ∈ l, Simple x) : IsVal (.tup l) := .inl ⟨l, rfl, hl, h⟩
theorem simple_ways (w : Way) : ∀ x ∈ w.map nI, Simple x := fun x hx => by
  obtain ⟨i, _, rfl⟩ := List.mem_map.mp hx
  exact simple_int _
theorem sli_drop {f g : DE} {δ : List (Option D)} {v : Way} {j : Nat} (hj : j ≤ v.length) (hf : f δ = .ok (wD v) δ) (hg : g δ = .ok (nI j) δ) : dSli sliA f (dPart g) dNo0 δ = .ok (wD (v.drop j)) δ := by
  have h : sliA (wD v) (some (j : Int)) none = some (wD (v.drop j)) := by
    show some (D.tup (VL.cutD (v.map nI) (some (j : Int)) none)) = _
    rw [cut_drop (by rw [List.length_map]; exact hj), ← List.map_drop]
    rfl
  have hp : dPart g δ = .ok (some (j : Int)) δ := by unfold dPart; rw [hg, e_bind_ok]; rfl
  have hn : dNo0 δ = .ok none δ := rfl
  unfold dSli
  rw [hf, e_bind_ok, hp, e_bind_ok, hn, e_bind_ok, h]
  rfl
theorem add_tups {a b : List D} (h : a.length + b.length ≤ 1000000) : add4D (.tup a) (.tup b) = some (.tup (a ++ b)) := by
  have hz := sizeLine_big
  show addD (.tup a) (.tup b) = _
  simp only [addD]
  rw [if_pos (by omega)]

/-! equal tuples -/
structure Pl (k : Nat) (d : D) : Prop where
  pl : VL.plain d = true
  dp : depth d ≤ k
theorem plL_of {k : Nat} : ∀ {l : List D}, (∀ d ∈ l, Pl k d) → plainL l = true ∧ depthL l ≤ k
  | [], _ => ⟨rfl, Nat.zero_le _⟩
  | d :: l, h => by
    have h1 := h d (List.mem_cons_self ..)
    have h2 := plL_of (l := l) fun x hx => h x (List.mem_cons_of_mem _ hx)
    rw [plainL, depthL, h1.pl, h2.1]
    exact ⟨rfl, Nat.max_le.mpr ⟨h1.dp, h2.2⟩⟩
theorem Pl.tup {k : Nat} {l : List D} (h : ∀ d ∈ l, Pl k d) : Pl (k + 1) (.tup l) := by
  have := plL_of h
  exact ⟨by rw [VL.plain]; exact this.1, by rw [depth]; omega⟩
theorem Pl.int {i : Int} : Pl 0 (.int i) := ⟨rfl, Nat.le_refl 0⟩
theorem Pl.ok {k : Nat} {d : D} (h : Pl k d) (hk : k ≤ 64) : okD d = true := by
  unfold okD
  rw [Bool.and_eq_true]
  exact ⟨h.pl, decide_eq_true (Nat.le_trans h.dp hk)⟩
theorem pl_way (w : Way) : Pl 1 (wD w) := Pl.tup fun d hd => by
  obtain ⟨x, _, rfl⟩ := List.mem_map.mp hd
  exact Pl.int
theorem eqv_tmap {α : Type} [DecidableEq α] (g : α → D) (h : ∀ a b, eqv (g a) (g b) = decide (a = b)) : ∀ l m : List α, eqv (.tup (l.map g)) (.tup (m.map g)) = decide (l = m)
  | [], [] => rfl
  | [], _ :: _ => rfl
  | _ :: _, [] => rfl
  | a :: l, b :: m => by
    have e : eqv (.tup ((a :: l).map g)) (.tup ((b :: m).map g)) = (eqv (g a) (g b) && eqv (.tup (l.map g)) (.tup (m.map g))) := rfl
    rw [e, h, eqv_tmap g h l m, Bool.eq_iff_iff]
    simp
theorem eqv_int (a b : Int) : eqv (.int a) (.int b) = decide (a = b) := by
  have e : eqv (.int a) (.int b) = (a == b) := rfl
  rw [e, Bool.eq_iff_iff]
  simp
theorem eqv_nI (a b : Nat) : eqv (nI a) (nI b) = decide (a = b) := by
  unfold nI
  rw [eqv_int, Bool.eq_iff_iff]
  simp
  omega
theorem eqv_wD (a b : Way) : eqv (wD a) (wD b) = decide (a = b) := eqv_tmap nI eqv_nI a b
theorem eqv_rowsT (a b : List (List Int)) : eqv (rowsT a) (rowsT b) = decide (a = b) := eqv_tmap (fun r : List Int => D.tup (r.map .int)) (fun x y => eqv_tmap D.int eqv_int x y) a b
theorem eqv_tways (a b : List Way) : eqv (.tup (a.map wD)) (.tup (b.map wD)) = decide (a = b) := eqv_tmap wD eqv_wD a b
theorem eqD_of {neg : Bool} {d e : D} {b : Bool} (h1 : okD d = true) (h2 : okD e = true) (h : eqv d e = b) : eqD neg d e = some (.bl (if neg then !b else b)) := by
  unfold eqD
  rw [if_pos ⟨h1, h2⟩, h]
theorem okD_rowsT (a : List (List Int)) : okD (rowsT a) = true := (Pl.tup (k := 1) fun d hd => by
  obtain ⟨r, _, rfl⟩ := List.mem_map.mp hd
  exact Pl.tup fun x hx => by
    obtain ⟨i, _, rfl⟩ := List.mem_map.mp hx
    exact Pl.int).ok (by decide)
theorem okD_tways (a : List Way) : okD (.tup (a.map wD)) = true := (Pl.tup (k := 1) fun d hd => by
  obtain ⟨r, _, rfl⟩ := List.mem_map.mp hd
  exact pl_way r).ok (by decide)
theorem eq_wD (neg : Bool) (a b : Way) : eqD neg (wD a) (wD b) = some (.bl (if neg then !decide (a = b) else decide (a = b))) := eqD_of (okD_way a) (okD_way b) (eqv_wD a b)
theorem eq_rowsT (neg : Bool) (a b : List (List Int)) : eqD neg (rowsT a) (rowsT b) = some (.bl (if neg then !decide (a = b) else decide (a = b))) := eqD_of (okD_rowsT a) (okD_rowsT b) (eqv_rowsT a b)
theorem eq_tways (neg : Bool) (a b : List Way) : eqD neg (.tup (a.map wD)) (.tup (b.map wD)) = some (.bl (if neg then !decide (a = b) else decide (a = b))) := eqD_of (okD_tways a) (okD_tways b) (eqv_tways a b)

/-! arrows of a web -/
/-- a list that a loop makes longer -/
theorem acc_gen {st : D → List (Option D) → Option (List (Option D))} {body : DS} {m : Nat} (out : D → List D) (Inv : List D → List (Option D) → Prop) : ∀ (xs acc : List D) (δ : List (Option D)), acc.length + xs.length * m ≤ 1000000 → Inv acc δ →
    (∀ d ∈ xs, (out d).length ≤ m ∧ ∀ acc δ, Inv acc δ → acc.length + m ≤ 1000000 → ∃ δ1, st d δ = some δ1 ∧ ∃ δ2, body δ1 = .next δ2 ∧ Inv (acc ++ out d) δ2) →
    ∃ δ', forD st body xs δ = .next δ' ∧ Inv (acc ++ xs.flatMap out) δ'
  | [], acc, δ, _, h, _ => ⟨δ, rfl, by simpa using h⟩
  | x :: xs, acc, δ, hl, h, step => by
    rw [List.length_cons, Nat.succ_mul] at hl
    obtain ⟨h0, h1⟩ := step x (List.mem_cons_self ..)
    obtain ⟨δ1, e1, δ2, e2, h2⟩ := h1 acc δ h (by omega)
    obtain ⟨δ', e3, h3⟩ := acc_gen out Inv xs (acc ++ out x) δ2 (by rw [List.length_append]; omega) h2 fun d hd => step d (List.mem_cons_of_mem _ hd)
    refine ⟨δ', (forD_step e1 e2).trans e3, ?_⟩
    rw [List.flatMap_cons, ← List.append_assoc]
    exact h3
/-- x += f, where f leaves the slots as they are -/
theorem acc_loop {k kv m : Nat} {f : DE} {xs l0 : List D} {v : Option D} (out : D → List D) (E : D → Option D → List (Option D)) (hl : l0.length + xs.length * m ≤ 1000000) (h1 : ∀ a v, dVar k (E a v) = .ok a (E a v)) (h2 : ∀ a v b, (E a v).set k (some b) = E b v) (h3 : ∀ a v d, gV kv d (E a v) = some (E a (some d)))
    (h : ∀ d ∈ xs, (out d).length ≤ m ∧ ∀ a, f (E a (some d)) = .ok (.lst (out d)) (E a (some d))) :
    ∃ v', forD (gV kv) (dSet k (dBin add4D (dVar k) f)) xs (E (.lst l0) v) = .next (E (.lst (l0 ++ xs.flatMap out)) v') := by
  obtain ⟨δ', e, v', rfl⟩ := acc_gen (st := gV kv) (body := dSet k (dBin add4D (dVar k) f)) out (fun acc δ => ∃ v', δ = E (.lst acc) v') xs l0 (E (.lst l0) v) hl ⟨v, rfl⟩ (fun d hd => by
    refine ⟨(h d hd).1, ?_⟩
    rintro acc δ ⟨v', rfl⟩ ha
    refine ⟨_, h3 _ _ _, _, set_ok (bin_ok (h1 _ _) ((h d hd).2 _) (cat_lst (by have := (h d hd).1; omega))), some d, h2 _ _ _⟩)
  exact ⟨v', e⟩
def pD (p : Nat × Nat) : D := .tup [nI p.1, nI p.2]
def arrRow (rows : List (List Int)) (s i : Nat) : List (Nat × Nat) := ((List.range s).filter fun j => cell rows i j != 0).map fun j => (i, j)
def arrL (rows : List (List Int)) (s : Nat) : List (Nat × Nat) := (List.range s).flatMap (arrRow rows s)
def arrOut (rows : List (List Int)) (s : Nat) (d : D) : List D := (arrRow rows s (natOf d)).map pD
theorem arrRow_len (rows : List (List Int)) (s i : Nat) : (arrRow rows s i).length ≤ s := by
  unfold arrRow
  rw [List.length_map]
  exact Nat.le_trans (List.length_filter_le ..) (by rw [List.length_range]; exact Nat.le_refl _)
theorem arrL_len (rows : List (List Int)) (s : Nat) : (arrL rows s).length ≤ s * s := by
  have := flat_len (f := arrRow rows s) (n := s) (fun i => arrRow_len rows s i) (List.range s)
  rw [List.length_range] at this
  exact this
theorem arrL_mem {rows : List (List Int)} {s : Nat} {p : Nat × Nat} (h : p ∈ arrL rows s) : p.1 < s ∧ p.2 < s := by
  unfold arrL at h
  obtain ⟨i, hi, h⟩ := List.mem_flatMap.mp h
  unfold arrRow at h
  obtain ⟨j, hj, rfl⟩ := List.mem_map.mp h
  exact ⟨List.mem_range.mp hi, List.mem_range.mp (List.mem_filter.mp hj).1⟩
theorem arrOut_nI (rows : List (List Int)) (s i : Nat) : arrOut rows s (nI i) = (arrRow rows s i).map pD := rfl
theorem arr_flat (rows : List (List Int)) (s : Nat) : (rangeD 0 s).flatMap (arrOut rows s) = (arrL rows s).map pD := by
  rw [rangeD_nat, List.flatMap_map]
  unfold arrL
  rw [List.map_flatMap]
  rfl
/-- [(i, j) for j in range(size) if t(j)] -/
theorem arr_lc {s i ki kj : Nat} {vs : List Nat} {t : DT} {rows : List (List Int)} {δ : List (Option D)} (hs : s < 1000) (ht : ∀ j < s, t (δ.set kj (some (nI j))) = .ok (cell rows i j != 0) (δ.set kj (some (nI j)))) (hi : ∀ d : D, (δ.set kj (some d))[ki]? = some (some (nI i))) (hk : ∀ d : D, (δ.set kj (some d))[kj]? = some (some d)) (hv : ∀ d : D, wipeD (δ.set kj (some d)) vs = δ) (acc : List D) (ha : acc.length + s ≤ sizeLine) :
    lcD vs (gV kj) t (dAr dTupD (dCons (dVar ki) (dCons (dVar kj) dNil))) (rangeD 0 s) acc δ = .ok (acc ++ (arrRow rows s i).map pD) δ := by
  have := lcD_pureA (vs := vs) (s := gV kj) (t := t) (f := dAr dTupD (dCons (dVar ki) (dCons (dVar kj) dNil))) (δ := δ) (fun d => cell rows i (natOf d) != 0) (fun d => pD (i, natOf d)) (rangeD 0 s) acc (by rw [len_range]; exact ha) (fun d hd => by
    obtain ⟨j, hj, rfl⟩ := mem_range hd
    exact ⟨_, e_gV, ht j hj, fun _ => ar_ok (cons_ok (by rw [e_dVar, hi]) (cons_ok (by rw [e_dVar, hk]; rfl) e_dNil)) (dTupD_ok (by simp)), hv _⟩)
  rw [this]
  congr 2
  unfold arrRow
  rw [rangeD_nat, List.filter_map, List.map_map, List.map_map]
  rfl
theorem e_neI {i j : Int} : eqD true (.int i) (.int j) = some (.bl (i != j)) := rfl
theorem arrows_ok {s : Nat} {rows : List (List Int)} (R : IsRows s rows) (hs : s < 1000) : ∃ o, fn_arrows [webD rows] = .ok (.tup ((arrL rows s).map pD)) o := by
  have hz := sizeLine_big
  refine ⟨_, dFn_ret (δ0 := [some (webD rows), none, none]) (d := .tup ((arrL rows s).map pD)) (δ := [some (webD rows), none, none]) rfl ?_⟩
  unfold d_arrows
  have rg : ∀ x y : Option D, dRng1 (dCons (dUn (fldD ["Web"] "size") (dVar 0)) dNil) [some (webD rows), x, y] = .ok (rangeD 0 s) [some (webD rows), x, y] := fun x y => e_rng1 (cons_ok (un_ok rfl (by rw [webD_size, R.len])) e_dNil) (by omega) (by omega)
  have hss : s * s < 1000 * 1000 := Nat.lt_of_le_of_lt (Nat.mul_le_mul_left s (by omega : s ≤ 1000)) (Nat.mul_lt_mul_of_pos_right hs (by decide))
  have e := lcD2_pure (vs := [1, 2]) (vs1 := [2]) (s := gV 1) (s1 := gV 2) (t1 := dTst asB (dBin (eqD true) (dBin idxD (dBin idxD (dUn (fldD ["Web"] "rows") (dVar 0)) (dVar 1)) (dVar 2)) (dC (.int 0)))) (g1 := dRng1 (dCons (dUn (fldD ["Web"] "size") (dVar 0)) dNil)) (f := dAr dTupD (dCons (dVar 1) (dCons (dVar 2) dNil))) (δ := [some (webD rows), none, none]) (m := s)
    (arrOut rows s) (rangeD 0 s) [] (by rw [len_range, List.length_nil]; omega) (fun d hd => by
      obtain ⟨i, hi, rfl⟩ := mem_range hd
      refine ⟨?_, [some (webD rows), some (nI i), none], [some (webD rows), some (nI i), none], rangeD 0 s, rfl, rg _ _, fun acc ha => ?_, rfl⟩
      · show ((arrRow rows s i).map pD).length ≤ s
        rw [List.length_map]; exact arrRow_len rows s i
      · exact arr_lc (t := dTst asB (dBin (eqD true) (dBin idxD (dBin idxD (dUn (fldD ["Web"] "rows") (dVar 0)) (dVar 1)) (dVar 2)) (dC (.int 0)))) (i := i) (ki := 1) (kj := 2) (vs := [2]) (rows := rows) (δ := [some (webD rows), some (nI i), none]) hs (fun j hj => tst_ok (d := .bl (cell rows i j != 0)) (bin_ok (cell_ok R (un_ok rfl (webD_rows rows)) rfl rfl hi hj) e_dC e_neI) rfl) (fun d => rfl) (fun d => rfl) (fun d => rfl) acc ha)
  rw [arr_flat, List.nil_append] at e
  refine ret_ok (ar_ok (cons_ok (d := .lst ((arrL rows s).map pD)) (δ1 := [some (webD rows), none, none]) ?_ e_dNil) rfl)
  rw [show dLc2 [1, 2] (dRng1 (dCons (dUn (fldD ["Web"] "size") (dVar 0)) dNil)) (gV 1) dYes (dRng1 (dCons (dUn (fldD ["Web"] "size") (dVar 0)) dNil)) [2] (gV 2) (dTst asB (dBin (eqD true) (dBin idxD (dBin idxD (dUn (fldD ["Web"] "rows") (dVar 0)) (dVar 1)) (dVar 2)) (dC (.int 0)))) (dAr dTupD (dCons (dVar 1) (dCons (dVar 2) dNil))) [some (webD rows), none, none] = (dRng1 (dCons (dUn (fldD ["Web"] "size") (dVar 0)) dNil) [some (webD rows), none, none]).bind (fun xs δ1 => match lcD2 [1, 2] (gV 1) dYes (dRng1 (dCons (dUn (fldD ["Web"] "size") (dVar 0)) dNil)) [2] (gV 2) (dTst asB (dBin (eqD true) (dBin idxD (dBin idxD (dUn (fldD ["Web"] "rows") (dVar 0)) (dVar 1)) (dVar 2)) (dC (.int 0)))) (dAr dTupD (dCons (dVar 1) (dCons (dVar 2) dNil))) xs [] (wipeD δ1 [1, 2]) with
    | .ok l δ2 => .ok (.lst l) (backD δ1 δ2 [1, 2])
    | _ => .no) from rfl, rg, e_bind_ok]
  rw [show wipeD [some (webD rows), none, none] [1, 2] = [some (webD rows), none, none] from rfl, e]
  rfl
theorem law_arrows_ok {s : Nat} {rows : List (List Int)} (R : IsRows s rows) (hs : s < 1000) : ∃ o, fn__law_arrows [rowsT rows] = .ok (.lst ((arrL rows s).map pD)) o := by
  have hz := sizeLine_big
  have hss : s * s < 1000 * 1000 := Nat.lt_of_le_of_lt (Nat.mul_le_mul_left s (by omega : s ≤ 1000)) (Nat.mul_lt_mul_of_pos_right hs (by decide))
  have rg : ∀ δ : List (Option D), dVar 0 δ = .ok (rowsT rows) δ → dRng1 (dCons (dAr lenD (dCons (dVar 0) dNil)) dNil) δ = .ok (rangeD 0 s) δ := fun δ h => by
    refine e_rng1 (cons_ok (ar_ok (cons_ok h e_dNil) ?_) e_dNil) (by omega) (by omega)
    unfold rowsT
    rw [e_lenT, List.length_map, R.len]
  obtain ⟨v', e⟩ := acc_loop (k := 1) (kv := 2) (m := s) (f := dLc [3] (dRng1 (dCons (dAr lenD (dCons (dVar 0) dNil)) dNil)) (gV 3) (dTst asB (dBin (eqD true) (dBin idxD (dBin idxD (dVar 0) (dVar 2)) (dVar 3)) (dC (.int 0)))) (dAr dTupD (dCons (dVar 2) (dCons (dVar 3) dNil)))) (xs := rangeD 0 s) (l0 := []) (v := none) (arrOut rows s) (fun a v => [some (rowsT rows), some a, v, none]) (by rw [len_range, List.length_nil]; omega) (fun a v => rfl) (fun a v b => rfl) (fun a v d => rfl) (fun d hd => by
    obtain ⟨i, hi, rfl⟩ := mem_range hd
    refine ⟨?_, fun a => ?_⟩
    · show ((arrRow rows s i).map pD).length ≤ s
      rw [List.length_map]; exact arrRow_len rows s i
    · have := arr_lc (i := i) (ki := 2) (kj := 3) (vs := [3]) (rows := rows) (δ := [some (rowsT rows), some a, some (nI i), none]) (t := dTst asB (dBin (eqD true) (dBin idxD (dBin idxD (dVar 0) (dVar 2)) (dVar 3)) (dC (.int 0)))) hs (fun j hj => tst_ok (d := .bl (cell rows i j != 0)) (bin_ok (cell_ok R rfl rfl rfl hi hj) e_dC e_neI) rfl) (fun d => rfl) (fun d => rfl) (fun d => rfl) [] (by rw [List.length_nil]; omega)
      rw [List.nil_append] at this
      exact lc_ok (vs := [3]) (δ := [some (rowsT rows), some a, some (nI i), none]) (δ1 := [some (rowsT rows), some a, some (nI i), none]) (δ2 := [some (rowsT rows), some a, some (nI i), none]) (rg _ rfl) this)
  rw [arr_flat, List.nil_append] at e
  refine ⟨_, dFn_ret (δ0 := [some (rowsT rows), none, none, none]) (d := .lst ((arrL rows s).map pD)) (δ := [some (rowsT rows), some (.lst ((arrL rows s).map pD)), v', none]) rfl ?_⟩
  unfold d__law_arrows
  refine (seq_next (set_ok (ar_ok e_dNil (dLstD_ok (by simp))))).trans ?_
  refine (seq_next (for_ok (rg _ rfl) e)).trans ?_
  exact ret_ok rfl

/-! rounds, in their order -/
theorem alike_nats : ∀ {x y : Way}, PySem.W.alikeAll (toPyL (x.map nI)) (toPyL (y.map nI)) = true
  | [], [] => rfl
  | [], _ :: _ => rfl
  | _ :: _, [] => rfl
  | a :: x, b :: y => by
    have := alike_nats (x := x) (y := y)
    simp only [List.map_cons, toPyL, nI, toPy, PySem.W.alikeAll, PySem.W.alike, Bool.true_and]
    exact this
theorem sortOk_ways {ws : List Way} (h : ∀ w ∈ ws, w ≠ []) : sortOk (ws.map wD) = true := by
  unfold sortOk
  rw [Bool.and_eq_true, Bool.and_eq_true, Bool.or_eq_true]
  refine ⟨⟨?_, ?_⟩, .inl ?_⟩
  · rw [List.all_eq_true]
    intro d hd
    obtain ⟨w, _, rfl⟩ := List.mem_map.mp hd
    exact okD_way w
  · rw [List.all_eq_true]
    intro d hd
    rw [List.all_eq_true]
    intro e he
    obtain ⟨w, hw, rfl⟩ := List.mem_map.mp hd
    obtain ⟨v, hv, rfl⟩ := List.mem_map.mp he
    show PySem.W.alike (.tuple (toPyL (w.map nI))) (.tuple (toPyL (v.map nI))) = true
    simp only [PySem.W.alike]
    exact alike_nats
  · rw [List.all_eq_true]
    intro d hd
    obtain ⟨w, hw, rfl⟩ := List.mem_map.mp hd
    cases w with
    | nil => exact absurd rfl (h [] hw)
    | cons a w => rfl
/-- ways in their order -/
def srtW (ws : List Way) : List Way := ws.mergeSort fun x y => dataLeD (wD x) (wD y)
theorem srt_ways {ws : List Way} (hl : ws.length ≤ 1000000) (h : ∀ w ∈ ws, w ≠ []) : sortD [.lst (ws.map wD)] = some (.lst ((srtW ws).map wD)) := by
  have hz := sizeLine_big
  show (if sortOk (ws.map wD) = true ∧ (ws.map wD).length ≤ sizeLine then some (D.lst ((ws.map wD).mergeSort dataLeD)) else none) = _
  rw [if_pos ⟨sortOk_ways h, by rw [List.length_map]; omega⟩]
  unfold srtW
  rw [List.map_mergeSort (s := dataLeD) (fun _ _ _ _ => rfl)]
theorem srt_mem {ws : List Way} {w : Way} : w ∈ srtW ws ↔ w ∈ ws := (List.mergeSort_perm ws _).mem_iff
theorem srt_len (ws : List Way) : (srtW ws).length = ws.length := (List.mergeSort_perm ws _).length_eq
theorem allR_len {s : Nat} {rows : List (List Int)} (hs : s ≤ 6) : (allR rows s).length ≤ 300000 := by
  have h := found_len (rows := rows) (k := s) hs hs
  have e : allR rows s = foundD rows s s := rfl
  rw [e]
  omega
theorem allR_ne {s : Nat} {rows : List (List Int)} : ∀ w ∈ allR rows s, w ≠ [] := fun w h e => by
  have := (allR_mem h).1
  rw [e] at this
  simp at this
def rOut (rows : List (List Int)) (s k : Nat) (d : D) : List D := ((layL rows s (natOf d) k).filter (clo rows)).map wD
def rOut2 (rows : List (List Int)) (s : Nat) (d : D) : List D := (rangeD 0 s).flatMap (rOut rows s (natOf d - 1))
theorem layC_len {s a k : Nat} {rows : List (List Int)} (hs : s ≤ 6) (hk : k < 6) : ((layL rows s a k).filter (clo rows)).length ≤ 7776 := by
  refine Nat.le_trans (List.length_filter_le ..) (Nat.le_trans (layL_len rows s a k) (Nat.le_trans (Nat.pow_le_pow_left hs k) ?_))
  exact Nat.le_trans (Nat.pow_le_pow_right (by decide) (show k ≤ 5 by omega)) (by decide)
theorem rOut2_len {s k : Nat} {rows : List (List Int)} (hs : s ≤ 6) (hk : k < 6) : (rOut2 rows s (nI (k + 1))).length ≤ 46656 := by
  have := flat_len (f := fun a => ((layL rows s a k).filter (clo rows)).map wD) (n := 7776) (fun a => by rw [List.length_map]; exact layC_len hs hk) (List.range s)
  have e : rOut2 rows s (nI (k + 1)) = (List.range s).flatMap fun a => ((layL rows s a k).filter (clo rows)).map wD := by
    unfold rOut2
    rw [rangeD_nat, List.flatMap_map]
    rfl
  rw [e]
  rw [List.length_range] at this
  omega
theorem rounds_flat (rows : List (List Int)) (s : Nat) : ((rg 1 (s + 1)).map nI).flatMap (rOut2 rows s) = (allR rows s).map wD := by
  rw [allR_eq, List.map_flatMap, List.flatMap_map]
  unfold rg
  rw [List.flatMap_map, Nat.add_sub_cancel]
  congr 1
  funext k
  rw [List.map_flatMap]
  unfold rOut2
  rw [rangeD_nat, List.flatMap_map]
  congr 1
  funext a
  show ((layL rows s a (1 + k - 1)).filter (clo rows)).map wD = _
  rw [Nat.add_sub_cancel_left]
theorem rounds_ok {s : Nat} {rows : List (List Int)} (R : IsRows s rows) (hs : s ≤ 6) : ∃ o, fn_rounds [webD rows] = .ok (.tup ((srtW (allR rows s)).map wD)) o := by
  have hz := sizeLine_big
  have hr : dRng2 (dCons (dC (.int 1)) (dCons (dBin add4D (dUn (fldD ["Web"] "size") (dVar 0)) (dC (.int 1))) dNil)) [some (webD rows), some (.lst []), none, none] = .ok ((rg 1 (s + 1)).map nI) [some (webD rows), some (.lst []), none, none] := by
    have := e_rng2 (f := dCons (dC (.int 1)) (dCons (dBin add4D (dUn (fldD ["Web"] "size") (dVar 0)) (dC (.int 1))) dNil)) (δ := [some (webD rows), some (.lst []), none, none]) (i := ((1 : Nat) : Int)) (j := ((s + 1 : Nat) : Int)) (cons_ok e_dC (cons_ok (bin_ok (un_ok rfl (webD_size rows)) e_dC (by rw [R.len]; rfl)) e_dNil)) (by omega) (by omega) (by omega) (by omega)
    rwa [rg_D] at this
  obtain ⟨δ', e, x, y, rfl⟩ := acc_gen (m := 46656) (st := gV 2) (body := dFor (dRng1 (dCons (dUn (fldD ["Web"] "size") (dVar 0)) dNil)) (gV 3) (dSet 1 (dBin add4D (dVar 1) (dCall 3 fn_rounds_from (dCons (dVar 0) (dCons (dVar 3) (dCons (dVar 2) dNil)))))))
    (rOut2 rows s) (fun acc δ => ∃ x y, δ = [some (webD rows), some (.lst acc), x, y]) ((rg 1 (s + 1)).map nI) [] [some (webD rows), some (.lst []), none, none] (by
      have : ((rg 1 (s + 1)).map nI).length ≤ 6 := by unfold rg; rw [List.length_map, List.length_map, List.length_range]; omega
      have := Nat.mul_le_mul_right 46656 this
      rw [List.length_nil]
      omega) ⟨none, none, rfl⟩ (fun d hd => by
    obtain ⟨k1, hk, rfl⟩ := List.mem_map.mp hd
    have hk1 := mem_rg hk
    obtain ⟨k, rfl⟩ : ∃ k, k1 = k + 1 := ⟨k1 - 1, by omega⟩
    have hk6 : k < 6 := by omega
    refine ⟨rOut2_len hs hk6, ?_⟩
    rintro acc δ ⟨x, y, rfl⟩ ha
    refine ⟨_, rfl, ?_⟩
    obtain ⟨v', e⟩ := acc_loop (k := 1) (kv := 3) (m := 7776) (f := dCall 3 fn_rounds_from (dCons (dVar 0) (dCons (dVar 3) (dCons (dVar 2) dNil)))) (xs := rangeD 0 s) (l0 := acc) (v := y) (rOut rows s k) (fun a v => [some (webD rows), some a, some (nI (k + 1)), v]) (by
      rw [len_range]
      have := Nat.mul_le_mul_right 7776 hs
      omega) (fun a v => rfl) (fun a v b => rfl) (fun a v d => rfl) (fun d hd => by
      obtain ⟨a, ha, rfl⟩ := mem_range hd
      obtain ⟨o, ef⟩ := rounds_from_ok (a := a) (k := k) R ha hs hk6
      refine ⟨?_, fun b => call_ok (ds := [webD rows, nI a, nI (k + 1)]) rfl rfl ef⟩
      show (((layL rows s a k).filter (clo rows)).map wD).length ≤ 7776
      rw [List.length_map]
      exact layC_len hs hk6)
    have hi : dRng1 (dCons (dUn (fldD ["Web"] "size") (dVar 0)) dNil) [some (webD rows), some (.lst acc), some (nI (k + 1)), y] = .ok (rangeD 0 s) [some (webD rows), some (.lst acc), some (nI (k + 1)), y] := e_rng1 (cons_ok (un_ok rfl (by rw [webD_size, R.len])) e_dNil) (by omega) (by omega)
    have eo : rOut2 rows s (nI (k + 1)) = (rangeD 0 s).flatMap (rOut rows s k) := by
      unfold rOut2
      congr 1
    rw [eo]
    exact ⟨_, for_ok hi e, some (nI (k + 1)), v', rfl⟩)
  rw [rounds_flat, List.nil_append] at e
  refine ⟨_, dFn_ret (δ0 := [some (webD rows), none, none, none]) (d := .tup ((srtW (allR rows s)).map wD)) (δ := [some (webD rows), some (.lst ((allR rows s).map wD)), x, y]) rfl ?_⟩
  unfold d_rounds
  refine (seq_next (set_ok (ar_ok e_dNil (dLstD_ok (by simp))))).trans ?_
  refine (seq_next (for_ok hr e)).trans ?_
  have hl := allR_len (rows := rows) hs
  exact ret_ok (ar_ok (cons_ok (ar_ok (cons_ok rfl e_dNil) (srt_ways (by omega) allR_ne)) e_dNil) rfl)
theorem bad_rounds_ok {s : Nat} {rows : List (List Int)} (R : IsRows s rows) (hs : s ≤ 6) : ∃ o, fn_bad_rounds [webD rows] = .ok (.tup (((srtW (allR rows s)).filter (badW rows)).map wD)) o := by
  have hz := sizeLine_big
  obtain ⟨o, e⟩ := rounds_ok R hs
  have hA : dSeqI (dCall 1 fn_rounds (dCons (dVar 0) dNil)) [some (webD rows), none] = .ok ((srtW (allR rows s)).map wD) [some (webD rows), none] := seqI_ok (call_ok (ds := [webD rows]) rfl rfl e) rfl
  have hl := allR_len (rows := rows) hs
  have l1 := lcD_pure (vs := [1]) (s := gV 1) (t := dTst truth (dCall 2 fn_is_bad (dCons (dVar 0) (dCons (dVar 1) dNil)))) (f := dVar 1) (δ := [some (webD rows), none]) (fun d => badW rows (unW d)) (fun d => d) (xs := (srtW (allR rows s)).map wD) (by rw [List.length_map, srt_len]; omega) (fun d hd => by
    obtain ⟨w, hw, rfl⟩ := List.mem_map.mp hd
    rw [srt_mem] at hw
    obtain ⟨o, eb⟩ := is_bad_ok R (allR_ne w hw) (allR_mem hw).2.2
    rw [unW_wD]
    exact ⟨_, rfl, tst_ok (d := .bl (badW rows w)) (call_ok (ds := [webD rows, wD w]) rfl rfl eb) rfl, fun _ => rfl, rfl⟩)
  have e2 : (((srtW (allR rows s)).map wD).filter fun d => badW rows (unW d)).map (fun d => d) = ((srtW (allR rows s)).filter (badW rows)).map wD := by
    have hf : ((fun d => badW rows (unW d)) ∘ wD) = badW rows := funext fun w => congrArg (badW rows) (unW_wD w)
    rw [List.map_id', List.filter_map, hf]
  rw [e2] at l1
  refine ⟨_, dFn_ret (δ0 := [some (webD rows), none]) (d := .tup (((srtW (allR rows s)).filter (badW rows)).map wD)) (δ := [some (webD rows), none]) rfl ?_⟩
  unfold d_bad_rounds
  exact ret_ok (ar_ok (cons_ok (lc_ok (vs := [1]) (δ1 := [some (webD rows), none]) (δ2 := [some (webD rows), none]) hA l1) e_dNil) rfl)

/-! arrows along a round -/
def alongL (w : Way) : List (Nat × Nat) := (List.range w.length).map fun i => (w.getD ((i + 1) % w.length) 0, w.getD i 0)
def leP (p q : Nat × Nat) : Bool := decide (p.1 < q.1 ∨ (p.1 = q.1 ∧ p.2 ≤ q.2))
def srtP (ps : List (Nat × Nat)) : List (Nat × Nat) := ps.mergeSort leP
theorem leP_D (p q : Nat × Nat) : leP p q = dataLeD (pD p) (pD q) := by
  show leP p q = !PySem.W.dataLt (.tuple [.int q.1, .int q.2]) (.tuple [.int p.1, .int p.2])
  rw [PySem.W.dataLt_ii]
  unfold leP
  rw [← decide_not]
  exact decide_eq_decide.mpr (by omega)
theorem okD_pD (p : Nat × Nat) : okD (pD p) = true := okD_way [p.1, p.2]
theorem srt_pairs {ps : List (Nat × Nat)} (hl : ps.length ≤ 1000000) : sortD [.lst (ps.map pD)] = some (.lst ((srtP ps).map pD)) := by
  have hz := sizeLine_big
  have h1 : sortOk (ps.map pD) = true := by
    have := sortOk_ways (ws := ps.map fun p => [p.1, p.2]) (fun w h e => by
      obtain ⟨p, _, rfl⟩ := List.mem_map.mp h
      cases e)
    rwa [List.map_map] at this
  show (if sortOk (ps.map pD) = true ∧ (ps.map pD).length ≤ sizeLine then some (D.lst ((ps.map pD).mergeSort dataLeD)) else none) = _
  rw [if_pos ⟨h1, by rw [List.length_map]; omega⟩]
  unfold srtP
  rw [List.map_mergeSort (s := dataLeD) (fun p _ q _ => leP_D p q)]
theorem srtP_perm {ps qs : List (Nat × Nat)} (h : ps.Perm qs) : srtP ps = srtP qs := by
  have tr : ∀ a b c : Nat × Nat, leP a b = true → leP b c = true → leP a c = true := fun a b c h1 h2 => by
    unfold leP at *
    rw [decide_eq_true_eq] at *
    omega
  have tt : ∀ a b : Nat × Nat, (leP a b || leP b a) = true := fun a b => by
    unfold leP
    rw [Bool.or_eq_true, decide_eq_true_eq, decide_eq_true_eq]
    omega
  refine List.Perm.eq_of_pairwise (le := fun a b => leP a b = true) (fun a b _ _ h1 h2 => ?_) (List.pairwise_mergeSort tr tt ps) (List.pairwise_mergeSort tr tt qs) (((List.mergeSort_perm ps leP).trans h).trans (List.mergeSort_perm qs leP).symm)
  unfold leP at h1 h2
  rw [decide_eq_true_eq] at h1 h2
  exact Prod.ext (by omega) (by omega)
theorem along_len (w : Way) : (alongL w).length = w.length := by unfold alongL; rw [List.length_map, List.length_range]
/-- the comprehension of both -/
theorem along_lc {w : Way} {f : DE} (hw : w.length < 1000) (hf : ∀ i, i < w.length → f [some (wD w), some (nI i)] = .ok (nI ((i + 1) % w.length)) [some (wD w), some (nI i)]) :
    dAr tupOf (dCons (dAr sortD (dCons (dLc [1] (dRng1 (dCons (dAr lenD (dCons (dVar 0) dNil)) dNil)) (gV 1) dYes (dAr dTupD (dCons (dBin idxD (dVar 0) f) (dCons (dBin idxD (dVar 0) (dVar 1)) dNil)))) dNil)) dNil) [some (wD w), none] = .ok (.tup ((srtP (alongL w)).map pD)) [some (wD w), none] := by
  have hz := sizeLine_big
  have r1 : dRng1 (dCons (dAr lenD (dCons (dVar 0) dNil)) dNil) [some (wD w), none] = .ok (rangeD 0 w.length) [some (wD w), none] := e_rng1 (cons_ok (lenW rfl) e_dNil) (by omega) (by omega)
  have l1 := lcD_map (vs := [1]) (s := gV 1) (f := dAr dTupD (dCons (dBin idxD (dVar 0) f) (dCons (dBin idxD (dVar 0) (dVar 1)) dNil))) (δ := [some (wD w), none]) (fun d => pD (w.getD ((natOf d + 1) % w.length) 0, w.getD (natOf d) 0)) (xs := rangeD 0 w.length) (by rw [len_range]; omega) (fun d hd => by
    obtain ⟨i, hi, rfl⟩ := mem_range hd
    refine ⟨_, rfl, ?_, rfl⟩
    exact ar_ok (cons_ok (bin_ok rfl (hf i hi) (way_idx (Nat.mod_lt _ (by omega)))) (cons_ok (bin_ok rfl rfl (way_idx hi)) e_dNil)) (dTupD_ok (by simp)))
  have e : (rangeD 0 w.length).map (fun d => pD (w.getD ((natOf d + 1) % w.length) 0, w.getD (natOf d) 0)) = (alongL w).map pD := by
    unfold alongL
    rw [rangeD_nat, List.map_map, List.map_map]
    rfl
  rw [e] at l1
  exact ar_ok (cons_ok (ar_ok (cons_ok (lc_ok (vs := [1]) (δ1 := [some (wD w), none]) (δ2 := [some (wD w), none]) r1 l1) e_dNil) (srt_pairs (by rw [along_len]; omega))) e_dNil) rfl
theorem next_ix {w : Way} {i : Nat} (hi : i < w.length) : modD (.int ((i : Int) + 1)) (.int (w.length : Nat)) = some (nI ((i + 1) % w.length)) := by
  rw [e_mod (by omega)]
  unfold nI
  rw [Int.natCast_emod]
  rfl
theorem arrows_along_ok {w : Way} (hw : w.length < 1000) : ∃ o, fn_arrows_along [wD w] = .ok (.tup ((srtP (alongL w)).map pD)) o := by
  refine ⟨_, dFn_ret (δ0 := [some (wD w), none]) (d := .tup ((srtP (alongL w)).map pD)) (δ := [some (wD w), none]) rfl ?_⟩
  unfold d_arrows_along
  exact ret_ok (along_lc hw fun i hi => bin_ok (a := .int ((i : Int) + 1)) (b := .int (w.length : Nat)) (bin_ok rfl rfl e_add) (lenW rfl) (next_ix hi))
theorem law_arrows_along_ok {w : Way} (hw : w.length < 1000) : ∃ o, fn__law_arrows_along [wD w] = .ok (.tup ((srtP (alongL w)).map pD)) o := by
  refine ⟨_, dFn_ret (δ0 := [some (wD w), none]) (d := .tup ((srtP (alongL w)).map pD)) (δ := [some (wD w), none]) rfl ?_⟩
  unfold d__law_arrows_along
  exact ret_ok (along_lc hw fun i hi => bin_ok (a := .int ((i : Int) + 1)) (b := .int (w.length : Nat)) (ar_ok (cons_ok (bin_ok rfl rfl e_add) e_dNil) e_int) (lenW rfl) (next_ix hi))
/-- turned -/
def rot (w : Way) (y : Nat) : Way := w.drop y ++ w.take y
theorem rot_len (w : Way) (y : Nat) : (rot w y).length = w.length := by unfold rot; rw [List.length_append, List.length_drop, List.length_take]; omega
theorem rot_perm (w : Way) (y : Nat) : (rot w y).Perm w := by
  have := (List.perm_append_comm (l₁ := w.drop y) (l₂ := w.take y))
  rwa [List.take_append_drop] at this
theorem rot_get {w : Way} {y i : Nat} (hy : y < w.length) (hi : i < w.length) : (rot w y).getD i 0 = w.getD ((y + i) % w.length) 0 := by
  unfold rot
  rw [List.getD_eq_getElem?_getD, List.getD_eq_getElem?_getD]
  congr 1
  by_cases h : i < w.length - y
  · rw [List.getElem?_append_left (by rw [List.length_drop]; exact h), List.getElem?_drop, Nat.mod_eq_of_lt (by omega)]
  · rw [List.getElem?_append_right (by rw [List.length_drop]; omega), List.length_drop, List.getElem?_take_of_lt (by omega)]
    have : (y + i) % w.length = y + i - w.length := by rw [Nat.mod_eq_sub_mod (by omega), Nat.mod_eq_of_lt (by omega)]
    rw [this]
    congr 1
    omega
theorem along_rot {w : Way} {y : Nat} (hy : y < w.length) : (alongL (rot w y)).Perm (alongL w) := by
  have e : alongL (rot w y) = (alongL w).drop y ++ (alongL w).take y := by
    apply List.ext_getElem?
    intro i
    by_cases hi : i < w.length
    · have h1 : (alongL (rot w y))[i]? = some (w.getD ((y + (i + 1) % w.length) % w.length) 0, w.getD ((y + i) % w.length) 0) := by
        unfold alongL
        rw [rot_len, List.getElem?_map, List.getElem?_range hi]
        show some ((rot w y).getD ((i + 1) % w.length) 0, (rot w y).getD i 0) = _
        rw [rot_get hy (Nat.mod_lt _ (by omega)), rot_get hy hi]
      have h2 : ∀ j < w.length, (alongL w)[j]? = some (w.getD ((j + 1) % w.length) 0, w.getD j 0) := fun j hj => by
        unfold alongL
        rw [List.getElem?_map, List.getElem?_range hj]
        rfl
      have hl := along_len w
      have hm : (y + (i + 1) % w.length) % w.length = ((y + i) % w.length + 1) % w.length := by
        rw [Nat.add_mod_mod, Nat.mod_add_mod]
        rfl
      rw [h1, hm, ← h2 _ (Nat.mod_lt _ (by omega))]
      by_cases h : i < w.length - y
      · rw [List.getElem?_append_left (by rw [List.length_drop, hl]; exact h), List.getElem?_drop, Nat.mod_eq_of_lt (by omega)]
      · rw [List.getElem?_append_right (by rw [List.length_drop, hl]; omega), List.length_drop, hl, List.getElem?_take_of_lt (by omega)]
        have : (y + i) % w.length = y + i - w.length := by rw [Nat.mod_eq_sub_mod (by omega), Nat.mod_eq_of_lt (by omega)]
        rw [this]
        congr 1
        omega
    · rw [List.getElem?_eq_none (by rw [along_len, rot_len]; omega), List.getElem?_eq_none (by rw [List.length_append, List.length_drop, List.length_take, along_len]; omega)]
  rw [e]
  have := (List.perm_append_comm (l₁ := (alongL w).drop y) (l₂ := (alongL w).take y))
  rwa [List.take_append_drop] at this
/-- a round, as the program sees it -/
def IsRnd (rows : List (List Int)) (w : Way) : Prop := w.Nodup ∧ ∀ p ∈ alongL w, cell rows p.1 p.2 ≠ 0
theorem IsRnd.rot {rows : List (List Int)} {w : Way} {y : Nat} (h : IsRnd rows w) (hy : y < w.length) : IsRnd rows (rot w y) :=
  ⟨(rot_perm w y).nodup_iff.mpr h.1, fun p hp => h.2 p ((along_rot hy).mem_iff.mp hp)⟩
theorem IsRnd.prog {rows : List (List Int)} {w : Way} (h : IsRnd rows w) : progOK rows w = true := by
  unfold progOK
  rw [List.all_eq_true]
  intro i hi
  have hi := List.mem_range.mp hi
  rw [Bool.and_eq_true]
  constructor
  · rw [Bool.not_eq_true', ← Bool.not_eq_true, List.contains_iff_mem]
    intro hm
    have nd := h.1
    rw [← List.take_append_drop i w, List.nodup_append] at nd
    refine nd.2.2 _ hm _ ?_ rfl
    rw [List.getD_eq_getElem?_getD, List.getElem?_eq_getElem hi]
    have : w[i] = (w.drop i)[0]'(by rw [List.length_drop]; omega) := by rw [List.getElem_drop]; congr 1
    show w[i] ∈ w.drop i
    rw [this]
    exact List.getElem_mem _
  · rw [bne_iff_ne]
    exact h.2 (w.getD ((i + 1) % w.length) 0, w.getD i 0) (List.mem_map.mpr ⟨i, List.mem_range.mpr hi, rfl⟩)
theorem lastD_get (w : Way) : w.getLastD 0 = w.getD (w.length - 1) 0 := by
  rw [List.getLastD_eq_getLast?, List.getLast?_eq_getElem?, List.getD_eq_getElem?_getD]
theorem headD_get (w : Way) : w.headD 0 = w.getD 0 0 := by cases w <;> rfl
theorem layM_chain {rows : List (List Int)} {s : Nat} : ∀ {k : Nat} {w : Way}, w ∈ layM rows s k → w.Nodup ∧ ∀ i, i + 1 < w.length → cell rows (w.getD (i + 1) 0) (w.getD i 0) ≠ 0
  | 0, w, h => by
    simp only [layM, List.mem_map] at h
    obtain ⟨a, _, rfl⟩ := h
    exact ⟨by simp, fun i hi => by simp at hi⟩
  | k + 1, w, h => by
    simp only [layM, List.mem_flatMap] at h
    obtain ⟨v, hv, hw⟩ := h
    obtain ⟨h1, h2⟩ := layM_chain hv
    have hvl := (layM_mem hv).1
    unfold ext at hw
    obtain ⟨j, hj, rfl⟩ := List.mem_map.mp hw
    have ho := (List.mem_filter.mp hj).2
    unfold okx at ho
    rw [Bool.and_eq_true, Bool.not_eq_true', ← Bool.not_eq_true, List.contains_iff_mem, bne_iff_ne] at ho
    refine ⟨?_, fun i hi => ?_⟩
    · rw [List.nodup_append]
      exact ⟨h1, by simp, fun a ha b hb e => by rw [List.mem_singleton] at hb; subst hb; subst e; exact ho.1 ha⟩
    · rw [List.length_append, List.length_singleton] at hi
      have g : ∀ q, q < v.length → (v ++ [j]).getD q 0 = v.getD q 0 := fun q hq => by
        rw [List.getD_eq_getElem?_getD, List.getD_eq_getElem?_getD, List.getElem?_append_left hq]
      rw [g i (by omega)]
      by_cases hq : i + 1 < v.length
      · rw [g _ hq]; exact h2 i hq
      · have e1 : i + 1 = v.length := by omega
        have e2 : (v ++ [j]).getD (i + 1) 0 = j := by rw [List.getD_eq_getElem?_getD, e1, List.getElem?_append_right (Nat.le_refl _)]; simp
        rw [e2]
        have := ho.2
        rw [lastD_get] at this
        rwa [show v.length - 1 = i by omega] at this
theorem allR_rnd {rows : List (List Int)} {s : Nat} {w : Way} (h : w ∈ allR rows s) : IsRnd rows w := by
  have hl := (allR_mem h).1
  unfold allR at h
  obtain ⟨k, hk, hw⟩ := List.mem_flatMap.mp h
  obtain ⟨hw, hc⟩ := List.mem_filter.mp hw
  obtain ⟨h1, h2⟩ := layM_chain hw
  refine ⟨h1, fun p hp => ?_⟩
  unfold alongL at hp
  obtain ⟨i, hi, rfl⟩ := List.mem_map.mp hp
  have hi := List.mem_range.mp hi
  show cell rows (w.getD ((i + 1) % w.length) 0) (w.getD i 0) ≠ 0
  by_cases hq : i + 1 < w.length
  · rw [Nat.mod_eq_of_lt hq]; exact h2 i hq
  · have e1 : i + 1 = w.length := by omega
    rw [e1, Nat.mod_self]
    unfold clo at hc
    rw [bne_iff_ne, headD_get, lastD_get] at hc
    rwa [show w.length - 1 = i by omega] at hc

/-! few arrows -/
theorem cell_idxL {s i j : Nat} {rows : List (List Int)} (R : IsRows s rows) (hi : i < s) (hj : j < s) : idxD (rowsL rows) (nI i) = some (.lst ((rows.getD i []).map .int)) ∧ idxD (.lst ((rows.getD i []).map .int)) (nI j) = some (.int (cell rows i j)) := by
  have hil : i < rows.length := by rw [R.len]; exact hi
  have hg : rows.getD i [] = rows[i] := by rw [List.getD_eq_getElem?_getD, List.getElem?_eq_getElem hil]; rfl
  have hl := (R.row _ (List.getElem_mem hil)).1
  unfold cell nI
  rw [hg]
  constructor
  · have := idx_int (l := rows.map fun r => D.lst (r.map .int)) (i := (i : Nat)) (by omega) (by rw [List.length_map]; omega)
    unfold rowsL
    rw [this]
    simp
  · have := idx_int (l := rows[i].map D.int) (i := (j : Nat)) (by omega) (by rw [List.length_map]; omega)
    rw [this]
    have hj2 : j < rows[i].length := by omega
    rw [List.getD_eq_getElem?_getD, List.getElem?_eq_getElem hj2]
    simp
theorem cellL_ok {s i j : Nat} {e f g : DE} {δ δ1 δ2 δ3 : List (Option D)} {rows : List (List Int)} (R : IsRows s rows) (he : e δ = .ok (rowsL rows) δ1) (hf : f δ1 = .ok (nI i) δ2) (hg : g δ2 = .ok (nI j) δ3) (hi : i < s) (hj : j < s) : dBin idxD (dBin idxD e f) g δ = .ok (.int (cell rows i j)) δ3 :=
  bin_ok (bin_ok he hf (cell_idxL R hi hj).1) hg (cell_idxL R hi hj).2
abbrev fwE (p : D) (s max : Nat) (rows : D) (x4 x5 x6 x7 x8 : Option D) : List (Option D) := [some p, some (nI s), some (nI max), some rows, x4, x5, x6, x7, x8, none]
abbrev fwLine : DS := dAsg (dBin subD (dC (.int 1)) (dBin mulD (dC (.int 2)) (dCallIO 0 1 fn__law_draw (dCons (dC (.int 2)) dNil)))) (uIx2 3 (dBin idxD (dVar 6) (dVar 7)) (dBin idxD (dVar 6) (dBin subD (dVar 7) (dC (.int 1)))))
theorem fw_line {n s max : Nat} {p : D} {rows : List (List Int)} {line : List D} {x4 x5 x7 x8 : Option D} (h : Pen n p) (hn : n + line.length < 1000000) (R : IsRows s rows) (hl : line.length < 1000) (hm : ∀ x ∈ line, ∃ i : Nat, i < s ∧ x = nI i) :
    ∃ (rows' : List (List Int)) (p' : D) (x7' : Option D), IsRows s rows' ∧ Pen (n + line.length) p' ∧ forD (gV 7) fwLine (rangeD 0 line.length) (fwE p s max (rowsL rows) x4 x5 (some (.lst line)) x7 x8) = .next (fwE p' s max (rowsL rows') x4 x5 (some (.lst line)) x7' x8) := by
  obtain ⟨δ', e, rows', p', x7', rfl, R', hp⟩ := forD_inv (s := gV 7) (body := fwLine) (fun q δ => ∃ (rows' : List (List Int)) (p' : D) (x7' : Option D), δ = fwE p' s max (rowsL rows') x4 x5 (some (.lst line)) x7' x8 ∧ IsRows s rows' ∧ Pen (n + q) p') (rangeD 0 line.length) (fwE p s max (rowsL rows) x4 x5 (some (.lst line)) x7 x8) ⟨rows, p, x7, rfl, R, h⟩ (by
    rintro q d δ hx ⟨rows', p', x7', rfl, R', hp⟩
    obtain ⟨hq, rfl⟩ := get_range hx
    refine ⟨_, rfl, ?_⟩
    obtain ⟨y, p2, hy, hp2, e1⟩ := sign_ok (r := [some (nI s), some (nI max), some (rowsL rows'), x4, x5, some (.lst line), some (nI q), x8, none]) hp (by omega)
    obtain ⟨a, ha, ea⟩ := idx_any (l := line) (i := (q : Nat)) (by omega) (by omega)
    obtain ⟨b, hb, eb⟩ := idx_any (l := line) (i := (q : Int) - 1) (by omega) (by omega)
    obtain ⟨i, hi, rfl⟩ := hm a ha
    obtain ⟨j, hj, rfl⟩ := hm b hb
    have u := uIx2_ok (k := 3) (x := y) (f := dBin idxD (dVar 6) (dVar 7)) (g := dBin idxD (dVar 6) (dBin subD (dVar 7) (dC (.int 1)))) (a := (i : Nat)) (b := (j : Nat)) R' (δ := fwE p2 s max (rowsL rows') x4 x5 (some (.lst line)) (some (nI q)) x8) (δ1 := fwE p2 s max (rowsL rows') x4 x5 (some (.lst line)) (some (nI q)) x8) (δ2 := [some p2, some (nI s), some (nI max), none, x4, x5, some (.lst line), some (nI q), x8, none]) rfl (bin_ok rfl rfl ea) rfl (bin_ok rfl (bin_ok (a := nI q) rfl e_dC e_sub) eb) rfl (by omega) (by omega) (by omega) (by omega)
    exact ⟨_, .inl (asg_ok e1 u), setRC rows' i j y, p2, some (nI q), rfl, R'.set hi hy.1 hy.2, hp2⟩)
  rw [len_range] at hp
  exact ⟨rows', p', x7', R', hp, e⟩
abbrev fwArr : DE := dBor (.li .sh) (dLc [8] (dRng1 (dCons (dVar 1) dNil)) (gV 8) (dTst asB (dBin (eqD true) (dBin idxD (dBin idxD (dVar 3) (dVar 5)) (dVar 8)) (dC (.int 0)))) (dAr dTupD (dCons (dVar 5) (dCons (dVar 8) dNil))))
theorem frozL_pD : ∀ ps : List (Nat × Nat), frozL (ps.map pD) = true
  | [] => rfl
  | p :: ps => by
    rw [List.map_cons, frozL, frozL_pD ps]
    rfl
theorem fw_arr {s max : Nat} {p : D} {rows : List (List Int)} {x5 x6 x7 : Option D} (R : IsRows s rows) (hs : s < 1000) :
    ∃ x5', dFor (dRng1 (dCons (dVar 1) dNil)) (gV 5) (dSet 4 (dBin add4D (dVar 4) fwArr)) (fwE p s max (rowsL rows) (some (.lst [])) x5 x6 x7 none) = .next (fwE p s max (rowsL rows) (some (.lst ((arrL rows s).map pD))) x5' x6 x7 none) := by
  have hz := sizeLine_big
  have hss : s * s < 1000 * 1000 := Nat.lt_of_le_of_lt (Nat.mul_le_mul_left s (by omega : s ≤ 1000)) (Nat.mul_lt_mul_of_pos_right hs (by decide))
  obtain ⟨v', e⟩ := acc_loop (k := 4) (kv := 5) (m := s) (f := fwArr) (xs := rangeD 0 s) (l0 := []) (v := x5) (arrOut rows s) (fun a v => fwE p s max (rowsL rows) (some a) v x6 x7 none) (by rw [len_range, List.length_nil]; omega) (fun a v => rfl) (fun a v b => rfl) (fun a v d => rfl) (fun d hd => by
    obtain ⟨i, hi, rfl⟩ := mem_range hd
    refine ⟨?_, fun a => ?_⟩
    · show ((arrRow rows s i).map pD).length ≤ s
      rw [List.length_map]; exact arrRow_len rows s i
    · have := arr_lc (i := i) (ki := 5) (kj := 8) (vs := [8]) (rows := rows) (δ := fwE p s max (rowsL rows) (some a) (some (nI i)) x6 x7 none) (t := dTst asB (dBin (eqD true) (dBin idxD (dBin idxD (dVar 3) (dVar 5)) (dVar 8)) (dC (.int 0)))) hs (fun j hj => tst_ok (d := .bl (cell rows i j != 0)) (bin_ok (cellL_ok R rfl rfl rfl hi hj) e_dC e_neI) rfl) (fun d => rfl) (fun d => rfl) (fun d => rfl) [] (by rw [List.length_nil]; omega)
      rw [List.nil_append] at this
      exact bor_ok (lc_ok (vs := [8]) (δ := fwE p s max (rowsL rows) (some a) (some (nI i)) x6 x7 none) (δ1 := fwE p s max (rowsL rows) (some a) (some (nI i)) x6 x7 none) (δ2 := fwE p s max (rowsL rows) (some a) (some (nI i)) x6 x7 none) (rng1_ok rfl (by omega)) this) (frozL_pD _))
  rw [arr_flat, List.nil_append] at e
  exact ⟨v', for_ok (rng1_ok rfl (by omega)) e⟩
abbrev fwCut : DS := dAsg (dC (.int 0)) (uIx2 3 (dVar 5) (dVar 8))
theorem fw_cut {s max : Nat} {p : D} {rows : List (List Int)} {ps : List D} {x4 x5 x6 x7 x8 : Option D} (R : IsRows s rows) (hm : ∀ x ∈ ps, ∃ q : Nat × Nat, (q.1 < s ∧ q.2 < s) ∧ x = pD q) :
    ∃ (rows' : List (List Int)) (x5' x8' : Option D), IsRows s rows' ∧ forD (gT 2 (gC (gV 5) (gC (gV 8) gN))) fwCut ps (fwE p s max (rowsL rows) x4 x5 x6 x7 x8) = .next (fwE p s max (rowsL rows') x4 x5' x6 x7 x8') := by
  obtain ⟨δ', e, rows', x5', x8', rfl, R'⟩ := forD_inv (s := gT 2 (gC (gV 5) (gC (gV 8) gN))) (body := fwCut) (fun q δ => ∃ (rows' : List (List Int)) (x5' x8' : Option D), δ = fwE p s max (rowsL rows') x4 x5' x6 x7 x8' ∧ IsRows s rows') ps (fwE p s max (rowsL rows) x4 x5 x6 x7 x8) ⟨rows, x5, x8, rfl, R⟩ (by
    rintro q d δ hx ⟨rows', x5', x8', rfl, R'⟩
    obtain ⟨⟨i, j⟩, ⟨hi, hj⟩, rfl⟩ := hm d (List.mem_of_getElem? hx)
    refine ⟨fwE p s max (rowsL rows') x4 (some (nI i)) x6 x7 (some (nI j)), rfl, ?_⟩
    have u := uIx2_ok (k := 3) (x := 0) (f := dVar 5) (g := dVar 8) (a := (i : Nat)) (b := (j : Nat)) R' (δ := fwE p s max (rowsL rows') x4 (some (nI i)) x6 x7 (some (nI j))) (δ1 := fwE p s max (rowsL rows') x4 (some (nI i)) x6 x7 (some (nI j))) (δ2 := [some p, some (nI s), some (nI max), none, x4, some (nI i), x6, x7, some (nI j), none]) rfl rfl rfl rfl rfl (by omega) (by omega) (by omega) (by omega)
    exact ⟨_, .inl (asg_ok e_dC u), setRC rows' i j 0, some (nI i), some (nI j), rfl, R'.set hi (by decide) (by decide)⟩)
  exact ⟨rows', x5', x8', R', e⟩
theorem sli_takeL {f : DE} {g : DE} {δ δ1 δ2 : List (Option D)} {l : List D} {j : Nat} (hj : j ≤ l.length) (hf : f δ = .ok (.lst l) δ1) (hg : g δ1 = .ok (nI j) δ2) : dSli sliA f dNo0 (dPart g) δ = .ok (.lst (l.take j)) δ2 := by
  have h : sliA (.lst l) none (some (j : Int)) = some (.lst (l.take j)) := by
    show some (D.lst (VL.cutD l none (some (j : Int)))) = _
    rw [cut_take hj]
  have hp : dPart g δ1 = .ok (some (j : Int)) δ2 := by unfold dPart; rw [hg, e_bind_ok]; rfl
  have hn : ∀ δ, dNo0 δ = .ok none δ := fun _ => rfl
  unfold dSli
  rw [hf, e_bind_ok, hn, e_bind_ok, hp, e_bind_ok, h]
  rfl
theorem sli_dropL {f g : DE} {δ δ1 δ2 : List (Option D)} {l : List D} {j : Nat} (hf : f δ = .ok (.lst l) δ1) (hg : g δ1 = .ok (nI j) δ2) : ∃ m : List D, (∀ x ∈ m, x ∈ l) ∧ dSli sliA f (dPart g) dNo0 δ = .ok (.lst m) δ2 := by
  have h : sliA (.lst l) (some (j : Int)) none = some (.lst (VL.cutD l (some (j : Int)) none)) := rfl
  have hp : dPart g δ1 = .ok (some (j : Int)) δ2 := by unfold dPart; rw [hg, e_bind_ok]; rfl
  have hn : ∀ δ, dNo0 δ = .ok none δ := fun _ => rfl
  refine ⟨VL.cutD l (some (j : Int)) none, fun x hx => ?_, ?_⟩
  · unfold VL.cutD at hx
    exact List.mem_of_mem_drop (List.mem_of_mem_take hx)
  · unfold dSli
    rw [hf, e_bind_ok, hp, e_bind_ok, hn, e_bind_ok, h]
    rfl
/-- [list(row) for row in rows] -/
theorem fw_rows {p : D} {s max : Nat} {rows : List (List Int)} (R : IsRows s rows) (hs : s < 1000) : lcD [9] (gV 9) dYes (dAr lstOf (dCons (dVar 9) dNil)) (rows.map fun r => .tup (r.map .int)) [] [some p, some (nI s), some (nI max), none, none, none, none, none, none, none] = .ok (rows.map fun r => .lst (r.map .int)) [some p, some (nI s), some (nI max), none, none, none, none, none, none, none] := by
  have hz := sizeLine_big
  have := lcD_map (vs := [9]) (s := gV 9) (f := dAr lstOf (dCons (dVar 9) dNil)) (δ := [some p, some (nI s), some (nI max), none, none, none, none, none, none, none]) (fun d => match d with | .tup l => .lst l | d => d) (xs := rows.map fun r => .tup (r.map .int)) (by rw [List.length_map, R.len]; omega) (fun d hd => by
    obtain ⟨r, _, rfl⟩ := List.mem_map.mp hd
    exact ⟨_, rfl, ar_ok (cons_ok rfl e_dNil) rfl, rfl⟩)
  rw [this, List.map_map]
  rfl
theorem few_ok {n s max : Nat} {p : D} (h : Pen n p) (hn : n + 20000 + 3 * (s * s) < 700000) (hs : 1 ≤ s ∧ s < 1000) : ∃ (rows : List (List Int)) (p' : D), IsRows s rows ∧ Pen (n + 6 * s + 2 * (s * s) + 70) p' ∧ fn__law_few_rows [p, nI s, nI max] = .ok (rowsT rows) [some p', some (nI s), some (nI max)] := by
  obtain ⟨rows0, p1, R0, hp1, e1⟩ := web_ok h (by omega) hs
  have c1 : dCallIO 0 1 fn__law_web_rows (dCons (dVar 1) dNil) (some p :: [some (nI s), some (nI max), none, none, none, none, none, none, none]) = .ok (rowsT rows0) (some p1 :: [some (nI s), some (nI max), none, none, none, none, none, none, none]) := callIO_ok (ds := [nI s]) rfl rfl e1
  have s1 : dSet 3 (dLc [9] (dSeqI (dCallIO 0 1 fn__law_web_rows (dCons (dVar 1) dNil))) (gV 9) dYes (dAr lstOf (dCons (dVar 9) dNil))) [some p, some (nI s), some (nI max), none, none, none, none, none, none, none] = .next (fwE p1 s max (rowsL rows0) none none none none none) :=
    set_ok (lc_ok (vs := [9]) (δ1 := [some p1, some (nI s), some (nI max), none, none, none, none, none, none, none]) (δ2 := [some p1, some (nI s), some (nI max), none, none, none, none, none, none, none]) (seqI_ok c1 rfl) (fw_rows R0 hs.2))
  obtain ⟨y, p2, hy, hp2, e2⟩ := drawC_ok (c := 2) (r := [some (nI s), some (nI max), some (rowsL rows0), none, none, none, none, none, none]) hp1 (by omega) (by decide)
  have t2 : dTst asB (dBin (eqD false) (dCallIO 0 1 fn__law_draw (dCons (dC (.int 2)) dNil)) (dC (.int 0))) (fwE p1 s max (rowsL rows0) none none none none none) = .ok ((y : Int) == 0) (fwE p2 s max (rowsL rows0) none none none none none) := tst_ok (bin_ok e2 rfl e_eq_int) rfl
  have mid : ∃ (rows3 : List (List Int)) (p3 : D) (x6 x7 : Option D), IsRows s rows3 ∧ Pen (n + 4 * s + s * s + 60 + 1 + 2 * s + 1) p3 ∧
      dIf (dTst asB (dBin (eqD false) (dCallIO 0 1 fn__law_draw (dCons (dC (.int 2)) dNil)) (dC (.int 0)))) (dSeq (dSet 6 (dSli sliA (dCallIO 0 1 fn__law_shuffled (dCons (dLRg1 (dVar 1)) dNil)) dNo0 (dPart (dBin add4D (dC (.int 1)) (dCallIO 0 1 fn__law_draw (dCons (dVar 1) dNil)))))) (dFor (dRng1 (dCons (dAr lenD (dCons (dVar 6) dNil)) dNil)) (gV 7) fwLine)) dSkip (fwE p1 s max (rowsL rows0) none none none none none) = .next (fwE p3 s max (rowsL rows3) none none x6 x7 none) := by
    generalize ((y : Int) == 0) = b at t2
    cases b with
    | false => exact ⟨rows0, p2, none, none, R0, hp2.le (by omega), (if_f t2).trans rfl⟩
    | true =>
      obtain ⟨m, p3, hm, hmm, hp3, e3⟩ := shuffled_ok (l := rangeD 0 s) hp2 (by rw [len_range]; omega) (by rw [len_range]; omega)
      rw [len_range] at hm hp3
      have c3 : dCallIO 0 1 fn__law_shuffled (dCons (dLRg1 (dVar 1)) dNil) (some p2 :: [some (nI s), some (nI max), some (rowsL rows0), none, none, none, none, none, none]) = .ok (.lst m) (some p3 :: [some (nI s), some (nI max), some (rowsL rows0), none, none, none, none, none, none]) := callIO_ok (ds := [.lst (rangeD 0 s)]) (cons_ok (lrg_ok rfl (by omega)) e_dNil) rfl e3
      obtain ⟨z, p4, hz, hp4, e4⟩ := drawV_ok (k := 1) (s := s) (r := [some (nI s), some (nI max), some (rowsL rows0), none, none, none, none, none, none]) hp3 (by omega) (by omega) rfl
      have c4 : dBin add4D (dC (.int 1)) (dCallIO 0 1 fn__law_draw (dCons (dVar 1) dNil)) (fwE p3 s max (rowsL rows0) none none none none none) = .ok (nI (1 + z)) (fwE p4 s max (rowsL rows0) none none none none none) := bin_ok e_dC e4 rfl
      have s4 : dSet 6 (dSli sliA (dCallIO 0 1 fn__law_shuffled (dCons (dLRg1 (dVar 1)) dNil)) dNo0 (dPart (dBin add4D (dC (.int 1)) (dCallIO 0 1 fn__law_draw (dCons (dVar 1) dNil))))) (fwE p2 s max (rowsL rows0) none none none none none) = .next (fwE p4 s max (rowsL rows0) none none (some (.lst (m.take (1 + z)))) none none) := set_ok (sli_takeL (by omega) c3 c4)
      have hml : (m.take (1 + z)).length ≤ s := by rw [List.length_take]; omega
      obtain ⟨rows5, p5, x7, R5, hp5, e5⟩ := fw_line (max := max) (line := m.take (1 + z)) (x4 := none) (x5 := none) (x7 := none) (x8 := none) hp4 (by omega) R0 (by omega) (fun x hx => mem_range (hmm x (List.mem_of_mem_take hx)))
      have r5 : dRng1 (dCons (dAr lenD (dCons (dVar 6) dNil)) dNil) (fwE p4 s max (rowsL rows0) none none (some (.lst (m.take (1 + z)))) none none) = .ok (rangeD 0 (m.take (1 + z)).length) (fwE p4 s max (rowsL rows0) none none (some (.lst (m.take (1 + z)))) none none) := e_rng1 (cons_ok (ar_ok (cons_ok rfl e_dNil) rfl) e_dNil) (by omega) (by omega)
      exact ⟨rows5, p5, _, x7, R5, hp5.le (by omega), (if_t t2).trans ((seq_next s4).trans (for_ok r5 e5))⟩
  obtain ⟨rows3, p3, x6, x7, R3, hp3, e3⟩ := mid
  obtain ⟨x5, e4⟩ := fw_arr (max := max) (p := p3) (x5 := none) (x6 := x6) (x7 := x7) R3 hs.2
  have hal := arrL_len rows3 s
  obtain ⟨m, p5, hm, hmm, hp5, e5⟩ := shuffled_ok (l := (arrL rows3 s).map pD) hp3 (by rw [List.length_map]; omega) (by rw [List.length_map]; omega)
  rw [List.length_map] at hp5
  have c5 : dCallIO 0 1 fn__law_shuffled (dCons (dVar 4) dNil) (some p3 :: [some (nI s), some (nI max), some (rowsL rows3), some (.lst ((arrL rows3 s).map pD)), x5, x6, x7, none, none]) = .ok (.lst m) (some p5 :: [some (nI s), some (nI max), some (rowsL rows3), some (.lst ((arrL rows3 s).map pD)), x5, x6, x7, none, none]) := callIO_ok (ds := [.lst ((arrL rows3 s).map pD)]) rfl rfl e5
  obtain ⟨m2, hm2, e6⟩ := sli_dropL (f := dCallIO 0 1 fn__law_shuffled (dCons (dVar 4) dNil)) (g := dVar 2) (j := max) (δ2 := fwE p5 s max (rowsL rows3) (some (.lst ((arrL rows3 s).map pD))) x5 x6 x7 none) c5 rfl
  obtain ⟨rows7, x5', x8', R7, e7⟩ := fw_cut (max := max) (p := p5) (ps := m2) (x4 := some (.lst ((arrL rows3 s).map pD))) (x5 := x5) (x6 := x6) (x7 := x7) (x8 := none) R3 (fun x hx => by
    obtain ⟨q, hq, rfl⟩ := List.mem_map.mp (hmm x (hm2 x hx))
    exact ⟨q, arrL_mem hq, rfl⟩)
  refine ⟨rows7, p5, R7, hp5.le (by omega), ?_⟩
  refine dFnIO_ret (δ0 := [some p, some (nI s), some (nI max), none, none, none, none, none, none, none]) (δ := fwE p5 s max (rowsL rows7) (some (.lst ((arrL rows3 s).map pD))) x5' x6 x7 x8') rfl ?_ rfl
  unfold d__law_few_rows
  refine (seq_next s1).trans ?_
  refine (seq_next e3).trans ?_
  refine (seq_next (set_ok (ar_ok e_dNil (dLstD_ok (by simp))))).trans ?_
  refine (seq_next e4).trans ?_
  refine (seq_next (for_ok (seqI_ok e6 rfl) e7)).trans ?_
  exact ret_ok (rowsOut_ok (v := 9) (k := 3) (by rw [R7.len]; omega) rfl rfl (fun d => rfl) (fun d => rfl))

/-! values that are no rounds: refused -/
def shB (d : D) : Bool := reprB d && VL.plain (.str (reprPy d).shown)
theorem shB_rep {d : D} (h : shB d = true) : reprB d = true := by unfold shB at h; rw [Bool.and_eq_true] at h; exact h.1
theorem shB_txt {d : D} (h : shB d = true) : VL.plain (.str (reprPy d).shown) = true := by unfold shB at h; rw [Bool.and_eq_true] at h; exact h.2
theorem rep_of {d : D} (h : reprB d = true) : reprD [d] = some (.str (reprPy d).shown) := if_pos h
def exOf (d : D) : D := .ins "BadValue" [("value", d), ("what", .str "round")]
structure Odd (rows : List (List Int)) (d : D) : Prop where
  rep : shB d = true
  ex : fn_round_arrows [webD rows, d] = .exn (exOf d)
theorem dFn_exn {kp : Kds} {rk : Kd} {n : Nat} {g : DS} {ds : List D} {e : D} {δ δ0 : List (Option D)} (h0 : ds.map some ++ List.replicate (n - ds.length) none = δ0) (h : g δ0 = .exn e δ) : dFn kp rk n g ds = .exn e := by
  unfold dFn
  rw [h0, h]
theorem seq_exn {g h : DS} {δ δ' : List (Option D)} {e : D} (q : g δ = .exn e δ') : dSeq g h δ = .exn e δ' := by rw [e_dSeq, q]
theorem raise_ok {x : Str} {fs : List Str} {g : DA} {δ δ1 : List (Option D)} {ds : List D} (h : g δ = .ok ds δ1) (hl : ds.length = fs.length) : dRaise x fs g δ = .exn (.ins x (fs.zip ds).reverse) δ1 := by
  unfold dRaise
  rw [h]
  show (if ds.length = fs.length then SRes.exn (.ins x (fs.zip ds).reverse) δ1 else SRes.no) = _
  rw [if_pos hl]
abbrev raHead : DT := dOr (dNot (dTst truth (dCall 1 fn_is_list (dCons (dVar 1) dNil)))) (dNot (dTst truth (dCall 2 fn_is_round (dCons (dVar 0) (dCons (dAr tupOf (dCons (dVar 1) dNil)) dNil)))))
theorem ra_refused {w d : D} (h : raHead [some w, some d] = .ok true [some w, some d]) : fn_round_arrows [w, d] = .exn (exOf d) := by
  refine dFn_exn (δ0 := [some w, some d]) (δ := [some w, some d]) rfl ?_
  unfold d_round_arrows
  exact seq_exn ((if_t h).trans (raise_ok (ds := [.str "round", d]) (cons_ok e_dC (cons_ok rfl e_dNil)) rfl))
theorem ra_head {w d : D} {b1 b2 : Bool} {l : List D} {o o2 : List (Option D)} (h1 : fn_is_list [d] = .ok (.bl true) o) (ht : tupOf [d] = some (.tup l)) (h2 : fn_is_round [w, .tup l] = .ok (.bl b2) o2) : raHead [some w, some d] = .ok (!b2) [some w, some d] := by
  have c1 : dTst truth (dCall 1 fn_is_list (dCons (dVar 1) dNil)) [some w, some d] = .ok true [some w, some d] := tst_ok (d := .bl true) (call_ok (ds := [d]) rfl rfl h1) rfl
  have c2 : dTst truth (dCall 2 fn_is_round (dCons (dVar 0) (dCons (dAr tupOf (dCons (dVar 1) dNil)) dNil))) [some w, some d] = .ok b2 [some w, some d] := tst_ok (d := .bl b2) (call_ok (ds := [w, .tup l]) (cons_ok rfl (cons_ok (ar_ok (cons_ok rfl e_dNil) ht) e_dNil)) rfl h2) rfl
  unfold raHead
  rw [e_dOr, e_dNot, c1, e_bind_ok, e_bind_ok]
  simp only [Bool.not_true, Bool.false_eq_true, if_false]
  rw [e_dNot, c2, e_bind_ok]
theorem is_list_lst (l : List D) : fn_is_list [.lst l] = .ok (.bl true) [some (.lst l)] := rfl
theorem odd_seq {s : Nat} {rows : List (List Int)} {d : D} {l : List D} (R : IsRows s rows) (hd : d = .tup l ∨ d = .lst l) (hl : l.length < 100000) (hs : ∀ x ∈ l, Simple x) (hr : roundB rows s l = false) : fn_round_arrows [webD rows, d] = .exn (exOf d) := by
  obtain ⟨o, e⟩ := is_round_tup R hl hs
  rw [hr] at e
  rcases hd with rfl | rfl
  · exact ra_refused (ra_head (b1 := true) (is_list_tup l) rfl e)
  · exact ra_refused (ra_head (b1 := true) (is_list_lst l) rfl e)
theorem odd_other {w d : D} {o : List (Option D)} (h : fn_is_list [d] = .ok (.bl false) o) : fn_round_arrows [w, d] = .exn (exOf d) := by
  refine ra_refused ?_
  have c1 : dTst truth (dCall 1 fn_is_list (dCons (dVar 1) dNil)) [some w, some d] = .ok false [some w, some d] := tst_ok (d := .bl false) (call_ok (ds := [d]) rfl rfl h) rfl
  unfold raHead
  rw [e_dOr, e_dNot, c1, e_bind_ok, e_bind_ok]
  rfl
theorem rep_one {i : Nat} (h : i ≤ 5) : shB (wD [i]) = true := by
  match i, h with
  | 0, _ => decide +kernel
  | 1, _ => decide +kernel
  | 2, _ => decide +kernel
  | 3, _ => decide +kernel
  | 4, _ => decide +kernel
  | 5, _ => decide +kernel
theorem rep_twoAll : ((List.range 6).all fun i => (List.range 6).all fun j => shB (wD [i, j])) = true := by decide +kernel
theorem rep_two {i j : Nat} (hi : i ≤ 5) (hj : j ≤ 5) : shB (wD [i, j]) = true := by
  have := List.all_eq_true.mp rep_twoAll i (List.mem_range.mpr (by omega))
  exact List.all_eq_true.mp this j (List.mem_range.mpr (by omega))
theorem roundB_way (rows : List (List Int)) (s : Nat) (w : Way) (h : progOK rows w = false) : roundB rows s (w.map nI) = false := by
  unfold roundB
  rw [back_nats, h, Bool.and_false]
theorem odd_one {s i : Nat} {rows : List (List Int)} (R : IsRows s rows) (hs : s ≤ 5) (hi : i < s) (h : cell rows i i = 0) : Odd rows (wD [i]) where
  rep := rep_one (by omega)
  ex := odd_seq R (.inl rfl) (by simp) (simple_ways [i]) (roundB_way rows s [i] (by
    unfold progOK
    rw [List.length_singleton]
    simp [List.range_succ, h]))
theorem odd_two {s i j : Nat} {rows : List (List Int)} (R : IsRows s rows) (hs : s ≤ 5) (hi : i < s) (hj : j < s) (h : cell rows i j = 0 ∨ cell rows j i = 0) : Odd rows (wD [j, i]) where
  rep := rep_two (by omega) (by omega)
  ex := odd_seq R (.inl rfl) (by simp) (simple_ways [j, i]) (roundB_way rows s [j, i] (by
    unfold progOK
    rw [show [j, i].length = 2 from rfl]
    rcases h with h | h <;> simp [List.range_succ, h]))
/-- the eleven others -/
def oddL (s : Nat) : List D := [.tup [], .lst [], .non, .int 0, .tup [nI s], .tup [.int (-1)], .tup [.bl true], .tup [.str "0"], .tup [.int 0, .int 0], .dct [(.inl 0, .int 0)], .lst [.int 0, .non]]
theorem odd_list {s : Nat} {rows : List (List Int)} (R : IsRows s rows) (hs : s ≤ 5) {d : D} (hd : d ∈ oddL s) : Odd rows d := by
  simp only [oddL, List.mem_cons, List.not_mem_nil, or_false] at hd
  rcases hd with rfl | rfl | rfl | rfl | rfl | rfl | rfl | rfl | rfl | rfl | rfl
  · exact ⟨by decide +kernel, odd_seq R (.inl rfl) (by simp) (by simp) rfl⟩
  · exact ⟨by decide +kernel, odd_seq R (.inr rfl) (by simp) (by simp) rfl⟩
  · exact ⟨by decide +kernel, odd_other (o := [some .non]) rfl⟩
  · exact ⟨by decide +kernel, odd_other (o := [some (.int 0)]) rfl⟩
  · refine ⟨rep_one hs, odd_seq R (.inl rfl) (by simp) (by intro x hx; rw [List.mem_singleton.mp hx]; exact simple_int _) ?_⟩
    unfold roundB nI
    simp [okI]
  · exact ⟨by decide +kernel, odd_seq R (.inl rfl) (by simp) (by intro x hx; rw [List.mem_singleton.mp hx]; exact simple_int _) (by unfold roundB; simp [okI])⟩
  · exact ⟨by decide +kernel, odd_seq R (.inl rfl) (by simp) (by intro x hx; rw [List.mem_singleton.mp hx]; exact simple_bl _) (by unfold roundB; simp [okI])⟩
  · exact ⟨by decide +kernel, odd_seq R (.inl rfl) (by simp) (by intro x hx; rw [List.mem_singleton.mp hx]; rfl) (by unfold roundB; simp [okI])⟩
  · refine ⟨by decide +kernel, odd_seq R (.inl rfl) (by simp) (by intro x hx; simp at hx; rw [hx]; exact simple_int _) ?_⟩
    refine roundB_way rows s [0, 0] ?_
    unfold progOK
    simp [List.range_succ]
  · exact ⟨by decide +kernel, odd_other (o := [some (.dct [(.inl 0, .int 0)])]) rfl⟩
  · refine ⟨by decide +kernel, odd_seq R (.inr rfl) (by simp) (by intro x hx; simp at hx; rcases hx with rfl | rfl <;> rfl) ?_⟩
    unfold roundB
    simp [okI]
theorem dHs_as {sub : List (Str × List (Str × Bool))} {c x : Str} {gs : List (Str × D)} {i j : Nat} {g : DS} {rest : List HdD} {δ : List (Option D)} (h : (sub.lookup c).bind (·.lookup x) = some true) (hg : gs ≠ []) :
    dHs sub (⟨x, some (i, j), g⟩ :: rest) (.ins c gs) δ = goneS (some (i, j)) (g ((δ.set i (some (.gh "any" []))).set j (some (.gh "xd" gs)))) := by
  simp only [dHs, h, hg, if_false]
/-- what the law's asking tells of a refusal -/
theorem refused_ok {d : D} (h : shB d = true) : fnT__law_refused (.exn (exOf d)) = .ok (.tup [.str "round", .str (reprPy d).shown]) [] := by
  have e1 : (subT.lookup ("BadValue" : Str)).bind (·.lookup ("BadValue" : Str)) = some true := by decide
  have e2 : (dAr dTupD (dCons (dXf 1 2 "what") (dCons (dAr reprD (dCons (dXf 1 2 "value") dNil)) dNil))) [some (.gh "any" []), some (.gh "any" []), some (.gh "xd" [("value", d), ("what", .str "round")])] = .ok (.tup [.str "round", .str (reprPy d).shown]) [some (.gh "any" []), some (.gh "any" []), some (.gh "xd" [("value", d), ("what", .str "round")])] :=
    ar_ok (cons_ok (d := .str "round") rfl (cons_ok (ar_ok (cons_ok (d := d) rfl e_dNil) (rep_of (shB_rep h))) e_dNil)) (dTupD_ok (by simp))
  have e3 := ret_ok e2
  unfold fnT__law_refused fTh
  have e4 : dHs subT (⟨"BadValue", some (1, 2), dRet (dAr dTupD (dCons (dXf 1 2 "what") (dCons (dAr reprD (dCons (dXf 1 2 "value") dNil)) dNil)))⟩ :: []) (exOf d) (some (.gh "any" []) :: List.replicate (3 - 1) none) = .ret (.tup [.str "round", .str (reprPy d).shown]) [some (.gh "any" []), some (.gh "any" []), some (.gh "xd" [("value", d), ("what", .str "round")])] := by
    unfold exOf
    rw [dHs_as e1 (by simp)]
    show goneS (some (1, 2)) ((dRet (dAr dTupD (dCons (dXf 1 2 "what") (dCons (dAr reprD (dCons (dXf 1 2 "value") dNil)) dNil)))) [some (.gh "any" []), some (.gh "any" []), some (.gh "xd" [("value", d), ("what", .str "round")])]) = _
    rw [e3]
    rfl
  simp only [e4]
theorem eq_txt {a b : Str} (ha : VL.plain (.str a) = true) (hb : VL.plain (.str b) = true) : eqD false (.tup [.str a, .str b]) (.tup [.str a, .str b]) = some (.bl true) := by
  have h : PySem.W.alike (.tuple [.str a, .str b]) (.tuple [.str a, .str b]) = true := by simp [PySem.W.alike, PySem.W.alikeAll]
  have h2 : okD (.tup [.str a, .str b]) = true := by
    have e : depth (.tup [.str a, .str b]) ≤ 64 := by simp [depth, depthL]
    unfold okD
    rw [Bool.and_eq_true, decide_eq_true_eq]
    refine ⟨?_, e⟩
    rw [VL.plain, plainL, plainL, ha, hb]
    rfl
  have h3 : eqv (.tup [.str a, .str b]) (.tup [.str a, .str b]) = true := PySem.W.eqv_refl_alike _ h
  unfold eqD
  rw [if_pos ⟨h2, h2⟩, h3]
  rfl

/-! the law of arrows and rounds -/
abbrev tbD : D := .gh "tab" [("law.<locals>.<lambda>", .non)]
abbrev arE (sc p : D) (s : Nat) (x3 x4 x5 x6 x7 x8 x9 x10 x11 x12 x13 x14 x15 : Option D) : List (Option D) := [some sc, some p, some (nI s), x3, x4, x5, x6, x7, x8, x9, x10, x11, x12, x13, x14, x15, none, none, some tbD]
theorem size3_ok {n : Nat} {p : D} (h : Pen n p) (hn : n < 2 ^ 40) : ∃ s p', (1 ≤ s ∧ s ≤ 5) ∧ Pen (n + 1) p' ∧ fn__law_pick [p, .lst [.int 3, .int 4, .int 5, .int 2, .int 4, .int 1]] = .ok (nI s) [some p', some (.lst [.int 3, .int 4, .int 5, .int 2, .int 4, .int 1])] := by
  obtain ⟨x, p', hx, hp, e⟩ := pick_ok (l := [.int 3, .int 4, .int 5, .int 2, .int 4, .int 1]) h hn (by simp) (by simp)
  have key : ∃ s : Nat, (1 ≤ s ∧ s ≤ 5) ∧ x = nI s := by
    simp only [List.mem_cons, List.not_mem_nil, or_false] at hx
    rcases hx with rfl | rfl | rfl | rfl | rfl | rfl
    · exact ⟨3, by decide, rfl⟩
    · exact ⟨4, by decide, rfl⟩
    · exact ⟨5, by decide, rfl⟩
    · exact ⟨2, by decide, rfl⟩
    · exact ⟨4, by decide, rfl⟩
    · exact ⟨1, by decide, rfl⟩
  obtain ⟨s, hs, rfl⟩ := key
  exact ⟨s, p', hs, hp, e⟩
abbrev arWeb : DS := dSet 3 (dIte (dTst asB (dBin gtD (dCallIO 1 1 fn__law_draw (dCons (dC (.int 3)) dNil)) (dC (.int 0)))) (dCallIO 1 2 fn__law_few_rows (dCons (dVar 2) (dCons (dC (.int 14)) dNil))) (dCallIO 1 1 fn__law_web_rows (dCons (dVar 2) dNil)))
theorem arWeb_ok {sc p : D} {s : Nat} (h : Pen 1 p) (hs : 1 ≤ s ∧ s ≤ 5) : ∃ (rows : List (List Int)) (p' : D), IsRows s rows ∧ Pen 200 p' ∧ arWeb (arE sc p s none none none none none none none none none none none none none) = .next (arE sc p' s (some (rowsT rows)) none none none none none none none none none none none none) := by
  obtain ⟨y, p1, hy, hp1, e1⟩ := draw1_ok (n := 1) (c := 3) (x := some sc) (p := p) (g := dCons (dC (.int 3)) dNil) (r := [some (nI s), none, none, none, none, none, none, none, none, none, none, none, none, none, none, none, some tbD]) h (by decide) (by decide) (fun p => rfl)
  have t : dTst asB (dBin gtD (dCallIO 1 1 fn__law_draw (dCons (dC (.int 3)) dNil)) (dC (.int 0))) (arE sc p s none none none none none none none none none none none none none) = .ok (decide (0 < (y : Int))) (arE sc p1 s none none none none none none none none none none none none none) := tst_ok (bin_ok e1 rfl e_cmp) rfl
  have hss : s * s ≤ 5 * 5 := Nat.mul_le_mul hs.2 hs.2
  generalize decide (0 < (y : Int)) = b at t
  cases b with
  | true =>
    obtain ⟨rows, p2, R, hp2, e2⟩ := few_ok (max := 14) hp1 (by omega) (s := s) ⟨hs.1, by omega⟩
    have c2 : dCallIO 1 2 fn__law_few_rows (dCons (dVar 2) (dCons (dC (.int 14)) dNil)) (some sc :: some p1 :: [some (nI s), none, none, none, none, none, none, none, none, none, none, none, none, none, none, none, some tbD]) = .ok (rowsT rows) (some sc :: some p2 :: [some (nI s), none, none, none, none, none, none, none, none, none, none, none, none, none, none, none, some tbD]) := callIO1_ok (ds := [nI s, nI 14]) rfl rfl e2
    exact ⟨rows, p2, R, hp2.le (by omega), set_ok (d := rowsT rows) ((ite_t t).trans c2)⟩
  | false =>
    obtain ⟨rows, p2, R, hp2, e2⟩ := web_ok hp1 (by omega) (s := s) ⟨hs.1, by omega⟩
    have c2 : dCallIO 1 1 fn__law_web_rows (dCons (dVar 2) dNil) (some sc :: some p1 :: [some (nI s), none, none, none, none, none, none, none, none, none, none, none, none, none, none, none, some tbD]) = .ok (rowsT rows) (some sc :: some p2 :: [some (nI s), none, none, none, none, none, none, none, none, none, none, none, none, none, none, none, some tbD]) := callIO1_ok (ds := [nI s]) rfl rfl e2
    exact ⟨rows, p2, R, hp2.le (by omega), set_ok (d := rowsT rows) ((ite_f t).trans c2)⟩
theorem eq_same (neg : Bool) (ws : List Way) : eqD neg (.tup (ws.map wD)) (.tup (ws.map wD)) = some (.bl (!neg)) := by
  rw [eq_tways]
  cases neg <;> simp
theorem pD_ways (ps : List (Nat × Nat)) : ps.map pD = (ps.map fun p => [p.1, p.2]).map wD := by rw [List.map_map]; rfl
theorem eq_pairs (neg : Bool) (ps : List (Nat × Nat)) : eqD neg (.tup (ps.map pD)) (.tup (ps.map pD)) = some (.bl (!neg)) := by rw [pD_ways]; exact eq_same neg _
abbrev arOne : DS := dIf (dOr (dTst asB (dBin (eqD true) (dVar 10) (dAr tupOf (dCons (dCall 1 fn__law_arrows (dCons (dVar 3) dNil)) dNil)))) (dOr (dNot (dTst truth (dIsi ["tuple"] [] (dVar 10)))) (dNot (dTst truth (dAr allD (dCons (dLc [17] (dSeqI (dVar 10)) (gV 17) dYes (dIsi ["tuple"] [] (dVar 17))) dNil)))))) (dRet (dC (.bl false))) dSkip
theorem or_f {s t : DT} {δ δ1 δ2 : List (Option D)} {b : Bool} (h1 : s δ = .ok false δ1) (h2 : t δ1 = .ok b δ2) : dOr s t δ = .ok b δ2 := by
  rw [e_dOr, h1, e_bind_ok]
  simp only [Bool.false_eq_true, if_false]
  exact h2
theorem not_ok {s : DT} {δ δ1 : List (Option D)} {b : Bool} (h : s δ = .ok b δ1) : dNot s δ = .ok (!b) δ1 := by rw [e_dNot, h, e_bind_ok]
theorem arOne_ok {sc p found : D} {s : Nat} {rows : List (List Int)} (R : IsRows s rows) (hs : s ≤ 5) :
    arOne (arE sc p s (some (rowsT rows)) (some (webD rows)) none none none none none (some (.tup ((arrL rows s).map pD))) (some found) none none none none) = .next (arE sc p s (some (rowsT rows)) (some (webD rows)) none none none none none (some (.tup ((arrL rows s).map pD))) (some found) none none none none) := by
  have hz := sizeLine_big
  obtain ⟨o, e⟩ := law_arrows_ok R (by omega)
  have hal := arrL_len rows s
  have hss : s * s ≤ 5 * 5 := Nat.mul_le_mul hs hs
  generalize hδ : arE sc p s (some (rowsT rows)) (some (webD rows)) none none none none none (some (.tup ((arrL rows s).map pD))) (some found) none none none none = δ
  have v10 : dVar 10 δ = .ok (.tup ((arrL rows s).map pD)) δ := by rw [← hδ]; rfl
  have c1 : dCall 1 fn__law_arrows (dCons (dVar 3) dNil) δ = .ok (.lst ((arrL rows s).map pD)) δ := by rw [← hδ]; exact call_ok (ds := [rowsT rows]) rfl rfl e
  have t1 : dTst asB (dBin (eqD true) (dVar 10) (dAr tupOf (dCons (dCall 1 fn__law_arrows (dCons (dVar 3) dNil)) dNil))) δ = .ok false δ := tst_ok (d := .bl false) (bin_ok v10 (ar_ok (cons_ok c1 e_dNil) rfl) (eq_pairs true _)) rfl
  have t2 : dTst truth (dIsi ["tuple"] [] (dVar 10)) δ = .ok true δ := tst_ok (d := .bl true) (un_ok v10 rfl) rfl
  have l3 := lcD_map (vs := [17]) (s := gV 17) (f := dIsi ["tuple"] [] (dVar 17)) (δ := δ) (fun _ => .bl true) (xs := (arrL rows s).map pD) (by rw [List.length_map]; omega) (fun d hd => by
    obtain ⟨q, _, rfl⟩ := List.mem_map.mp hd
    refine ⟨_, rfl, un_ok (a := pD q) ?_ rfl, ?_⟩
    · rw [← hδ]; rfl
    · rw [← hδ]; rfl)
  have e3 : ((arrL rows s).map pD).map (fun _ => D.bl true) = ((arrL rows s).map fun _ => true).map .bl := by rw [List.map_map, List.map_map]; rfl
  rw [e3] at l3
  have hw : wipeD δ [17] = δ := by rw [← hδ]; rfl
  have hb : backD δ δ [17] = δ := by rw [← hδ]; rfl
  have l4 : dLc [17] (dSeqI (dVar 10)) (gV 17) dYes (dIsi ["tuple"] [] (dVar 17)) δ = .ok (.lst (((arrL rows s).map fun _ => true).map .bl)) δ := by
    have := lc_ok (vs := [17]) (s := gV 17) (t := dYes) (f := dIsi ["tuple"] [] (dVar 17)) (seqI_ok v10 rfl) (by rw [hw]; exact l3)
    rwa [hb] at this
  have t3 : dTst truth (dAr allD (dCons (dLc [17] (dSeqI (dVar 10)) (gV 17) dYes (dIsi ["tuple"] [] (dVar 17))) dNil)) δ = .ok true δ := by
    have ha : ((arrL rows s).map fun _ => true).all id = true := by simp
    exact tst_ok (d := .bl true) (ar_ok (cons_ok l4 e_dNil) (by rw [allD_bools, ha])) rfl
  exact (if_f (or_f t1 (or_f (not_ok t2) (not_ok t3)))).trans rfl
abbrev arTwo : DS := dIf (dOr (dTst asB (dBin (eqD true) (dCall 1 fn_rounds (dCons (dVar 4) dNil)) (dAr tupOf (dCons (dAr sortD (dCons (dVar 11) dNil)) dNil)))) (dNot (dTst truth (dIsi ["tuple"] [] (dCall 1 fn_rounds (dCons (dVar 4) dNil)))))) (dRet (dC (.bl false))) dSkip
theorem arTwo_ok {s : Nat} {rows : List (List Int)} {δ : List (Option D)} (R : IsRows s rows) (hs : s ≤ 5) (v4 : dVar 4 δ = .ok (webD rows) δ) (v11 : dVar 11 δ = .ok (.lst ((allR rows s).map wD)) δ) : arTwo δ = .next δ := by
  obtain ⟨o, e⟩ := rounds_ok R (show s ≤ 6 by omega)
  have hl := allR_len (rows := rows) (show s ≤ 6 by omega)
  have c1 : dCall 1 fn_rounds (dCons (dVar 4) dNil) δ = .ok (.tup ((srtW (allR rows s)).map wD)) δ := call_ok (ds := [webD rows]) (cons_ok v4 e_dNil) rfl e
  have c2 : dAr sortD (dCons (dVar 11) dNil) δ = .ok (.lst ((srtW (allR rows s)).map wD)) δ := ar_ok (cons_ok v11 e_dNil) (srt_ways (by omega) allR_ne)
  have t1 : dTst asB (dBin (eqD true) (dCall 1 fn_rounds (dCons (dVar 4) dNil)) (dAr tupOf (dCons (dAr sortD (dCons (dVar 11) dNil)) dNil))) δ = .ok false δ := tst_ok (d := .bl false) (bin_ok c1 (ar_ok (cons_ok c2 e_dNil) rfl) (eq_same true _)) rfl
  have t2 : dTst truth (dIsi ["tuple"] [] (dCall 1 fn_rounds (dCons (dVar 4) dNil))) δ = .ok true δ := tst_ok (d := .bl true) (un_ok c1 rfl) rfl
  exact (if_f (or_f t1 (not_ok t2))).trans rfl
abbrev badL (rows : List (List Int)) (s : Nat) : List Way := (srtW (allR rows s)).filter (badW rows)
abbrev arBad : DS := dSet 5 (dLc [6] (dSeqI (dAr sortD (dCons (dVar 11) dNil))) (gV 6) (dTst truth (dCall 2 fn__law_is_bad (dCons (dVar 3) (dCons (dVar 6) dNil)))) (dVar 6))
theorem arBad_ok {sc p : D} {s : Nat} {rows : List (List Int)} {x10 : Option D} (R : IsRows s rows) (hs : s ≤ 5) :
    arBad (arE sc p s (some (rowsT rows)) (some (webD rows)) none none none none none x10 (some (.lst ((allR rows s).map wD))) none none none none) = .next (arE sc p s (some (rowsT rows)) (some (webD rows)) (some (.lst ((badL rows s).map wD))) none none none none x10 (some (.lst ((allR rows s).map wD))) none none none none) := by
  have hz := sizeLine_big
  have hl := allR_len (rows := rows) (show s ≤ 6 by omega)
  have hA : dSeqI (dAr sortD (dCons (dVar 11) dNil)) (arE sc p s (some (rowsT rows)) (some (webD rows)) none none none none none x10 (some (.lst ((allR rows s).map wD))) none none none none) = .ok ((srtW (allR rows s)).map wD) (arE sc p s (some (rowsT rows)) (some (webD rows)) none none none none none x10 (some (.lst ((allR rows s).map wD))) none none none none) := seqI_ok (ar_ok (cons_ok rfl e_dNil) (srt_ways (by omega) allR_ne)) rfl
  have l1 := lcD_pure (vs := [6]) (s := gV 6) (t := dTst truth (dCall 2 fn__law_is_bad (dCons (dVar 3) (dCons (dVar 6) dNil)))) (f := dVar 6) (δ := arE sc p s (some (rowsT rows)) (some (webD rows)) none none none none none x10 (some (.lst ((allR rows s).map wD))) none none none none) (fun d => badW rows (unW d)) (fun d => d) (xs := (srtW (allR rows s)).map wD) (by rw [List.length_map, srt_len]; omega) (fun d hd => by
    obtain ⟨w, hw, rfl⟩ := List.mem_map.mp hd
    rw [srt_mem] at hw
    obtain ⟨o, eb⟩ := law_is_bad_ok R (allR_ne w hw) (allR_mem hw).2.2
    rw [unW_wD]
    exact ⟨_, rfl, tst_ok (d := .bl (badW rows w)) (call_ok (ds := [rowsT rows, wD w]) rfl rfl eb) rfl, fun _ => rfl, rfl⟩)
  have e2 : (((srtW (allR rows s)).map wD).filter fun d => badW rows (unW d)).map (fun d => d) = (badL rows s).map wD := by
    have hf : ((fun d => badW rows (unW d)) ∘ wD) = badW rows := funext fun w => congrArg (badW rows) (unW_wD w)
    rw [List.map_id', List.filter_map, hf]
  rw [e2] at l1
  exact set_ok (d := .lst ((badL rows s).map wD)) (lc_ok (vs := [6]) hA l1)
abbrev arThree : DS := dIf (dOr (dTst asB (dBin (eqD true) (dCall 1 fn_bad_rounds (dCons (dVar 4) dNil)) (dAr tupOf (dCons (dVar 5) dNil)))) (dTst asB (dBin (eqD true) (dBin (eqD false) (dVar 5) (dAr dLstD dNil)) (dCall 1 fn_never_rises (dCons (dVar 4) dNil))))) (dRet (dC (.bl false))) dSkip
theorem bad_empty (rows : List (List Int)) (s : Nat) : (firstBad rows (allR rows s)).isNone = (badL rows s).isEmpty := by
  unfold firstBad
  rw [Option.isNone_map, ← List.head?_filter]
  rw [Bool.eq_iff_iff, Option.isNone_iff_eq_none, List.head?_eq_none_iff, List.isEmpty_iff, List.filter_eq_nil_iff, List.filter_eq_nil_iff]
  exact ⟨fun h w hw => h w (srt_mem.mp hw), fun h w hw => h w (srt_mem.mpr hw)⟩
theorem arThree_ok {s : Nat} {rows : List (List Int)} {δ : List (Option D)} (R : IsRows s rows) (hs : s ≤ 5) (v4 : dVar 4 δ = .ok (webD rows) δ) (v5 : dVar 5 δ = .ok (.lst ((badL rows s).map wD)) δ) : arThree δ = .next δ := by
  obtain ⟨o, e⟩ := bad_rounds_ok R (show s ≤ 6 by omega)
  obtain ⟨o2, e2⟩ := never_rises_ok R (show s ≤ 6 by omega)
  rw [bad_empty] at e2
  have c1 : dCall 1 fn_bad_rounds (dCons (dVar 4) dNil) δ = .ok (.tup ((badL rows s).map wD)) δ := call_ok (ds := [webD rows]) (cons_ok v4 e_dNil) rfl e
  have c2 : dCall 1 fn_never_rises (dCons (dVar 4) dNil) δ = .ok (.bl (badL rows s).isEmpty) δ := call_ok (ds := [webD rows]) (cons_ok v4 e_dNil) rfl e2
  have t1 : dTst asB (dBin (eqD true) (dCall 1 fn_bad_rounds (dCons (dVar 4) dNil)) (dAr tupOf (dCons (dVar 5) dNil))) δ = .ok false δ := tst_ok (d := .bl false) (bin_ok c1 (ar_ok (cons_ok v5 e_dNil) rfl) (eq_same true _)) rfl
  have q : dBin (eqD false) (dVar 5) (dAr dLstD dNil) δ = .ok (.bl (badL rows s).isEmpty) δ := bin_ok v5 (ar_ok e_dNil (dLstD_ok (by simp))) (eq_nil false _)
  have t2 : dTst asB (dBin (eqD true) (dBin (eqD false) (dVar 5) (dAr dLstD dNil)) (dCall 1 fn_never_rises (dCons (dVar 4) dNil))) δ = .ok false δ := by
    refine tst_ok (d := .bl false) (bin_ok q c2 ?_) rfl
    generalize (badL rows s).isEmpty = b
    cases b <;> rfl
  exact (if_f (or_f t1 t2)).trans rfl

/-! the law of arrows and rounds: its loop, the odd values, the whole -/
theorem and_t {s t : DT} {δ δ1 δ2 : List (Option D)} {b : Bool} (h1 : s δ = .ok true δ1) (h2 : t δ1 = .ok b δ2) : dAnd s t δ = .ok b δ2 := by
  rw [e_dAnd, h1, e_bind_ok]
  simp only [if_true]
  exact h2
theorem and_b {s t : DT} {δ : List (Option D)} {a b : Bool} (h1 : s δ = .ok a δ) (h2 : t δ = .ok b δ) : dAnd s t δ = .ok (a && b) δ := by
  rw [e_dAnd, h1, e_bind_ok]
  cases a with
  | true => simp only [if_true, Bool.true_and]; exact h2
  | false => rfl
theorem or_b {s t : DT} {δ : List (Option D)} {a b : Bool} (h1 : s δ = .ok a δ) (h2 : t δ = .ok b δ) : dOr s t δ = .ok (a || b) δ := by
  rw [e_dOr, h1, e_bind_ok]
  cases a with
  | false => simp only [Bool.false_eq_true, if_false, Bool.false_or]; exact h2
  | true => rfl
theorem round_arrows_ok {s : Nat} {rows : List (List Int)} {v : Way} {d : D} (R : IsRows s rows) (h : IsRnd rows v) (hs : ∀ i ∈ v, i < s) (hl : 1 ≤ v.length ∧ v.length < 1000) (hd : d = wD v ∨ d = .lst (v.map nI)) : ∃ o, fn_round_arrows [webD rows, d] = .ok (.tup ((srtP (alongL v)).map pD)) o := by
  have hr : roundB rows s (v.map nI) = true := by
    unfold roundB
    rw [back_nats, h.prog, Bool.and_true, Bool.and_eq_true, Bool.not_eq_true', beq_eq_false_iff_ne, List.all_eq_true, List.length_map]
    refine ⟨by omega, fun x hx => ?_⟩
    obtain ⟨i, hi, rfl⟩ := List.mem_map.mp hx
    have := hs i hi
    unfold nI okI
    rw [Bool.and_eq_true, decide_eq_true_eq, decide_eq_true_eq]
    omega
  obtain ⟨o, e⟩ := is_round_tup (l := v.map nI) R (by rw [List.length_map]; omega) (simple_ways v)
  rw [hr] at e
  obtain ⟨o2, e2⟩ := arrows_along_ok (w := v) hl.2
  have hh : raHead [some (webD rows), some d] = .ok false [some (webD rows), some d] := by
    rcases hd with rfl | rfl
    · exact ra_head (b1 := true) (is_list_tup _) rfl e
    · exact ra_head (b1 := true) (is_list_lst _) rfl e
  have ht : tupOf [d] = some (wD v) := by rcases hd with rfl | rfl <;> rfl
  refine ⟨_, dFn_ret (δ0 := [some (webD rows), some d]) (d := .tup ((srtP (alongL v)).map pD)) (δ := [some (webD rows), some d]) rfl ?_⟩
  unfold d_round_arrows
  refine (seq_next ((if_f hh).trans rfl)).trans ?_
  exact ret_ok (call_ok (ds := [wD v]) (cons_ok (ar_ok (cons_ok rfl e_dNil) ht) e_dNil) rfl e2)
abbrev arTest : DS := dIf (dOr (dTst asB (dBin (eqD true) (dVar 15) (dCall 1 fn__law_arrows_along (dCons (dVar 6) dNil)))) (dOr (dNot (dTst truth (dIsi ["tuple"] [] (dVar 15)))) (dTst asB (dBin (eqD true) (dAr tupOf (dCons (dVar 14) dNil)) (dVar 13))))) (dRet (dC (.bl false))) dSkip
abbrev arLoop : DS := dSeq (dSet 12 (dCallIO 1 1 fn__law_draw (dCons (dAr lenD (dCons (dVar 6) dNil)) dNil))) (dSeq (dSet 13 (dBin add4D (dSli sliA (dVar 6) (dPart (dVar 12)) dNo0) (dSli sliA (dVar 6) dNo0 (dPart (dVar 12))))) (dSeq (dSet 14 (dIte (dTst asB (dBin (eqD false) (dCallIO 1 1 fn__law_draw (dCons (dC (.int 2)) dNil)) (dC (.int 0)))) (dAr lstOf (dCons (dVar 13) dNil)) (dVar 13))) (dSeq (dSet 15 (dCall 2 fn_round_arrows (dCons (dVar 4) (dCons (dVar 14) dNil)))) arTest)))
theorem arLoop_ok {n s : Nat} {sc p : D} {rows : List (List Int)} {x5 x10 x11 x12 x13 x14 x15 : Option D} {w : Way} (R : IsRows s rows) (h : Pen n p) (hn : n < 1000000) (hw : IsRnd rows w) (hl : 1 ≤ w.length ∧ w.length ≤ 6) (hi : ∀ i ∈ w, i < s) :
    ∃ (p' : D) (x12' x13' x14' x15' : Option D), Pen (n + 2) p' ∧ arLoop (arE sc p s (some (rowsT rows)) (some (webD rows)) x5 (some (wD w)) none none none x10 x11 x12 x13 x14 x15) = .next (arE sc p' s (some (rowsT rows)) (some (webD rows)) x5 (some (wD w)) none none none x10 x11 x12' x13' x14' x15') := by
  obtain ⟨y, p1, hy, hp1, e1⟩ := draw1_ok (n := n) (c := (w.length : Nat)) (x := some sc) (p := p) (g := dCons (dAr lenD (dCons (dVar 6) dNil)) dNil) (r := [some (nI s), some (rowsT rows), some (webD rows), x5, some (wD w), none, none, none, x10, x11, x12, x13, x14, x15, none, none, some tbD]) h (by omega) (by omega) (fun p => cons_ok (lenW rfl) e_dNil)
  have s1 : dSet 12 (dCallIO 1 1 fn__law_draw (dCons (dAr lenD (dCons (dVar 6) dNil)) dNil)) (arE sc p s (some (rowsT rows)) (some (webD rows)) x5 (some (wD w)) none none none x10 x11 x12 x13 x14 x15) = .next (arE sc p1 s (some (rowsT rows)) (some (webD rows)) x5 (some (wD w)) none none none x10 x11 (some (nI y)) x13 x14 x15) := set_ok e1
  have d1 := sli_drop (v := w) (j := y) (f := dVar 6) (g := dVar 12) (δ := arE sc p1 s (some (rowsT rows)) (some (webD rows)) x5 (some (wD w)) none none none x10 x11 (some (nI y)) x13 x14 x15) (by omega) rfl rfl
  have d2 := sli_take (v := w) (j := y) (f := dVar 6) (g := dVar 12) (δ := arE sc p1 s (some (rowsT rows)) (some (webD rows)) x5 (some (wD w)) none none none x10 x11 (some (nI y)) x13 x14 x15) (by omega) rfl rfl
  have s2 : dSet 13 (dBin add4D (dSli sliA (dVar 6) (dPart (dVar 12)) dNo0) (dSli sliA (dVar 6) dNo0 (dPart (dVar 12)))) (arE sc p1 s (some (rowsT rows)) (some (webD rows)) x5 (some (wD w)) none none none x10 x11 (some (nI y)) x13 x14 x15) = .next (arE sc p1 s (some (rowsT rows)) (some (webD rows)) x5 (some (wD w)) none none none x10 x11 (some (nI y)) (some (wD (rot w y))) x14 x15) := by
    refine set_ok (d := wD (rot w y)) (bin_ok d1 d2 ?_)
    unfold wD rot
    rw [add_tups (by rw [List.length_map, List.length_map, List.length_drop, List.length_take]; omega), List.map_append]
  obtain ⟨z, p2, hz, hp2, e3⟩ := draw1_ok (n := n + 1) (c := 2) (x := some sc) (p := p1) (g := dCons (dC (.int 2)) dNil) (r := [some (nI s), some (rowsT rows), some (webD rows), x5, some (wD w), none, none, none, x10, x11, some (nI y), some (wD (rot w y)), x14, x15, none, none, some tbD]) hp1 (by omega) (by decide) (fun p => rfl)
  have t3 : dTst asB (dBin (eqD false) (dCallIO 1 1 fn__law_draw (dCons (dC (.int 2)) dNil)) (dC (.int 0))) (arE sc p1 s (some (rowsT rows)) (some (webD rows)) x5 (some (wD w)) none none none x10 x11 (some (nI y)) (some (wD (rot w y))) x14 x15) = .ok ((z : Int) == 0) (arE sc p2 s (some (rowsT rows)) (some (webD rows)) x5 (some (wD w)) none none none x10 x11 (some (nI y)) (some (wD (rot w y))) x14 x15) := tst_ok (bin_ok e3 rfl e_eq_int) rfl
  have s3 : ∃ g : D, (g = wD (rot w y) ∨ g = .lst ((rot w y).map nI)) ∧ dSet 14 (dIte (dTst asB (dBin (eqD false) (dCallIO 1 1 fn__law_draw (dCons (dC (.int 2)) dNil)) (dC (.int 0)))) (dAr lstOf (dCons (dVar 13) dNil)) (dVar 13)) (arE sc p1 s (some (rowsT rows)) (some (webD rows)) x5 (some (wD w)) none none none x10 x11 (some (nI y)) (some (wD (rot w y))) x14 x15) = .next (arE sc p2 s (some (rowsT rows)) (some (webD rows)) x5 (some (wD w)) none none none x10 x11 (some (nI y)) (some (wD (rot w y))) (some g) x15) := by
    have q0 : dVar 13 (arE sc p2 s (some (rowsT rows)) (some (webD rows)) x5 (some (wD w)) none none none x10 x11 (some (nI y)) (some (wD (rot w y))) x14 x15) = .ok (wD (rot w y)) (arE sc p2 s (some (rowsT rows)) (some (webD rows)) x5 (some (wD w)) none none none x10 x11 (some (nI y)) (some (wD (rot w y))) x14 x15) := rfl
    have q1 : dAr lstOf (dCons (dVar 13) dNil) (arE sc p2 s (some (rowsT rows)) (some (webD rows)) x5 (some (wD w)) none none none x10 x11 (some (nI y)) (some (wD (rot w y))) x14 x15) = .ok (.lst ((rot w y).map nI)) (arE sc p2 s (some (rowsT rows)) (some (webD rows)) x5 (some (wD w)) none none none x10 x11 (some (nI y)) (some (wD (rot w y))) x14 x15) := ar_ok (cons_ok q0 e_dNil) rfl
    generalize ((z : Int) == 0) = b at t3
    cases b with
    | true => exact ⟨_, .inr rfl, set_ok (i := 14) (d := .lst ((rot w y).map nI)) ((ite_t t3).trans q1)⟩
    | false => exact ⟨_, .inl rfl, set_ok (i := 14) (d := wD (rot w y)) ((ite_f t3).trans q0)⟩
  obtain ⟨g, hg, s3⟩ := s3
  have hyl : y < w.length := by omega
  have hrl := rot_len w y
  obtain ⟨o4, e4⟩ := round_arrows_ok R (hw.rot hyl) (fun i hm => hi i ((rot_perm w y).mem_iff.mp hm)) (by omega) hg
  rw [srtP_perm (along_rot hyl)] at e4
  have s4 : dSet 15 (dCall 2 fn_round_arrows (dCons (dVar 4) (dCons (dVar 14) dNil))) (arE sc p2 s (some (rowsT rows)) (some (webD rows)) x5 (some (wD w)) none none none x10 x11 (some (nI y)) (some (wD (rot w y))) (some g) x15) = .next (arE sc p2 s (some (rowsT rows)) (some (webD rows)) x5 (some (wD w)) none none none x10 x11 (some (nI y)) (some (wD (rot w y))) (some g) (some (.tup ((srtP (alongL w)).map pD)))) := set_ok (call_ok (ds := [webD rows, g]) rfl rfl e4)
  obtain ⟨o5, e5⟩ := law_arrows_along_ok (w := w) (by omega)
  have s5 : arTest (arE sc p2 s (some (rowsT rows)) (some (webD rows)) x5 (some (wD w)) none none none x10 x11 (some (nI y)) (some (wD (rot w y))) (some g) (some (.tup ((srtP (alongL w)).map pD)))) = .next (arE sc p2 s (some (rowsT rows)) (some (webD rows)) x5 (some (wD w)) none none none x10 x11 (some (nI y)) (some (wD (rot w y))) (some g) (some (.tup ((srtP (alongL w)).map pD)))) := by
    generalize hδ : arE sc p2 s (some (rowsT rows)) (some (webD rows)) x5 (some (wD w)) none none none x10 x11 (some (nI y)) (some (wD (rot w y))) (some g) (some (.tup ((srtP (alongL w)).map pD))) = δ
    have v15 : dVar 15 δ = .ok (.tup ((srtP (alongL w)).map pD)) δ := by rw [← hδ]; rfl
    have v6 : dVar 6 δ = .ok (wD w) δ := by rw [← hδ]; rfl
    have v14 : dVar 14 δ = .ok g δ := by rw [← hδ]; rfl
    have v13 : dVar 13 δ = .ok (wD (rot w y)) δ := by rw [← hδ]; rfl
    have t1 : dTst asB (dBin (eqD true) (dVar 15) (dCall 1 fn__law_arrows_along (dCons (dVar 6) dNil))) δ = .ok false δ := tst_ok (d := .bl false) (bin_ok v15 (call_ok (ds := [wD w]) (cons_ok v6 e_dNil) rfl e5) (eq_pairs true _)) rfl
    have t2 : dTst truth (dIsi ["tuple"] [] (dVar 15)) δ = .ok true δ := tst_ok (d := .bl true) (un_ok v15 rfl) rfl
    have ht : tupOf [g] = some (wD (rot w y)) := by rcases hg with rfl | rfl <;> rfl
    have t3 : dTst asB (dBin (eqD true) (dAr tupOf (dCons (dVar 14) dNil)) (dVar 13)) δ = .ok false δ := tst_ok (d := .bl false) (bin_ok (ar_ok (cons_ok v14 e_dNil) ht) v13 (eq_way true _)) rfl
    exact (if_f (or_f t1 (or_f (not_ok t2) t3))).trans rfl
  exact ⟨p2, _, _, _, _, hp2, (seq_next s1).trans ((seq_next s2).trans ((seq_next s3).trans ((seq_next s4).trans s5)))⟩
theorem sli_preL {f g : DE} {δ δ1 δ2 : List (Option D)} {l : List D} {j : Nat} (hf : f δ = .ok (.lst l) δ1) (hg : g δ1 = .ok (nI j) δ2) : ∃ m : List D, (∀ x ∈ m, x ∈ l) ∧ m.length ≤ l.length ∧ dSli sliA f dNo0 (dPart g) δ = .ok (.lst m) δ2 := by
  have h : sliA (.lst l) none (some (j : Int)) = some (.lst (VL.cutD l none (some (j : Int)))) := rfl
  have hp : dPart g δ1 = .ok (some (j : Int)) δ2 := by unfold dPart; rw [hg, e_bind_ok]; rfl
  have hn : ∀ δ, dNo0 δ = .ok none δ := fun _ => rfl
  refine ⟨VL.cutD l none (some (j : Int)), fun x hx => ?_, ?_, ?_⟩
  · unfold VL.cutD at hx
    exact List.mem_of_mem_drop (List.mem_of_mem_take hx)
  · unfold VL.cutD
    rw [List.length_take, List.length_drop]
    omega
  · unfold dSli
    rw [hf, e_bind_ok, hn, e_bind_ok, hp, e_bind_ok, h]
    rfl
def bare0 (rows : List (List Int)) (s : Nat) : List D := ((List.range s).filter fun i => cell rows i i == 0).map fun i => wD [i]
def bareR (rows : List (List Int)) (s : Nat) (d : D) : List D := ((List.range s).filter fun j => (((natOf d : Nat) : Int) != ((j : Nat) : Int)) && (cell rows (natOf d) j == 0 || cell rows j (natOf d) == 0)).map fun j => wD [j, natOf d]
def bareL (rows : List (List Int)) (s : Nat) : List D := bare0 rows s ++ (rangeD 0 s).flatMap (bareR rows s)
theorem bare_odd {s : Nat} {rows : List (List Int)} (R : IsRows s rows) (hs : s ≤ 5) {d : D} (h : d ∈ bareL rows s) : Odd rows d := by
  rcases List.mem_append.mp h with h | h
  · obtain ⟨i, hi, rfl⟩ := List.mem_map.mp h
    have h1 := List.mem_filter.mp hi
    exact odd_one R hs (List.mem_range.mp h1.1) (by simpa using h1.2)
  · obtain ⟨x, hx, h⟩ := List.mem_flatMap.mp h
    obtain ⟨i, hi, rfl⟩ := mem_range hx
    obtain ⟨j, hj, rfl⟩ := List.mem_map.mp h
    have h1 := List.mem_filter.mp hj
    have h2 := h1.2
    rw [Bool.and_eq_true, Bool.or_eq_true, beq_iff_eq, beq_iff_eq] at h2
    exact odd_two R hs hi (List.mem_range.mp h1.1) h2.2
abbrev arB0 : DS := dSet 7 (dLc [8] (dRng1 (dCons (dVar 2) dNil)) (gV 8) (dTst asB (dBin (eqD false) (dBin idxD (dBin idxD (dVar 3) (dVar 8)) (dVar 8)) (dC (.int 0)))) (dAr dTupD (dCons (dVar 8) dNil)))
abbrev arBf : DE := dLc [16] (dRng1 (dCons (dVar 2) dNil)) (gV 16) (dAnd (dTst asB (dBin (eqD true) (dVar 8) (dVar 16))) (dOr (dTst asB (dBin (eqD false) (dBin idxD (dBin idxD (dVar 3) (dVar 8)) (dVar 16)) (dC (.int 0)))) (dTst asB (dBin (eqD false) (dBin idxD (dBin idxD (dVar 3) (dVar 16)) (dVar 8)) (dC (.int 0)))))) (dAr dTupD (dCons (dVar 16) (dCons (dVar 8) dNil)))
theorem arB0_ok {sc p : D} {s : Nat} {rows : List (List Int)} {x5 x6 x10 x11 x12 x13 x14 x15 : Option D} (R : IsRows s rows) (hs : s ≤ 5) :
    arB0 (arE sc p s (some (rowsT rows)) (some (webD rows)) x5 x6 none none none x10 x11 x12 x13 x14 x15) = .next (arE sc p s (some (rowsT rows)) (some (webD rows)) x5 x6 (some (.lst (bare0 rows s))) none none x10 x11 x12 x13 x14 x15) := by
  have hz := sizeLine_big
  have l1 := lcD_pure (vs := [8]) (s := gV 8) (t := dTst asB (dBin (eqD false) (dBin idxD (dBin idxD (dVar 3) (dVar 8)) (dVar 8)) (dC (.int 0)))) (f := dAr dTupD (dCons (dVar 8) dNil)) (δ := arE sc p s (some (rowsT rows)) (some (webD rows)) x5 x6 none none none x10 x11 x12 x13 x14 x15) (fun d => cell rows (natOf d) (natOf d) == 0) (fun d => wD [natOf d]) (xs := rangeD 0 s) (by rw [len_range]; omega) (fun d hd => by
    obtain ⟨i, hi, rfl⟩ := mem_range hd
    exact ⟨_, rfl, tst_ok (d := .bl (cell rows i i == 0)) (bin_ok (cell_ok (i := i) (j := i) R rfl rfl rfl hi hi) e_dC e_eq_int) rfl, fun _ => ar_ok (cons_ok rfl e_dNil) (dTupD_ok (by simp)), rfl⟩)
  have e : ((rangeD 0 s).filter fun d => cell rows (natOf d) (natOf d) == 0).map (fun d => wD [natOf d]) = bare0 rows s := by
    unfold bare0
    rw [rangeD_nat, List.filter_map, List.map_map]
    rfl
  rw [e] at l1
  exact set_ok (lc_ok (vs := [8]) (δ := (arE sc p s (some (rowsT rows)) (some (webD rows)) x5 x6 none none none x10 x11 x12 x13 x14 x15)) (δ1 := (arE sc p s (some (rowsT rows)) (some (webD rows)) x5 x6 none none none x10 x11 x12 x13 x14 x15)) (δ2 := (arE sc p s (some (rowsT rows)) (some (webD rows)) x5 x6 none none none x10 x11 x12 x13 x14 x15)) (rng1_ok (s := s) rfl (by omega)) l1)
theorem arB1_ok {sc p : D} {s : Nat} {rows : List (List Int)} {x5 x6 x10 x11 x12 x13 x14 x15 : Option D} (R : IsRows s rows) (hs : s ≤ 5) :
    ∃ x8, dFor (dRng1 (dCons (dVar 2) dNil)) (gV 8) (dSet 7 (dBin add4D (dVar 7) arBf)) (arE sc p s (some (rowsT rows)) (some (webD rows)) x5 x6 (some (.lst (bare0 rows s))) none none x10 x11 x12 x13 x14 x15) = .next (arE sc p s (some (rowsT rows)) (some (webD rows)) x5 x6 (some (.lst (bareL rows s))) x8 none x10 x11 x12 x13 x14 x15) := by
  have hz := sizeLine_big
  have hb0 : (bare0 rows s).length ≤ s := by
    unfold bare0
    rw [List.length_map]
    exact Nat.le_trans (List.length_filter_le ..) (by rw [List.length_range]; exact Nat.le_refl _)
  have hbr : ∀ d, (bareR rows s d).length ≤ s := fun d => by
    unfold bareR
    rw [List.length_map]
    exact Nat.le_trans (List.length_filter_le ..) (by rw [List.length_range]; exact Nat.le_refl _)
  have hss : s * s ≤ 5 * 5 := Nat.mul_le_mul hs hs
  obtain ⟨v', e⟩ := acc_loop (k := 7) (kv := 8) (m := s) (f := arBf) (xs := rangeD 0 s) (l0 := bare0 rows s) (v := none) (bareR rows s) (fun a v => arE sc p s (some (rowsT rows)) (some (webD rows)) x5 x6 (some a) v none x10 x11 x12 x13 x14 x15) (by rw [len_range]; omega) (fun a v => rfl) (fun a v b => rfl) (fun a v d => rfl) (fun d hd => by
    obtain ⟨i, hi, rfl⟩ := mem_range hd
    refine ⟨hbr _, fun a => ?_⟩
    have l1 := lcD_pure (vs := [16]) (s := gV 16) (t := dAnd (dTst asB (dBin (eqD true) (dVar 8) (dVar 16))) (dOr (dTst asB (dBin (eqD false) (dBin idxD (dBin idxD (dVar 3) (dVar 8)) (dVar 16)) (dC (.int 0)))) (dTst asB (dBin (eqD false) (dBin idxD (dBin idxD (dVar 3) (dVar 16)) (dVar 8)) (dC (.int 0)))))) (f := dAr dTupD (dCons (dVar 16) (dCons (dVar 8) dNil))) (δ := arE sc p s (some (rowsT rows)) (some (webD rows)) x5 x6 (some a) (some (nI i)) none x10 x11 x12 x13 x14 x15) (fun d => (((i : Nat) : Int) != ((natOf d : Nat) : Int)) && (cell rows i (natOf d) == 0 || cell rows (natOf d) i == 0)) (fun d => wD [natOf d, i]) (xs := rangeD 0 s) (by rw [len_range]; omega) (fun d hd => by
      obtain ⟨j, hj, rfl⟩ := mem_range hd
      refine ⟨_, rfl, ?_, fun _ => ar_ok (cons_ok rfl (cons_ok rfl e_dNil)) (dTupD_ok (by simp)), rfl⟩
      refine and_b (tst_ok (d := .bl (((i : Nat) : Int) != ((j : Nat) : Int))) (bin_ok (a := nI i) (b := nI j) rfl rfl e_neI) rfl) (or_b ?_ ?_)
      · exact tst_ok (d := .bl (cell rows i j == 0)) (bin_ok (cell_ok (i := i) (j := j) R rfl rfl rfl hi hj) e_dC e_eq_int) rfl
      · exact tst_ok (d := .bl (cell rows j i == 0)) (bin_ok (cell_ok (i := j) (j := i) R rfl rfl rfl hj hi) e_dC e_eq_int) rfl)
    have e : ((rangeD 0 s).filter fun d => (((i : Nat) : Int) != ((natOf d : Nat) : Int)) && (cell rows i (natOf d) == 0 || cell rows (natOf d) i == 0)).map (fun d => wD [natOf d, i]) = bareR rows s (nI i) := by
      unfold bareR
      rw [rangeD_nat, List.filter_map, List.map_map]
      rfl
    rw [e] at l1
    exact lc_ok (vs := [16]) (δ1 := arE sc p s (some (rowsT rows)) (some (webD rows)) x5 x6 (some a) (some (nI i)) none x10 x11 x12 x13 x14 x15) (δ2 := arE sc p s (some (rowsT rows)) (some (webD rows)) x5 x6 (some a) (some (nI i)) none x10 x11 x12 x13 x14 x15) (rng1_ok rfl (by omega)) l1)
  exact ⟨v', for_ok (rng1_ok rfl (by omega)) e⟩
theorem bareL_len {s : Nat} {rows : List (List Int)} (hs : s ≤ 5) : (bareL rows s).length ≤ 100 := by
  have hb0 : (bare0 rows s).length ≤ s := by
    unfold bare0
    rw [List.length_map]
    exact Nat.le_trans (List.length_filter_le ..) (by rw [List.length_range]; exact Nat.le_refl _)
  have hbr : ∀ d, (bareR rows s d).length ≤ s := fun d => by
    unfold bareR
    rw [List.length_map]
    exact Nat.le_trans (List.length_filter_le ..) (by rw [List.length_range]; exact Nat.le_refl _)
  have := flat_len hbr (rangeD 0 s)
  rw [len_range] at this
  have hss : s * s ≤ 5 * 5 := Nat.mul_le_mul hs hs
  unfold bareL
  rw [List.length_append]
  omega
abbrev oddE : DA := dCons (dAr dTupD dNil) (dCons (dAr dLstD dNil) (dCons (dC .non) (dCons (dC (.int 0)) (dCons (dAr dTupD (dCons (dVar 2) dNil)) (dCons (dAr dTupD (dCons (dUn negD (dC (.int 1))) dNil)) (dCons (dAr dTupD (dCons (dC (.bl true)) dNil)) (dCons (dAr dTupD (dCons (dC (.str "0")) dNil)) (dCons (dAr dTupD (dCons (dC (.int 0)) (dCons (dC (.int 0)) dNil))) (dCons (dDisp (((dC (.int 0)), (dC (.int 0))) :: [])) (dCons (dAr dLstD (dCons (dC (.int 0)) (dCons (dC .non) dNil))) dNil))))))))))
theorem oddE_ok {s : Nat} {δ : List (Option D)} (h : dVar 2 δ = .ok (nI s) δ) : dAr dLstD oddE δ = .ok (.lst (oddL s)) δ := by
  have tp : ∀ {g : DA} {l : List D}, g δ = .ok l δ → l.length ≤ 10 → dAr dTupD g δ = .ok (.tup l) δ := fun h hl => ar_ok h (dTupD_ok (by omega))
  have ls : ∀ {g : DA} {l : List D}, g δ = .ok l δ → l.length ≤ 100 → dAr dLstD g δ = .ok (.lst l) δ := fun h hl => ar_ok h (dLstD_ok (by omega))
  refine ls (cons_ok (tp e_dNil (by simp)) (cons_ok (ls e_dNil (by simp)) (cons_ok e_dC (cons_ok e_dC (cons_ok (tp (cons_ok h e_dNil) (by simp)) (cons_ok (tp (cons_ok (un_ok e_dC e_neg) e_dNil) (by simp)) (cons_ok (tp (cons_ok e_dC e_dNil) (by simp)) (cons_ok (tp (cons_ok e_dC e_dNil) (by simp)) (cons_ok (tp (cons_ok e_dC (cons_ok e_dC e_dNil)) (by simp)) (cons_ok ?_ (cons_ok (ls (cons_ok e_dC (cons_ok e_dC e_dNil)) (by simp)) e_dNil))))))))))) (show (11 : Nat) ≤ 100 by decide)
  rfl
theorem call_exn {n : Nat} {fn : List D → FRes} {g : DA} {e : D} {δ δ1 : List (Option D)} {ds : List D} (hg : g δ = .ok ds δ1) (hn : ds.length = n) (hf : fn ds = .exn e) : dCall n fn g δ = .exn e δ1 := by
  unfold dCall
  rw [hg, e_bind_ok, if_pos hn, hf]
theorem lamF_ok {jt : Nat} {q : Str} {fnT : FRes → FRes} {th : DE} {δ : List (Option D)} {d : D} {o : List (Option D)} (h : δ[jt]? = some (some (.gh "tab" [(q, .non)]))) (e : fnT (toF (th δ)) = .ok d o) (hf : froz d = true) : dLamF jt q fnT th δ = .ok d δ := by
  unfold dLamF
  rw [h]
  simp only [and_self, if_true, e, hf]
theorem law_true : TellsG d_law 18 "law.<locals>.<lambda>" := by
  intro ns hns
  obtain ⟨p0, e0, h0⟩ := pen_init ns
  obtain ⟨s, p1, hs, h1, e1⟩ := size3_ok h0 (by decide)
  generalize hsc : D.frz (ns.map D.int) = sc at e0
  have s1 : dSet 1 (dCall 1 fn__law_pen (dCons (dVar 0) dNil)) (some sc :: List.replicate 17 none ++ [some tbD]) = .next (some sc :: some p0 :: List.replicate 16 none ++ [some tbD]) := set_ok (call_ok (ds := [sc]) rfl rfl e0)
  have s2 : dSet 2 (dCallIO 1 1 fn__law_pick (dCons (dAr dLstD (dCons (dC (.int 3)) (dCons (dC (.int 4)) (dCons (dC (.int 5)) (dCons (dC (.int 2)) (dCons (dC (.int 4)) (dCons (dC (.int 1)) dNil))))))) dNil)) (some sc :: some p0 :: List.replicate 16 none ++ [some tbD]) = .next (arE sc p1 s none none none none none none none none none none none none none) :=
    set_ok (callIO1_ok (ds := [.lst [.int 3, .int 4, .int 5, .int 2, .int 4, .int 1]]) (cons_ok (ar_ok (cons_ok e_dC (cons_ok e_dC (cons_ok e_dC (cons_ok e_dC (cons_ok e_dC (cons_ok e_dC e_dNil)))))) (dLstD_ok (by simp))) e_dNil) rfl e1)
  obtain ⟨rows, p2, R, h2, s3⟩ := arWeb_ok (sc := sc) h1 hs
  have hs6 : s ≤ 6 := by omega
  have s4 : dSet 4 (dMake "Web" 1 fn_Web_init (dCons (dVar 3) dNil)) (arE sc p2 s (some (rowsT rows)) none none none none none none none none none none none none) = .next (arE sc p2 s (some (rowsT rows)) (some (webD rows)) none none none none none none none none none none none) := set_ok (web_make_ok R ⟨hs.1, by omega⟩ rfl)
  obtain ⟨o5, e5⟩ := arrows_ok R (by omega)
  obtain ⟨o6, e6⟩ := law_rounds_ok R hs6
  have m5 : dCall 1 fn_arrows (dCons (dVar 4) dNil) (arE sc p2 s (some (rowsT rows)) (some (webD rows)) none none none none none none none none none none none) = .ok (.tup ((arrL rows s).map pD)) (arE sc p2 s (some (rowsT rows)) (some (webD rows)) none none none none none none none none none none none) := call_ok (ds := [webD rows]) rfl rfl e5
  have m6 : dCall 1 fn__law_rounds (dCons (dVar 3) dNil) (arE sc p2 s (some (rowsT rows)) (some (webD rows)) none none none none none none none none none none none) = .ok (.lst ((allR rows s).map wD)) (arE sc p2 s (some (rowsT rows)) (some (webD rows)) none none none none none none none none none none none) := call_ok (ds := [rowsT rows]) rfl rfl e6
  have s5 : dPar2 10 11 (dCons (dCall 1 fn_arrows (dCons (dVar 4) dNil)) (dCons (dCall 1 fn__law_rounds (dCons (dVar 3) dNil)) dNil)) (arE sc p2 s (some (rowsT rows)) (some (webD rows)) none none none none none none none none none none none) = .next (arE sc p2 s (some (rowsT rows)) (some (webD rows)) none none none none none (some (.tup ((arrL rows s).map pD))) (some (.lst ((allR rows s).map wD))) none none none none) :=
    par2_ok (d := .tup ((arrL rows s).map pD)) (e := .lst ((allR rows s).map wD)) (cons_ok m5 (cons_ok m6 e_dNil))
  have s6 := arOne_ok (sc := sc) (p := p2) (found := .lst ((allR rows s).map wD)) R hs.2
  have s7 : arTwo (arE sc p2 s (some (rowsT rows)) (some (webD rows)) none none none none none (some (.tup ((arrL rows s).map pD))) (some (.lst ((allR rows s).map wD))) none none none none) = .next (arE sc p2 s (some (rowsT rows)) (some (webD rows)) none none none none none (some (.tup ((arrL rows s).map pD))) (some (.lst ((allR rows s).map wD))) none none none none) := arTwo_ok R hs.2 rfl rfl
  have s8 := arBad_ok (sc := sc) (p := p2) (x10 := some (.tup ((arrL rows s).map pD))) R hs.2
  have s9 : arThree (arE sc p2 s (some (rowsT rows)) (some (webD rows)) (some (.lst ((badL rows s).map wD))) none none none none (some (.tup ((arrL rows s).map pD))) (some (.lst ((allR rows s).map wD))) none none none none) = .next (arE sc p2 s (some (rowsT rows)) (some (webD rows)) (some (.lst ((badL rows s).map wD))) none none none none (some (.tup ((arrL rows s).map pD))) (some (.lst ((allR rows s).map wD))) none none none none) := arThree_ok R hs.2 rfl rfl
  have hal := allR_len (rows := rows) hs6
  obtain ⟨m, hm, hml, e10⟩ := sli_preL (f := dVar 11) (g := dC (.int 12)) (j := 12) (l := (allR rows s).map wD) (δ := arE sc p2 s (some (rowsT rows)) (some (webD rows)) (some (.lst ((badL rows s).map wD))) none none none none (some (.tup ((arrL rows s).map pD))) (some (.lst ((allR rows s).map wD))) none none none none) rfl rfl
  rw [List.length_map] at hml
  obtain ⟨δ', l10, p3, x6, x12, x13, x14, x15, rfl, h3⟩ := forD_inv (s := gV 6) (body := arLoop) (fun q δ => ∃ (p3 : D) (x6 x12 x13 x14 x15 : Option D), δ = arE sc p3 s (some (rowsT rows)) (some (webD rows)) (some (.lst ((badL rows s).map wD))) x6 none none none (some (.tup ((arrL rows s).map pD))) (some (.lst ((allR rows s).map wD))) x12 x13 x14 x15 ∧ Pen (200 + 2 * q) p3) m _ ⟨p2, none, none, none, none, none, rfl, h2⟩ (by
    rintro q d δ hx ⟨p3, x6, x12, x13, x14, x15, rfl, h3⟩
    have hq : q < m.length := (List.getElem?_eq_some_iff.mp hx).1
    obtain ⟨w, hw, rfl⟩ := List.mem_map.mp (hm d (List.mem_of_getElem? hx))
    obtain ⟨a1, a2, a3⟩ := allR_mem hw
    obtain ⟨p4, x12', x13', x14', x15', h4, e⟩ := arLoop_ok (sc := sc) (x5 := some (.lst ((badL rows s).map wD))) (x10 := some (.tup ((arrL rows s).map pD))) (x11 := some (.lst ((allR rows s).map wD))) (x12 := x12) (x13 := x13) (x14 := x14) (x15 := x15) R h3 (by omega) (allR_rnd hw) ⟨a1, by omega⟩ a3
    exact ⟨_, rfl, _, .inl e, p4, some (wD w), x12', x13', x14', x15', rfl, h4⟩)
  have s11 := arB0_ok (sc := sc) (p := p3) (x5 := some (.lst ((badL rows s).map wD))) (x6 := x6) (x10 := some (.tup ((arrL rows s).map pD))) (x11 := some (.lst ((allR rows s).map wD))) (x12 := x12) (x13 := x13) (x14 := x14) (x15 := x15) R hs.2
  obtain ⟨x8, s12⟩ := arB1_ok (sc := sc) (p := p3) (x5 := some (.lst ((badL rows s).map wD))) (x6 := x6) (x10 := some (.tup ((arrL rows s).map pD))) (x11 := some (.lst ((allR rows s).map wD))) (x12 := x12) (x13 := x13) (x14 := x14) (x15 := x15) R hs.2
  have hbl := bareL_len (rows := rows) hs.2
  have hol : (oddL s).length = 11 := rfl
  obtain ⟨d, p5, hd, h5, e13⟩ := pick_ok (l := bareL rows s ++ oddL s) h3 (by omega) (by simp [oddL]) (by rw [List.length_append]; omega)
  have hO : Odd rows d := by
    rcases List.mem_append.mp hd with h | h
    · exact bare_odd R hs.2 h
    · exact odd_list R hs.2 h
  have s13 : dSet 9 (dCallIO 1 1 fn__law_pick (dCons (dBin add4D (dVar 7) (dAr dLstD oddE)) dNil)) (arE sc p3 s (some (rowsT rows)) (some (webD rows)) (some (.lst ((badL rows s).map wD))) x6 (some (.lst (bareL rows s))) x8 none (some (.tup ((arrL rows s).map pD))) (some (.lst ((allR rows s).map wD))) x12 x13 x14 x15) = .next (arE sc p5 s (some (rowsT rows)) (some (webD rows)) (some (.lst ((badL rows s).map wD))) x6 (some (.lst (bareL rows s))) x8 (some d) (some (.tup ((arrL rows s).map pD))) (some (.lst ((allR rows s).map wD))) x12 x13 x14 x15) :=
    set_ok (callIO1_ok (ds := [.lst (bareL rows s ++ oddL s)]) (cons_ok (bin_ok rfl (oddE_ok rfl) (cat_lst (by omega))) e_dNil) rfl e13)
  generalize hδ : arE sc p5 s (some (rowsT rows)) (some (webD rows)) (some (.lst ((badL rows s).map wD))) x6 (some (.lst (bareL rows s))) x8 (some d) (some (.tup ((arrL rows s).map pD))) (some (.lst ((allR rows s).map wD))) x12 x13 x14 x15 = δ at s13
  have v4 : dVar 4 δ = .ok (webD rows) δ := by rw [← hδ]; rfl
  have v9 : dVar 9 δ = .ok d δ := by rw [← hδ]; rfl
  have v18 : δ[18]? = some (some tbD) := by rw [← hδ]; rfl
  have e14 : dCall 2 fn_round_arrows (dCons (dVar 4) (dCons (dVar 9) dNil)) δ = .exn (exOf d) δ := call_exn (ds := [webD rows, d]) (cons_ok v4 (cons_ok v9 e_dNil)) rfl hO.ex
  have e15 : dLamF 18 "law.<locals>.<lambda>" fnT__law_refused (dCall 2 fn_round_arrows (dCons (dVar 4) (dCons (dVar 9) dNil))) δ = .ok (.tup [.str "round", .str (reprPy d).shown]) δ := lamF_ok v18 (by rw [e14]; exact refused_ok hO.rep) rfl
  have e16 : dAr dTupD (dCons (dC (.str "round")) (dCons (dAr reprD (dCons (dVar 9) dNil)) dNil)) δ = .ok (.tup [.str "round", .str (reprPy d).shown]) δ := ar_ok (cons_ok e_dC (cons_ok (ar_ok (cons_ok v9 e_dNil) (rep_of (shB_rep hO.rep))) e_dNil)) (dTupD_ok (by simp))
  refine ⟨δ, ?_⟩
  have hE : envG ns 18 "law.<locals>.<lambda>" = some sc :: List.replicate 17 none ++ [some tbD] := by rw [← hsc]; rfl
  rw [hE]
  unfold d_law
  refine (seq_next s1).trans ?_
  refine (seq_next s2).trans ?_
  refine (seq_next s3).trans ?_
  refine (seq_next s4).trans ?_
  refine (seq_next s5).trans ?_
  refine (seq_next s6).trans ?_
  refine (seq_next s7).trans ?_
  refine (seq_next s8).trans ?_
  refine (seq_next s9).trans ?_
  refine (seq_next (for_ok (seqI_ok e10 rfl) l10)).trans ?_
  refine (seq_next s11).trans ?_
  refine (seq_next s12).trans ?_
  refine (seq_next s13).trans ?_
  exact ret_ok (bin_ok e15 e16 (eq_txt (by decide +kernel) (shB_txt hO.rep)))

end
set_option maxHeartbeats 0
theorem all_mk {l : PySem.W.OpenLaw} {w : World} {K : PySem.W.Frag} {h : Heap} {mg : Str → Option Value} {fa C_Web C_BadWeb C_BadValue f_BadWeb_init xb_BadWeb f_BadValue_init xb_BadValue f__law_pen f__law_draw f__law_pick f_is_list f_is_whole f_is_signs f_Web_init f__law_shuffled f__law_tree_ties f__law_forest_rows f__law_web_rows f__law_few_rows f_arrows f__law_rounds f_arrows_along f_is_index f_is_round f_round_arrows f__law_refused f_rounds_from f_rounds f__law_is_bad f_is_bad f_bad_rounds f_bad_round f_never_rises f__law_arrows f__law_arrows_along f_law c_law P0 : Addr} (X : K.In h) (G : h.Ns mainGlobals mg) (hfa : mg "law" = some (.ref fa)) (M : TellsG d_law 18 "law.<locals>.<lambda>") (hT : ∀ P ∈ [P0], h.get? P = some { cls := .none, data := .fields #[] })
  {nm_BadWeb q_BadWeb : Str} {N_BadWeb : Addr} {bs_BadWeb sb_BadWeb : List Value} {sn_BadWeb : List Str} {ab_BadWeb : Bool} {co_BadWeb : Option Bool} {dd_BadWeb : Option Addr} {m0_BadWeb m1_BadWeb m2_BadWeb m3_BadWeb m5_BadWeb : Option Value}
  {od_BadWeb_init an_BadWeb_init : Option Addr} {sl_BadWeb_init : Array (Option Value)} {oc_BadWeb_init kV_BadWeb_init dc_BadWeb_init pm_BadWeb_init cd_BadWeb_init ct_BadWeb_init : Value}
  {nm_BadValue q_BadValue : Str} {N_BadValue : Addr} {bs_BadValue sb_BadValue : List Value} {sn_BadValue : List Str} {ab_BadValue : Bool} {co_BadValue : Option Bool} {dd_BadValue : Option Addr} {m0_BadValue m1_BadValue m2_BadValue m3_BadValue m5_BadValue : Option Value}
  {od_BadValue_init an_BadValue_init : Option Addr} {sl_BadValue_init : Array (Option Value)} {oc_BadValue_init kV_BadValue_init dc_BadValue_init pm_BadValue_init cd_BadValue_init ct_BadValue_init : Value}
  {od__law_pen an__law_pen : Option Addr} {sl__law_pen : Array (Option Value)} {oc__law_pen kV__law_pen dc__law_pen pm__law_pen cd__law_pen ct__law_pen : Value}
  {od__law_draw an__law_draw : Option Addr} {sl__law_draw : Array (Option Value)} {oc__law_draw kV__law_draw dc__law_draw pm__law_draw cd__law_draw ct__law_draw : Value}
  {od__law_pick an__law_pick : Option Addr} {sl__law_pick : Array (Option Value)} {oc__law_pick kV__law_pick dc__law_pick pm__law_pick cd__law_pick ct__law_pick : Value}
  {od_is_list an_is_list : Option Addr} {sl_is_list : Array (Option Value)} {oc_is_list kV_is_list dc_is_list pm_is_list cd_is_list ct_is_list : Value}
  {od_is_whole an_is_whole : Option Addr} {sl_is_whole : Array (Option Value)} {oc_is_whole kV_is_whole dc_is_whole pm_is_whole cd_is_whole ct_is_whole : Value}
  {od_is_signs an_is_signs : Option Addr} {sl_is_signs : Array (Option Value)} {oc_is_signs kV_is_signs dc_is_signs pm_is_signs cd_is_signs ct_is_signs : Value}
  {od_Web_init an_Web_init : Option Addr} {sl_Web_init : Array (Option Value)} {oc_Web_init kV_Web_init dc_Web_init pm_Web_init cd_Web_init ct_Web_init : Value}
  {od__law_shuffled an__law_shuffled : Option Addr} {sl__law_shuffled : Array (Option Value)} {oc__law_shuffled kV__law_shuffled dc__law_shuffled pm__law_shuffled cd__law_shuffled ct__law_shuffled : Value}
  {od__law_tree_ties an__law_tree_ties : Option Addr} {sl__law_tree_ties : Array (Option Value)} {oc__law_tree_ties kV__law_tree_ties dc__law_tree_ties pm__law_tree_ties cd__law_tree_ties ct__law_tree_ties : Value}
  {od__law_forest_rows an__law_forest_rows : Option Addr} {sl__law_forest_rows : Array (Option Value)} {oc__law_forest_rows kV__law_forest_rows dc__law_forest_rows pm__law_forest_rows cd__law_forest_rows ct__law_forest_rows : Value}
  {od__law_web_rows an__law_web_rows : Option Addr} {sl__law_web_rows : Array (Option Value)} {oc__law_web_rows kV__law_web_rows dc__law_web_rows pm__law_web_rows cd__law_web_rows ct__law_web_rows : Value}
  {od__law_few_rows an__law_few_rows : Option Addr} {sl__law_few_rows : Array (Option Value)} {oc__law_few_rows kV__law_few_rows dc__law_few_rows pm__law_few_rows cd__law_few_rows ct__law_few_rows : Value}
  {od_arrows an_arrows : Option Addr} {sl_arrows : Array (Option Value)} {oc_arrows kV_arrows dc_arrows pm_arrows cd_arrows ct_arrows : Value}
  {od__law_rounds an__law_rounds : Option Addr} {sl__law_rounds : Array (Option Value)} {oc__law_rounds kV__law_rounds dc__law_rounds pm__law_rounds cd__law_rounds ct__law_rounds : Value}
  {od_arrows_along an_arrows_along : Option Addr} {sl_arrows_along : Array (Option Value)} {oc_arrows_along kV_arrows_along dc_arrows_along pm_arrows_along cd_arrows_along ct_arrows_along : Value}
  {od_is_index an_is_index : Option Addr} {sl_is_index : Array (Option Value)} {oc_is_index kV_is_index dc_is_index pm_is_index cd_is_index ct_is_index : Value}
  {od_is_round an_is_round : Option Addr} {sl_is_round : Array (Option Value)} {oc_is_round kV_is_round dc_is_round pm_is_round cd_is_round ct_is_round : Value}
  {od_round_arrows an_round_arrows : Option Addr} {sl_round_arrows : Array (Option Value)} {oc_round_arrows kV_round_arrows dc_round_arrows pm_round_arrows cd_round_arrows ct_round_arrows : Value}
  {od__law_refused an__law_refused : Option Addr} {sl__law_refused : Array (Option Value)} {oc__law_refused kV__law_refused dc__law_refused pm__law_refused cd__law_refused ct__law_refused : Value}
  {od_rounds_from an_rounds_from : Option Addr} {sl_rounds_from : Array (Option Value)} {oc_rounds_from kV_rounds_from dc_rounds_from pm_rounds_from cd_rounds_from ct_rounds_from : Value}
  {od_rounds an_rounds : Option Addr} {sl_rounds : Array (Option Value)} {oc_rounds kV_rounds dc_rounds pm_rounds cd_rounds ct_rounds : Value}
  {od__law_is_bad an__law_is_bad : Option Addr} {sl__law_is_bad : Array (Option Value)} {oc__law_is_bad kV__law_is_bad dc__law_is_bad pm__law_is_bad cd__law_is_bad ct__law_is_bad : Value}
  {od_is_bad an_is_bad : Option Addr} {sl_is_bad : Array (Option Value)} {oc_is_bad kV_is_bad dc_is_bad pm_is_bad cd_is_bad ct_is_bad : Value}
  {od_bad_rounds an_bad_rounds : Option Addr} {sl_bad_rounds : Array (Option Value)} {oc_bad_rounds kV_bad_rounds dc_bad_rounds pm_bad_rounds cd_bad_rounds ct_bad_rounds : Value}
  {od_bad_round an_bad_round : Option Addr} {sl_bad_round : Array (Option Value)} {oc_bad_round kV_bad_round dc_bad_round pm_bad_round cd_bad_round ct_bad_round : Value}
  {od_never_rises an_never_rises : Option Addr} {sl_never_rises : Array (Option Value)} {oc_never_rises kV_never_rises dc_never_rises pm_never_rises cd_never_rises ct_never_rises : Value}
  {od__law_arrows an__law_arrows : Option Addr} {sl__law_arrows : Array (Option Value)} {oc__law_arrows kV__law_arrows dc__law_arrows pm__law_arrows cd__law_arrows ct__law_arrows : Value}
  {od__law_arrows_along an__law_arrows_along : Option Addr} {sl__law_arrows_along : Array (Option Value)} {oc__law_arrows_along kV__law_arrows_along dc__law_arrows_along pm__law_arrows_along cd__law_arrows_along ct__law_arrows_along : Value}
  {od_law an_law : Option Addr} {sl_law : Array (Option Value)} {oc_law kV_law dc_law pm_law  ct_law : Value}
  (aC_Web : PySem.W.nsIn K mainGlobals "Web" = some (some (.ref C_Web)))
  (pg_Web : PySem.W.plainGet K C_Web Str.empty = true)
  (hd_Web : PySem.W.hasDictIn K C_Web = true)
  (po_Web : PySem.W.plainOver K C_Web = true)
  (sa_Web : PySem.W.findIn K (.ref C_Web) "__setattr__" = some (some (.builtin "object.__setattr__")))
  (mk_Web : PySem.W.makesIn K C_Web = true)
  (kc_Web : PySem.W.keepIn K (.ref C_Web) = true)
  (aC_BadWeb : PySem.W.nsIn K mainGlobals "BadWeb" = some (some (.ref C_BadWeb)))
  (ex_BadWeb : PySem.W.subIn K (.ref C_BadWeb) (.type "BaseException") = some true)
  (ty_BadWeb : PySem.W.typeIn K (.ref C_BadWeb) = some (.type "type"))
  (aC_BadValue : PySem.W.nsIn K mainGlobals "BadValue" = some (some (.ref C_BadValue)))
  (ex_BadValue : PySem.W.subIn K (.ref C_BadValue) (.type "BaseException") = some true)
  (ty_BadValue : PySem.W.typeIn K (.ref C_BadValue) = some (.type "type"))
  (ic_BadValue : PySem.W.isClsIn K C_BadValue = true)
  (xl_BadWeb : K.lookup C_BadWeb = some (excClassObj nm_BadWeb q_BadWeb C_BadWeb N_BadWeb bs_BadWeb ([.ref xb_BadWeb, .type "ValueError", .type "Exception", .type "BaseException", .type "object"]) true sn_BadWeb sb_BadWeb ab_BadWeb co_BadWeb dd_BadWeb m0_BadWeb m1_BadWeb m2_BadWeb m3_BadWeb m5_BadWeb "ValueError.__new__"))
  (sa_BadWeb : PySem.W.findIn K (.ref C_BadWeb) "__setattr__" = some (some (.builtin "object.__setattr__")))
  (kc_BadWeb : PySem.W.keepIn K (.ref C_BadWeb) = true)
  (fi_BadWeb : PySem.W.findIn K (.ref C_BadWeb) "__init__" = some (some (.ref f_BadWeb_init)))
  (ti_BadWeb : PySem.W.typeIn K (.ref f_BadWeb_init) = some (.type "function"))
  (l_BadWeb_init : K.lookup f_BadWeb_init = some ⟨oc_BadWeb_init, od_BadWeb_init, .func (PySem.W.fnOf "__init__" "BadWeb.__init__" (defArgs s_BadWeb_init) (defBody s_BadWeb_init) (defScope s_BadWeb_init) .none kV_BadWeb_init dc_BadWeb_init pm_BadWeb_init an_BadWeb_init cd_BadWeb_init ct_BadWeb_init), sl_BadWeb_init⟩)
  (c_BadWeb_init : PySem.W.codeIn K cd_BadWeb_init "BadWeb.__init__" = true)
  (k_BadWeb_init : PySem.W.keepIn K (.ref f_BadWeb_init) = true)
  (no_BadWeb_what : PySem.W.findIn K (.ref C_BadWeb) "what" = some none)
  (no_BadWeb_value : PySem.W.findIn K (.ref C_BadWeb) "value" = some none)
  (xl_BadValue : K.lookup C_BadValue = some (excClassObj nm_BadValue q_BadValue C_BadValue N_BadValue bs_BadValue ([.ref xb_BadValue, .type "ValueError", .type "Exception", .type "BaseException", .type "object"]) true sn_BadValue sb_BadValue ab_BadValue co_BadValue dd_BadValue m0_BadValue m1_BadValue m2_BadValue m3_BadValue m5_BadValue "ValueError.__new__"))
  (sa_BadValue : PySem.W.findIn K (.ref C_BadValue) "__setattr__" = some (some (.builtin "object.__setattr__")))
  (kc_BadValue : PySem.W.keepIn K (.ref C_BadValue) = true)
  (fi_BadValue : PySem.W.findIn K (.ref C_BadValue) "__init__" = some (some (.ref f_BadValue_init)))
  (ti_BadValue : PySem.W.typeIn K (.ref f_BadValue_init) = some (.type "function"))
  (l_BadValue_init : K.lookup f_BadValue_init = some ⟨oc_BadValue_init, od_BadValue_init, .func (PySem.W.fnOf "__init__" "BadValue.__init__" (defArgs s_BadValue_init) (defBody s_BadValue_init) (defScope s_BadValue_init) .none kV_BadValue_init dc_BadValue_init pm_BadValue_init an_BadValue_init cd_BadValue_init ct_BadValue_init), sl_BadValue_init⟩)
  (c_BadValue_init : PySem.W.codeIn K cd_BadValue_init "BadValue.__init__" = true)
  (k_BadValue_init : PySem.W.keepIn K (.ref f_BadValue_init) = true)
  (no_BadValue_what : PySem.W.findIn K (.ref C_BadValue) "what" = some none)
  (no_BadValue_value : PySem.W.findIn K (.ref C_BadValue) "value" = some none)
  (ga_BadWeb : PySem.W.findIn K (.ref C_BadWeb) "__getattribute__" = some (some (.builtin "BaseException.__getattribute__")))
  (gg_BadWeb : PySem.W.findIn K (.ref C_BadWeb) "__getattr__" = some none)
  (hd_BadWeb : PySem.W.hasDictIn K C_BadWeb = true)
  (ga_BadValue : PySem.W.findIn K (.ref C_BadValue) "__getattribute__" = some (some (.builtin "BaseException.__getattribute__")))
  (gg_BadValue : PySem.W.findIn K (.ref C_BadValue) "__getattr__" = some none)
  (hd_BadValue : PySem.W.hasDictIn K C_BadValue = true)
  (su_BadWeb_BadValue : PySem.W.subIn K (.ref C_BadWeb) (.ref C_BadValue) = some false)
  (su_BadValue_BadValue : PySem.W.subIn K (.ref C_BadValue) (.ref C_BadValue) = some true)
  (a__law_pen : PySem.W.nsIn K mainGlobals "_law_pen" = some (some (.ref f__law_pen)))
  (l__law_pen : K.lookup f__law_pen = some ⟨oc__law_pen, od__law_pen, .func (PySem.W.fnOf "_law_pen" "_law_pen" (defArgs s__law_pen) (defBody s__law_pen) (defScope s__law_pen) .none kV__law_pen dc__law_pen pm__law_pen an__law_pen cd__law_pen ct__law_pen), sl__law_pen⟩)
  (c__law_pen : PySem.W.codeIn K cd__law_pen "_law_pen" = true)
  (k__law_pen : PySem.W.keepIn K (.ref f__law_pen) = true)
  (a__law_draw : PySem.W.nsIn K mainGlobals "_law_draw" = some (some (.ref f__law_draw)))
  (l__law_draw : K.lookup f__law_draw = some ⟨oc__law_draw, od__law_draw, .func (PySem.W.fnOf "_law_draw" "_law_draw" (defArgs s__law_draw) (defBody s__law_draw) (defScope s__law_draw) .none kV__law_draw dc__law_draw pm__law_draw an__law_draw cd__law_draw ct__law_draw), sl__law_draw⟩)
  (c__law_draw : PySem.W.codeIn K cd__law_draw "_law_draw" = true)
  (k__law_draw : PySem.W.keepIn K (.ref f__law_draw) = true)
  (a__law_pick : PySem.W.nsIn K mainGlobals "_law_pick" = some (some (.ref f__law_pick)))
  (l__law_pick : K.lookup f__law_pick = some ⟨oc__law_pick, od__law_pick, .func (PySem.W.fnOf "_law_pick" "_law_pick" (defArgs s__law_pick) (defBody s__law_pick) (defScope s__law_pick) .none kV__law_pick dc__law_pick pm__law_pick an__law_pick cd__law_pick ct__law_pick), sl__law_pick⟩)
  (c__law_pick : PySem.W.codeIn K cd__law_pick "_law_pick" = true)
  (k__law_pick : PySem.W.keepIn K (.ref f__law_pick) = true)
  (a_is_list : PySem.W.nsIn K mainGlobals "is_list" = some (some (.ref f_is_list)))
  (l_is_list : K.lookup f_is_list = some ⟨oc_is_list, od_is_list, .func (PySem.W.fnOf "is_list" "is_list" (defArgs s_is_list) (defBody s_is_list) (defScope s_is_list) .none kV_is_list dc_is_list pm_is_list an_is_list cd_is_list ct_is_list), sl_is_list⟩)
  (c_is_list : PySem.W.codeIn K cd_is_list "is_list" = true)
  (k_is_list : PySem.W.keepIn K (.ref f_is_list) = true)
  (a_is_whole : PySem.W.nsIn K mainGlobals "is_whole" = some (some (.ref f_is_whole)))
  (l_is_whole : K.lookup f_is_whole = some ⟨oc_is_whole, od_is_whole, .func (PySem.W.fnOf "is_whole" "is_whole" (defArgs s_is_whole) (defBody s_is_whole) (defScope s_is_whole) .none kV_is_whole dc_is_whole pm_is_whole an_is_whole cd_is_whole ct_is_whole), sl_is_whole⟩)
  (c_is_whole : PySem.W.codeIn K cd_is_whole "is_whole" = true)
  (k_is_whole : PySem.W.keepIn K (.ref f_is_whole) = true)
  (a_is_signs : PySem.W.nsIn K mainGlobals "is_signs" = some (some (.ref f_is_signs)))
  (l_is_signs : K.lookup f_is_signs = some ⟨oc_is_signs, od_is_signs, .func (PySem.W.fnOf "is_signs" "is_signs" (defArgs s_is_signs) (defBody s_is_signs) (defScope s_is_signs) .none kV_is_signs dc_is_signs pm_is_signs an_is_signs cd_is_signs ct_is_signs), sl_is_signs⟩)
  (c_is_signs : PySem.W.codeIn K cd_is_signs "is_signs" = true)
  (k_is_signs : PySem.W.keepIn K (.ref f_is_signs) = true)
  (a_Web_init : PySem.W.findIn K (.ref C_Web) "__init__" = some (some (.ref f_Web_init)))
  (i_Web_init : PySem.W.isFn K (.ref f_Web_init) = true)
  (l_Web_init : K.lookup f_Web_init = some ⟨oc_Web_init, od_Web_init, .func (PySem.W.fnOf "__init__" "Web.__init__" (defArgs s_Web_init) (defBody s_Web_init) (defScope s_Web_init) .none kV_Web_init dc_Web_init pm_Web_init an_Web_init cd_Web_init ct_Web_init), sl_Web_init⟩)
  (c_Web_init : PySem.W.codeIn K cd_Web_init "Web.__init__" = true)
  (k_Web_init : PySem.W.keepIn K (.ref f_Web_init) = true)
  (a__law_shuffled : PySem.W.nsIn K mainGlobals "_law_shuffled" = some (some (.ref f__law_shuffled)))
  (l__law_shuffled : K.lookup f__law_shuffled = some ⟨oc__law_shuffled, od__law_shuffled, .func (PySem.W.fnOf "_law_shuffled" "_law_shuffled" (defArgs s__law_shuffled) (defBody s__law_shuffled) (defScope s__law_shuffled) .none kV__law_shuffled dc__law_shuffled pm__law_shuffled an__law_shuffled cd__law_shuffled ct__law_shuffled), sl__law_shuffled⟩)
  (c__law_shuffled : PySem.W.codeIn K cd__law_shuffled "_law_shuffled" = true)
  (k__law_shuffled : PySem.W.keepIn K (.ref f__law_shuffled) = true)
  (a__law_tree_ties : PySem.W.nsIn K mainGlobals "_law_tree_ties" = some (some (.ref f__law_tree_ties)))
  (l__law_tree_ties : K.lookup f__law_tree_ties = some ⟨oc__law_tree_ties, od__law_tree_ties, .func (PySem.W.fnOf "_law_tree_ties" "_law_tree_ties" (defArgs s__law_tree_ties) (defBody s__law_tree_ties) (defScope s__law_tree_ties) .none kV__law_tree_ties dc__law_tree_ties pm__law_tree_ties an__law_tree_ties cd__law_tree_ties ct__law_tree_ties), sl__law_tree_ties⟩)
  (c__law_tree_ties : PySem.W.codeIn K cd__law_tree_ties "_law_tree_ties" = true)
  (k__law_tree_ties : PySem.W.keepIn K (.ref f__law_tree_ties) = true)
  (a__law_forest_rows : PySem.W.nsIn K mainGlobals "_law_forest_rows" = some (some (.ref f__law_forest_rows)))
  (l__law_forest_rows : K.lookup f__law_forest_rows = some ⟨oc__law_forest_rows, od__law_forest_rows, .func (PySem.W.fnOf "_law_forest_rows" "_law_forest_rows" (defArgs s__law_forest_rows) (defBody s__law_forest_rows) (defScope s__law_forest_rows) .none kV__law_forest_rows dc__law_forest_rows pm__law_forest_rows an__law_forest_rows cd__law_forest_rows ct__law_forest_rows), sl__law_forest_rows⟩)
  (c__law_forest_rows : PySem.W.codeIn K cd__law_forest_rows "_law_forest_rows" = true)
  (k__law_forest_rows : PySem.W.keepIn K (.ref f__law_forest_rows) = true)
  (a__law_web_rows : PySem.W.nsIn K mainGlobals "_law_web_rows" = some (some (.ref f__law_web_rows)))
  (l__law_web_rows : K.lookup f__law_web_rows = some ⟨oc__law_web_rows, od__law_web_rows, .func (PySem.W.fnOf "_law_web_rows" "_law_web_rows" (defArgs s__law_web_rows) (defBody s__law_web_rows) (defScope s__law_web_rows) .none kV__law_web_rows dc__law_web_rows pm__law_web_rows an__law_web_rows cd__law_web_rows ct__law_web_rows), sl__law_web_rows⟩)
  (c__law_web_rows : PySem.W.codeIn K cd__law_web_rows "_law_web_rows" = true)
  (k__law_web_rows : PySem.W.keepIn K (.ref f__law_web_rows) = true)
  (a__law_few_rows : PySem.W.nsIn K mainGlobals "_law_few_rows" = some (some (.ref f__law_few_rows)))
  (l__law_few_rows : K.lookup f__law_few_rows = some ⟨oc__law_few_rows, od__law_few_rows, .func (PySem.W.fnOf "_law_few_rows" "_law_few_rows" (defArgs s__law_few_rows) (defBody s__law_few_rows) (defScope s__law_few_rows) .none kV__law_few_rows dc__law_few_rows pm__law_few_rows an__law_few_rows cd__law_few_rows ct__law_few_rows), sl__law_few_rows⟩)
  (c__law_few_rows : PySem.W.codeIn K cd__law_few_rows "_law_few_rows" = true)
  (k__law_few_rows : PySem.W.keepIn K (.ref f__law_few_rows) = true)
  (a_arrows : PySem.W.nsIn K mainGlobals "arrows" = some (some (.ref f_arrows)))
  (l_arrows : K.lookup f_arrows = some ⟨oc_arrows, od_arrows, .func (PySem.W.fnOf "arrows" "arrows" (defArgs s_arrows) (defBody s_arrows) (defScope s_arrows) .none kV_arrows dc_arrows pm_arrows an_arrows cd_arrows ct_arrows), sl_arrows⟩)
  (c_arrows : PySem.W.codeIn K cd_arrows "arrows" = true)
  (k_arrows : PySem.W.keepIn K (.ref f_arrows) = true)
  (a__law_rounds : PySem.W.nsIn K mainGlobals "_law_rounds" = some (some (.ref f__law_rounds)))
  (l__law_rounds : K.lookup f__law_rounds = some ⟨oc__law_rounds, od__law_rounds, .func (PySem.W.fnOf "_law_rounds" "_law_rounds" (defArgs s__law_rounds) (defBody s__law_rounds) (defScope s__law_rounds) .none kV__law_rounds dc__law_rounds pm__law_rounds an__law_rounds cd__law_rounds ct__law_rounds), sl__law_rounds⟩)
  (c__law_rounds : PySem.W.codeIn K cd__law_rounds "_law_rounds" = true)
  (k__law_rounds : PySem.W.keepIn K (.ref f__law_rounds) = true)
  (a_arrows_along : PySem.W.nsIn K mainGlobals "arrows_along" = some (some (.ref f_arrows_along)))
  (l_arrows_along : K.lookup f_arrows_along = some ⟨oc_arrows_along, od_arrows_along, .func (PySem.W.fnOf "arrows_along" "arrows_along" (defArgs s_arrows_along) (defBody s_arrows_along) (defScope s_arrows_along) .none kV_arrows_along dc_arrows_along pm_arrows_along an_arrows_along cd_arrows_along ct_arrows_along), sl_arrows_along⟩)
  (c_arrows_along : PySem.W.codeIn K cd_arrows_along "arrows_along" = true)
  (k_arrows_along : PySem.W.keepIn K (.ref f_arrows_along) = true)
  (a_is_index : PySem.W.nsIn K mainGlobals "is_index" = some (some (.ref f_is_index)))
  (l_is_index : K.lookup f_is_index = some ⟨oc_is_index, od_is_index, .func (PySem.W.fnOf "is_index" "is_index" (defArgs s_is_index) (defBody s_is_index) (defScope s_is_index) .none kV_is_index dc_is_index pm_is_index an_is_index cd_is_index ct_is_index), sl_is_index⟩)
  (c_is_index : PySem.W.codeIn K cd_is_index "is_index" = true)
  (k_is_index : PySem.W.keepIn K (.ref f_is_index) = true)
  (a_is_round : PySem.W.nsIn K mainGlobals "is_round" = some (some (.ref f_is_round)))
  (l_is_round : K.lookup f_is_round = some ⟨oc_is_round, od_is_round, .func (PySem.W.fnOf "is_round" "is_round" (defArgs s_is_round) (defBody s_is_round) (defScope s_is_round) .none kV_is_round dc_is_round pm_is_round an_is_round cd_is_round ct_is_round), sl_is_round⟩)
  (c_is_round : PySem.W.codeIn K cd_is_round "is_round" = true)
  (k_is_round : PySem.W.keepIn K (.ref f_is_round) = true)
  (a_round_arrows : PySem.W.nsIn K mainGlobals "round_arrows" = some (some (.ref f_round_arrows)))
  (l_round_arrows : K.lookup f_round_arrows = some ⟨oc_round_arrows, od_round_arrows, .func (PySem.W.fnOf "round_arrows" "round_arrows" (defArgs s_round_arrows) (defBody s_round_arrows) (defScope s_round_arrows) .none kV_round_arrows dc_round_arrows pm_round_arrows an_round_arrows cd_round_arrows ct_round_arrows), sl_round_arrows⟩)
  (c_round_arrows : PySem.W.codeIn K cd_round_arrows "round_arrows" = true)
  (k_round_arrows : PySem.W.keepIn K (.ref f_round_arrows) = true)
  (a__law_refused : PySem.W.nsIn K mainGlobals "_law_refused" = some (some (.ref f__law_refused)))
  (l__law_refused : K.lookup f__law_refused = some ⟨oc__law_refused, od__law_refused, .func (PySem.W.fnOf "_law_refused" "_law_refused" (defArgs s__law_refused) (defBody s__law_refused) (defScope s__law_refused) .none kV__law_refused dc__law_refused pm__law_refused an__law_refused cd__law_refused ct__law_refused), sl__law_refused⟩)
  (c__law_refused : PySem.W.codeIn K cd__law_refused "_law_refused" = true)
  (k__law_refused : PySem.W.keepIn K (.ref f__law_refused) = true)
  (a_rounds_from : PySem.W.nsIn K mainGlobals "rounds_from" = some (some (.ref f_rounds_from)))
  (l_rounds_from : K.lookup f_rounds_from = some ⟨oc_rounds_from, od_rounds_from, .func (PySem.W.fnOf "rounds_from" "rounds_from" (defArgs s_rounds_from) (defBody s_rounds_from) (defScope s_rounds_from) .none kV_rounds_from dc_rounds_from pm_rounds_from an_rounds_from cd_rounds_from ct_rounds_from), sl_rounds_from⟩)
  (c_rounds_from : PySem.W.codeIn K cd_rounds_from "rounds_from" = true)
  (k_rounds_from : PySem.W.keepIn K (.ref f_rounds_from) = true)
  (a_rounds : PySem.W.nsIn K mainGlobals "rounds" = some (some (.ref f_rounds)))
  (l_rounds : K.lookup f_rounds = some ⟨oc_rounds, od_rounds, .func (PySem.W.fnOf "rounds" "rounds" (defArgs s_rounds) (defBody s_rounds) (defScope s_rounds) .none kV_rounds dc_rounds pm_rounds an_rounds cd_rounds ct_rounds), sl_rounds⟩)
  (c_rounds : PySem.W.codeIn K cd_rounds "rounds" = true)
  (k_rounds : PySem.W.keepIn K (.ref f_rounds) = true)
  (a__law_is_bad : PySem.W.nsIn K mainGlobals "_law_is_bad" = some (some (.ref f__law_is_bad)))
  (l__law_is_bad : K.lookup f__law_is_bad = some ⟨oc__law_is_bad, od__law_is_bad, .func (PySem.W.fnOf "_law_is_bad" "_law_is_bad" (defArgs s__law_is_bad) (defBody s__law_is_bad) (defScope s__law_is_bad) .none kV__law_is_bad dc__law_is_bad pm__law_is_bad an__law_is_bad cd__law_is_bad ct__law_is_bad), sl__law_is_bad⟩)
  (c__law_is_bad : PySem.W.codeIn K cd__law_is_bad "_law_is_bad" = true)
  (k__law_is_bad : PySem.W.keepIn K (.ref f__law_is_bad) = true)
  (a_is_bad : PySem.W.nsIn K mainGlobals "is_bad" = some (some (.ref f_is_bad)))
  (l_is_bad : K.lookup f_is_bad = some ⟨oc_is_bad, od_is_bad, .func (PySem.W.fnOf "is_bad" "is_bad" (defArgs s_is_bad) (defBody s_is_bad) (defScope s_is_bad) .none kV_is_bad dc_is_bad pm_is_bad an_is_bad cd_is_bad ct_is_bad), sl_is_bad⟩)
  (c_is_bad : PySem.W.codeIn K cd_is_bad "is_bad" = true)
  (k_is_bad : PySem.W.keepIn K (.ref f_is_bad) = true)
  (a_bad_rounds : PySem.W.nsIn K mainGlobals "bad_rounds" = some (some (.ref f_bad_rounds)))
  (l_bad_rounds : K.lookup f_bad_rounds = some ⟨oc_bad_rounds, od_bad_rounds, .func (PySem.W.fnOf "bad_rounds" "bad_rounds" (defArgs s_bad_rounds) (defBody s_bad_rounds) (defScope s_bad_rounds) .none kV_bad_rounds dc_bad_rounds pm_bad_rounds an_bad_rounds cd_bad_rounds ct_bad_rounds), sl_bad_rounds⟩)
  (c_bad_rounds : PySem.W.codeIn K cd_bad_rounds "bad_rounds" = true)
  (k_bad_rounds : PySem.W.keepIn K (.ref f_bad_rounds) = true)
  (a_bad_round : PySem.W.nsIn K mainGlobals "bad_round" = some (some (.ref f_bad_round)))
  (l_bad_round : K.lookup f_bad_round = some ⟨oc_bad_round, od_bad_round, .func (PySem.W.fnOf "bad_round" "bad_round" (defArgs s_bad_round) (defBody s_bad_round) (defScope s_bad_round) .none kV_bad_round dc_bad_round pm_bad_round an_bad_round cd_bad_round ct_bad_round), sl_bad_round⟩)
  (c_bad_round : PySem.W.codeIn K cd_bad_round "bad_round" = true)
  (k_bad_round : PySem.W.keepIn K (.ref f_bad_round) = true)
  (a_never_rises : PySem.W.nsIn K mainGlobals "never_rises" = some (some (.ref f_never_rises)))
  (l_never_rises : K.lookup f_never_rises = some ⟨oc_never_rises, od_never_rises, .func (PySem.W.fnOf "never_rises" "never_rises" (defArgs s_never_rises) (defBody s_never_rises) (defScope s_never_rises) .none kV_never_rises dc_never_rises pm_never_rises an_never_rises cd_never_rises ct_never_rises), sl_never_rises⟩)
  (c_never_rises : PySem.W.codeIn K cd_never_rises "never_rises" = true)
  (k_never_rises : PySem.W.keepIn K (.ref f_never_rises) = true)
  (a__law_arrows : PySem.W.nsIn K mainGlobals "_law_arrows" = some (some (.ref f__law_arrows)))
  (l__law_arrows : K.lookup f__law_arrows = some ⟨oc__law_arrows, od__law_arrows, .func (PySem.W.fnOf "_law_arrows" "_law_arrows" (defArgs s__law_arrows) (defBody s__law_arrows) (defScope s__law_arrows) .none kV__law_arrows dc__law_arrows pm__law_arrows an__law_arrows cd__law_arrows ct__law_arrows), sl__law_arrows⟩)
  (c__law_arrows : PySem.W.codeIn K cd__law_arrows "_law_arrows" = true)
  (k__law_arrows : PySem.W.keepIn K (.ref f__law_arrows) = true)
  (a__law_arrows_along : PySem.W.nsIn K mainGlobals "_law_arrows_along" = some (some (.ref f__law_arrows_along)))
  (l__law_arrows_along : K.lookup f__law_arrows_along = some ⟨oc__law_arrows_along, od__law_arrows_along, .func (PySem.W.fnOf "_law_arrows_along" "_law_arrows_along" (defArgs s__law_arrows_along) (defBody s__law_arrows_along) (defScope s__law_arrows_along) .none kV__law_arrows_along dc__law_arrows_along pm__law_arrows_along an__law_arrows_along cd__law_arrows_along ct__law_arrows_along), sl__law_arrows_along⟩)
  (c__law_arrows_along : PySem.W.codeIn K cd__law_arrows_along "_law_arrows_along" = true)
  (k__law_arrows_along : PySem.W.keepIn K (.ref f__law_arrows_along) = true)
  (a_law : PySem.W.nsIn K mainGlobals "law" = some (some (.ref f_law)))
  (l_law : K.lookup f_law = some ⟨oc_law, od_law, .func (PySem.W.fnOf "law" "law" (defArgs s_law) (defBody s_law) (defScope s_law) .none kV_law dc_law pm_law an_law (.ref c_law) ct_law), sl_law⟩)
  (cc_law : PySem.W.codeIn K (.ref c_law) "law" = true)
  (k_law : PySem.W.keepIn K (.ref f_law) = true)
  (nT : K.lookup P0 = none)
  (cT : PySem.W.codeHdIn K c_law P0 = true)
  (zn_int : PySem.W.nsIn K mainGlobals "int" = some none)
  (zn_list : PySem.W.nsIn K mainGlobals "list" = some none)
  (zn_len : PySem.W.nsIn K mainGlobals "len" = some none)
  (zn_tuple : PySem.W.nsIn K mainGlobals "tuple" = some none)
  (zn_isinstance : PySem.W.nsIn K mainGlobals "isinstance" = some none)
  (zn_bool : PySem.W.nsIn K mainGlobals "bool" = some none)
  (zn_all : PySem.W.nsIn K mainGlobals "all" = some none)
  (na_Web_rows : PySem.W.findIn K (.ref C_Web) "rows" = some none)
  (na_Web_size : PySem.W.findIn K (.ref C_Web) "size" = some none)
  (zn_range : PySem.W.nsIn K mainGlobals "range" = some none)
  (zn_max : PySem.W.nsIn K mainGlobals "max" = some none)
  (zn_sorted : PySem.W.nsIn K mainGlobals "sorted" = some none)
  (zn_repr : PySem.W.nsIn K mainGlobals "repr" = some none) :
    ∃ T : List (Addr × Addr), (∀ p ∈ T, h.get? p.2 = some { cls := .none, data := .fields #[] }) ∧ (∀ p ∈ T, K.lookup p.2 = none) ∧ (∀ p ∈ T, PySem.W.CodeHd h p.1 p.2) ∧ CallG l.prog w K mg fa T 63 := by
  have e := hfa.symm.trans (PySem.W.mg_of X G a_law)
  cases e
  have F_BadWeb_init := fun_mk (st := s_BadWeb_init) l_BadWeb_init c_BadWeb_init k_BadWeb_init
  have b_BadWeb_init := F_BadWeb_init.binds (ps := ["self", "what", "value"]) fun _ _ _ _ _ _ us hl => match us, hl with | [_, _, _], _ => rfl
  have F_BadValue_init := fun_mk (st := s_BadValue_init) l_BadValue_init c_BadValue_init k_BadValue_init
  have b_BadValue_init := F_BadValue_init.binds (ps := ["self", "what", "value"]) fun _ _ _ _ _ _ us hl => match us, hl with | [_, _, _], _ => rfl
  have F__law_pen := fun_mk (st := s__law_pen) l__law_pen c__law_pen k__law_pen
  have b__law_pen := F__law_pen.binds (ps := ["script"]) fun _ _ _ _ _ _ us hl => match us, hl with | [_], _ => rfl
  have F__law_draw := fun_mk (st := s__law_draw) l__law_draw c__law_draw k__law_draw
  have b__law_draw := F__law_draw.binds (ps := ["pen", "many"]) fun _ _ _ _ _ _ us hl => match us, hl with | [_, _], _ => rfl
  have F__law_pick := fun_mk (st := s__law_pick) l__law_pick c__law_pick k__law_pick
  have b__law_pick := F__law_pick.binds (ps := ["pen", "some"]) fun _ _ _ _ _ _ us hl => match us, hl with | [_, _], _ => rfl
  have F_is_list := fun_mk (st := s_is_list) l_is_list c_is_list k_is_list
  have b_is_list := F_is_list.binds (ps := ["value"]) fun _ _ _ _ _ _ us hl => match us, hl with | [_], _ => rfl
  have F_is_whole := fun_mk (st := s_is_whole) l_is_whole c_is_whole k_is_whole
  have b_is_whole := F_is_whole.binds (ps := ["value"]) fun _ _ _ _ _ _ us hl => match us, hl with | [_], _ => rfl
  have F_is_signs := fun_mk (st := s_is_signs) l_is_signs c_is_signs k_is_signs
  have b_is_signs := F_is_signs.binds (ps := ["value"]) fun _ _ _ _ _ _ us hl => match us, hl with | [_], _ => rfl
  have F_Web_init := fun_mk (st := s_Web_init) l_Web_init c_Web_init k_Web_init
  have b_Web_init := F_Web_init.binds (ps := ["self", "rows"]) fun _ _ _ _ _ _ us hl => match us, hl with | [_, _], _ => rfl
  have F__law_shuffled := fun_mk (st := s__law_shuffled) l__law_shuffled c__law_shuffled k__law_shuffled
  have b__law_shuffled := F__law_shuffled.binds (ps := ["pen", "some"]) fun _ _ _ _ _ _ us hl => match us, hl with | [_, _], _ => rfl
  have F__law_tree_ties := fun_mk (st := s__law_tree_ties) l__law_tree_ties c__law_tree_ties k__law_tree_ties
  have b__law_tree_ties := F__law_tree_ties.binds (ps := ["pen", "size"]) fun _ _ _ _ _ _ us hl => match us, hl with | [_, _], _ => rfl
  have F__law_forest_rows := fun_mk (st := s__law_forest_rows) l__law_forest_rows c__law_forest_rows k__law_forest_rows
  have b__law_forest_rows := F__law_forest_rows.binds (ps := ["pen", "size"]) fun _ _ _ _ _ _ us hl => match us, hl with | [_, _], _ => rfl
  have F__law_web_rows := fun_mk (st := s__law_web_rows) l__law_web_rows c__law_web_rows k__law_web_rows
  have b__law_web_rows := F__law_web_rows.binds (ps := ["pen", "size"]) fun _ _ _ _ _ _ us hl => match us, hl with | [_, _], _ => rfl
  have F__law_few_rows := fun_mk (st := s__law_few_rows) l__law_few_rows c__law_few_rows k__law_few_rows
  have b__law_few_rows := F__law_few_rows.binds (ps := ["pen", "size", "most"]) fun _ _ _ _ _ _ us hl => match us, hl with | [_, _, _], _ => rfl
  have F_arrows := fun_mk (st := s_arrows) l_arrows c_arrows k_arrows
  have b_arrows := F_arrows.binds (ps := ["web"]) fun _ _ _ _ _ _ us hl => match us, hl with | [_], _ => rfl
  have F__law_rounds := fun_mk (st := s__law_rounds) l__law_rounds c__law_rounds k__law_rounds
  have b__law_rounds := F__law_rounds.binds (ps := ["rows"]) fun _ _ _ _ _ _ us hl => match us, hl with | [_], _ => rfl
  have F_arrows_along := fun_mk (st := s_arrows_along) l_arrows_along c_arrows_along k_arrows_along
  have b_arrows_along := F_arrows_along.binds (ps := ["ring"]) fun _ _ _ _ _ _ us hl => match us, hl with | [_], _ => rfl
  have F_is_index := fun_mk (st := s_is_index) l_is_index c_is_index k_is_index
  have b_is_index := F_is_index.binds (ps := ["many", "value"]) fun _ _ _ _ _ _ us hl => match us, hl with | [_, _], _ => rfl
  have F_is_round := fun_mk (st := s_is_round) l_is_round c_is_round k_is_round
  have b_is_round := F_is_round.binds (ps := ["web", "value"]) fun _ _ _ _ _ _ us hl => match us, hl with | [_, _], _ => rfl
  have F_round_arrows := fun_mk (st := s_round_arrows) l_round_arrows c_round_arrows k_round_arrows
  have b_round_arrows := F_round_arrows.binds (ps := ["web", "value"]) fun _ _ _ _ _ _ us hl => match us, hl with | [_, _], _ => rfl
  have F__law_refused := fun_mk (st := s__law_refused) l__law_refused c__law_refused k__law_refused
  have b__law_refused := F__law_refused.binds (ps := ["work"]) fun _ _ _ _ _ _ us hl => match us, hl with | [_], _ => rfl
  have F_rounds_from := fun_mk (st := s_rounds_from) l_rounds_from c_rounds_from k_rounds_from
  have b_rounds_from := F_rounds_from.binds (ps := ["web", "start", "length"]) fun _ _ _ _ _ _ us hl => match us, hl with | [_, _, _], _ => rfl
  have F_rounds := fun_mk (st := s_rounds) l_rounds c_rounds k_rounds
  have b_rounds := F_rounds.binds (ps := ["web"]) fun _ _ _ _ _ _ us hl => match us, hl with | [_], _ => rfl
  have F__law_is_bad := fun_mk (st := s__law_is_bad) l__law_is_bad c__law_is_bad k__law_is_bad
  have b__law_is_bad := F__law_is_bad.binds (ps := ["rows", "found"]) fun _ _ _ _ _ _ us hl => match us, hl with | [_, _], _ => rfl
  have F_is_bad := fun_mk (st := s_is_bad) l_is_bad c_is_bad k_is_bad
  have b_is_bad := F_is_bad.binds (ps := ["web", "found"]) fun _ _ _ _ _ _ us hl => match us, hl with | [_, _], _ => rfl
  have F_bad_rounds := fun_mk (st := s_bad_rounds) l_bad_rounds c_bad_rounds k_bad_rounds
  have b_bad_rounds := F_bad_rounds.binds (ps := ["web"]) fun _ _ _ _ _ _ us hl => match us, hl with | [_], _ => rfl
  have F_bad_round := fun_mk (st := s_bad_round) l_bad_round c_bad_round k_bad_round
  have b_bad_round := F_bad_round.binds (ps := ["web"]) fun _ _ _ _ _ _ us hl => match us, hl with | [_], _ => rfl
  have F_never_rises := fun_mk (st := s_never_rises) l_never_rises c_never_rises k_never_rises
  have b_never_rises := F_never_rises.binds (ps := ["web"]) fun _ _ _ _ _ _ us hl => match us, hl with | [_], _ => rfl
  have F__law_arrows := fun_mk (st := s__law_arrows) l__law_arrows c__law_arrows k__law_arrows
  have b__law_arrows := F__law_arrows.binds (ps := ["rows"]) fun _ _ _ _ _ _ us hl => match us, hl with | [_], _ => rfl
  have F__law_arrows_along := fun_mk (st := s__law_arrows_along) l__law_arrows_along c__law_arrows_along k__law_arrows_along
  have b__law_arrows_along := F__law_arrows_along.binds (ps := ["ring"]) fun _ _ _ _ _ _ us hl => match us, hl with | [_], _ => rfl
  have F_law := fun_mk (st := s_law) l_law cc_law k_law
  have b_law := F_law.binds (ps := ["script"]) fun _ _ _ _ _ _ us hl => match us, hl with | [_], _ => rfl
  have m_BadWeb := PySem.W.mg_of X G aC_BadWeb
  have m_BadValue := PySem.W.mg_of X G aC_BadValue
  have m_Web := PySem.W.mg_of X G aC_Web
  have cl_Web : Cls K C_Web := ⟨pg_Web, hd_Web, po_Web, sa_Web⟩
  have T : Txt K mg := ⟨PySem.W.mg_none_of X G zn_int, PySem.W.mg_none_of X G zn_list, PySem.W.mg_none_of X G zn_len, PySem.W.mg_none_of X G zn_tuple, PySem.W.mg_none_of X G zn_isinstance, PySem.W.mg_none_of X G zn_bool, PySem.W.mg_none_of X G zn_all, (fun c h => (List.mem_singleton.mp h) ▸ clsF_of m_Web cl_Web na_Web_rows), (fun c h => (List.mem_singleton.mp h) ▸ clsF_of m_Web cl_Web na_Web_size), PySem.W.mg_none_of X G zn_range, PySem.W.mg_none_of X G zn_max, PySem.W.mg_none_of X G zn_sorted, ⟨_, m_BadValue, (SubT.cons m_BadWeb rfl (exm_pair ex_BadValue ic_BadValue ty_BadValue su_BadWeb_BadValue) (SubT.cons m_BadValue rfl (exm_pair ex_BadValue ic_BadValue ty_BadValue su_BadValue_BadValue) SubT.nil))⟩, (XFld.cons m_BadWeb ⟨ga_BadWeb, gg_BadWeb, ex_BadWeb, hd_BadWeb⟩ no_BadWeb_what (XFld.cons m_BadValue ⟨ga_BadValue, gg_BadValue, ex_BadValue, hd_BadValue⟩ no_BadValue_what XFld.nil)), (XFld.cons m_BadWeb ⟨ga_BadWeb, gg_BadWeb, ex_BadWeb, hd_BadWeb⟩ no_BadWeb_value (XFld.cons m_BadValue ⟨ga_BadValue, gg_BadValue, ex_BadValue, hd_BadValue⟩ no_BadValue_value XFld.nil)), PySem.W.mg_none_of X G zn_repr⟩
  refine ⟨[(c_law, P0)], fun p hp => by cases List.mem_singleton.mp hp; exact hT _ (List.mem_singleton.mpr rfl), fun p hp => by cases List.mem_singleton.mp hp; exact nT, fun p hp => by cases List.mem_singleton.mp hp; exact PySem.W.codeHd_of_K X cT, ?_⟩
  refine callG_law (kdE := [.sh, .sh, .sh, .sh, .sh, .sh, .sh, .sh, .sh, .sh, .sh, .sh, .sh, .sh, .sh, .sh, .sh, .sh, (.pin P0 .sh)]) (N := ["script", "pen", "size", "rows", "web", "bad", "ring", "bare", "i", "odd", "told", "found", "at", "given", "asked", "got", "j", "arrow", "<tab>"]) (y := "<tab>") l_law cc_law sc_law b_law rfl (by decide) rfl (hid_by (by decide +kernel)) (lvl := 7) ⟨rfl, by decide, by decide⟩ M fun base s H E TB hr hgd => ?_
  have w_exc_BadWeb : VXc l.prog w K mg base "BadWeb" ["what", "value"] := v_exc_BadWeb F_BadWeb_init b_BadWeb_init m_BadWeb ⟨⟨_, _, _, _, _, _, _, _, _, _, _, _, _, _, _, xl_BadWeb, rfl⟩, sa_BadWeb, ex_BadWeb, ty_BadWeb, kc_BadWeb⟩ fi_BadWeb ti_BadWeb (fun p h => by
      simp only [List.mem_cons, List.not_mem_nil, or_false] at h
      rcases h with rfl | rfl
      · exact no_BadWeb_what
      · exact no_BadWeb_value)
  have w_exc_BadValue : VXc l.prog w K mg base "BadValue" ["what", "value"] := v_exc_BadValue F_BadValue_init b_BadValue_init m_BadValue ⟨⟨_, _, _, _, _, _, _, _, _, _, _, _, _, _, _, xl_BadValue, rfl⟩, sa_BadValue, ex_BadValue, ty_BadValue, kc_BadValue⟩ fi_BadValue ti_BadValue (fun p h => by
      simp only [List.mem_cons, List.not_mem_nil, or_false] at h
      rcases h with rfl | rfl
      · exact no_BadValue_what
      · exact no_BadValue_value)
  have w__law_pen := (v__law_pen (P := l.prog) (w := w) (base := base) F__law_pen b__law_pen T ).named (PySem.W.mg_of X G a__law_pen)
  have w__law_draw := (v__law_draw (P := l.prog) (w := w) (base := base) F__law_draw b__law_draw T ).named (PySem.W.mg_of X G a__law_draw)
  have w__law_pick := (v__law_pick (P := l.prog) (w := w) (base := base) F__law_pick b__law_pick T w__law_draw).named (PySem.W.mg_of X G a__law_pick)
  have w_is_list := (v_is_list (P := l.prog) (w := w) (base := base) F_is_list b_is_list T ).named (PySem.W.mg_of X G a_is_list)
  have w_is_whole := (v_is_whole (P := l.prog) (w := w) (base := base) F_is_whole b_is_whole T ).named (PySem.W.mg_of X G a_is_whole)
  have w_is_signs := (v_is_signs (P := l.prog) (w := w) (base := base) F_is_signs b_is_signs T w_is_list w_is_whole).named (PySem.W.mg_of X G a_is_signs)
  have w_Web_init : VCl l.prog w K mg base 3 "Web" 1 fn_Web_init := ⟨C_Web, f_Web_init, m_Web, ⟨mk_Web, a_Web_init, i_Web_init, kc_Web⟩, v_Web_init F_Web_init b_Web_init T w_is_signs w_exc_BadWeb⟩
  have w__law_shuffled := (v__law_shuffled (P := l.prog) (w := w) (base := base) F__law_shuffled b__law_shuffled T w__law_draw).named (PySem.W.mg_of X G a__law_shuffled)
  have w__law_tree_ties := (v__law_tree_ties (P := l.prog) (w := w) (base := base) F__law_tree_ties b__law_tree_ties T w__law_draw w__law_shuffled).named (PySem.W.mg_of X G a__law_tree_ties)
  have w__law_forest_rows := (v__law_forest_rows (P := l.prog) (w := w) (base := base) F__law_forest_rows b__law_forest_rows T w__law_tree_ties w__law_draw w__law_pick).named (PySem.W.mg_of X G a__law_forest_rows)
  have w__law_web_rows := (v__law_web_rows (P := l.prog) (w := w) (base := base) F__law_web_rows b__law_web_rows T w__law_draw w__law_pick w__law_forest_rows).named (PySem.W.mg_of X G a__law_web_rows)
  have w__law_few_rows := (v__law_few_rows (P := l.prog) (w := w) (base := base) F__law_few_rows b__law_few_rows T w__law_web_rows w__law_draw w__law_shuffled).named (PySem.W.mg_of X G a__law_few_rows)
  have w_arrows := (v_arrows (P := l.prog) (w := w) (base := base) F_arrows b_arrows T ).named (PySem.W.mg_of X G a_arrows)
  have w__law_rounds := (v__law_rounds (P := l.prog) (w := w) (base := base) F__law_rounds b__law_rounds T ).named (PySem.W.mg_of X G a__law_rounds)
  have w_arrows_along := (v_arrows_along (P := l.prog) (w := w) (base := base) F_arrows_along b_arrows_along T ).named (PySem.W.mg_of X G a_arrows_along)
  have w_is_index := (v_is_index (P := l.prog) (w := w) (base := base) F_is_index b_is_index T w_is_whole).named (PySem.W.mg_of X G a_is_index)
  have w_is_round := (v_is_round (P := l.prog) (w := w) (base := base) F_is_round b_is_round T w_is_index).named (PySem.W.mg_of X G a_is_round)
  have w_round_arrows := (v_round_arrows (P := l.prog) (w := w) (base := base) F_round_arrows b_round_arrows T w_is_list w_is_round w_exc_BadValue w_arrows_along).named (PySem.W.mg_of X G a_round_arrows)
  have w__law_refused := v__law_refused (P := l.prog) (w := w) (base := base) F__law_refused b__law_refused T (PySem.W.mg_of X G a__law_refused) 
  have w_rounds_from := (v_rounds_from (P := l.prog) (w := w) (base := base) F_rounds_from b_rounds_from T ).named (PySem.W.mg_of X G a_rounds_from)
  have w_rounds := (v_rounds (P := l.prog) (w := w) (base := base) F_rounds b_rounds T w_rounds_from).named (PySem.W.mg_of X G a_rounds)
  have w__law_is_bad := (v__law_is_bad (P := l.prog) (w := w) (base := base) F__law_is_bad b__law_is_bad T ).named (PySem.W.mg_of X G a__law_is_bad)
  have w_is_bad := (v_is_bad (P := l.prog) (w := w) (base := base) F_is_bad b_is_bad T ).named (PySem.W.mg_of X G a_is_bad)
  have w_bad_rounds := (v_bad_rounds (P := l.prog) (w := w) (base := base) F_bad_rounds b_bad_rounds T w_rounds w_is_bad).named (PySem.W.mg_of X G a_bad_rounds)
  have w_bad_round := (v_bad_round (P := l.prog) (w := w) (base := base) F_bad_round b_bad_round T w_rounds_from w_is_bad).named (PySem.W.mg_of X G a_bad_round)
  have w_never_rises := (v_never_rises (P := l.prog) (w := w) (base := base) F_never_rises b_never_rises T w_bad_round).named (PySem.W.mg_of X G a_never_rises)
  have w__law_arrows := (v__law_arrows (P := l.prog) (w := w) (base := base) F__law_arrows b__law_arrows T ).named (PySem.W.mg_of X G a__law_arrows)
  have w__law_arrows_along := (v__law_arrows_along (P := l.prog) (w := w) (base := base) F__law_arrows_along b__law_arrows_along T ).named (PySem.W.mg_of X G a__law_arrows_along)
  exact v_law T w__law_pen w__law_pick w__law_draw w__law_few_rows w__law_web_rows w_Web_init w_arrows w__law_rounds w__law_arrows w_rounds w__law_is_bad w_bad_rounds w_never_rises w_round_arrows w__law_arrows_along w__law_refused TB hr hgd
end Z
open PySem PySem.W PyProof.Rows
set_option maxRecDepth 100000 in
set_option maxHeartbeats 0 in
theorem PySem.Challenge.cw_calmwebs_k57_arrows_and_rounds_holds : PySem.Challenge.rw_calmwebs_k57_arrows_and_rounds.Holds := by
  w_on; o_law; k_head; (case hw => w_witness2)
  k_fill
  refine VL.walkG (l := PySem.Challenge.rw_calmwebs_k57_arrows_and_rounds) rfl rfl (fun w h Y => PySem.W.km_in_of Y) ?F
  case F =>
    intro w mg fa h Y KX G hmg
    refine' Z.all_mk KX G hmg Z.law_true (PySem.W.km_tabs_of Y) ?aC_Web ?pg_Web ?hd_Web ?po_Web ?sa_Web ?mk_Web ?kc_Web ?aC_BadWeb ?ex_BadWeb ?ty_BadWeb ?aC_BadValue ?ex_BadValue ?ty_BadValue ?ic_BadValue ?xl_BadWeb ?sa_BadWeb ?kc_BadWeb ?fi_BadWeb ?ti_BadWeb ?l_BadWeb_init ?c_BadWeb_init ?k_BadWeb_init ?no_BadWeb_what ?no_BadWeb_value ?xl_BadValue ?sa_BadValue ?kc_BadValue ?fi_BadValue ?ti_BadValue ?l_BadValue_init ?c_BadValue_init ?k_BadValue_init ?no_BadValue_what ?no_BadValue_value ?ga_BadWeb ?gg_BadWeb ?hd_BadWeb ?ga_BadValue ?gg_BadValue ?hd_BadValue ?su_BadWeb_BadValue ?su_BadValue_BadValue ?a__law_pen ?l__law_pen ?c__law_pen ?k__law_pen ?a__law_draw ?l__law_draw ?c__law_draw ?k__law_draw ?a__law_pick ?l__law_pick ?c__law_pick ?k__law_pick ?a_is_list ?l_is_list ?c_is_list ?k_is_list ?a_is_whole ?l_is_whole ?c_is_whole ?k_is_whole ?a_is_signs ?l_is_signs ?c_is_signs ?k_is_signs ?a_Web_init ?i_Web_init ?l_Web_init ?c_Web_init ?k_Web_init ?a__law_shuffled ?l__law_shuffled ?c__law_shuffled ?k__law_shuffled ?a__law_tree_ties ?l__law_tree_ties ?c__law_tree_ties ?k__law_tree_ties ?a__law_forest_rows ?l__law_forest_rows ?c__law_forest_rows ?k__law_forest_rows ?a__law_web_rows ?l__law_web_rows ?c__law_web_rows ?k__law_web_rows ?a__law_few_rows ?l__law_few_rows ?c__law_few_rows ?k__law_few_rows ?a_arrows ?l_arrows ?c_arrows ?k_arrows ?a__law_rounds ?l__law_rounds ?c__law_rounds ?k__law_rounds ?a_arrows_along ?l_arrows_along ?c_arrows_along ?k_arrows_along ?a_is_index ?l_is_index ?c_is_index ?k_is_index ?a_is_round ?l_is_round ?c_is_round ?k_is_round ?a_round_arrows ?l_round_arrows ?c_round_arrows ?k_round_arrows ?a__law_refused ?l__law_refused ?c__law_refused ?k__law_refused ?a_rounds_from ?l_rounds_from ?c_rounds_from ?k_rounds_from ?a_rounds ?l_rounds ?c_rounds ?k_rounds ?a__law_is_bad ?l__law_is_bad ?c__law_is_bad ?k__law_is_bad ?a_is_bad ?l_is_bad ?c_is_bad ?k_is_bad ?a_bad_rounds ?l_bad_rounds ?c_bad_rounds ?k_bad_rounds ?a_bad_round ?l_bad_round ?c_bad_round ?k_bad_round ?a_never_rises ?l_never_rises ?c_never_rises ?k_never_rises ?a__law_arrows ?l__law_arrows ?c__law_arrows ?k__law_arrows ?a__law_arrows_along ?l__law_arrows_along ?c__law_arrows_along ?k__law_arrows_along ?a_law ?l_law ?cc_law ?k_law ?nT ?cT ?zn_int ?zn_list ?zn_len ?zn_tuple ?zn_isinstance ?zn_bool ?zn_all ?na_Web_rows ?na_Web_size ?zn_range ?zn_max ?zn_sorted ?zn_repr
    (case aC_Web => k_is)
    (case pg_Web => k_is)
    (case hd_Web => k_is)
    (case po_Web => k_is)
    (case sa_Web => k_is)
    (case mk_Web => k_is)
    (case kc_Web => k_is)
    (case aC_BadWeb => k_is)
    (case ex_BadWeb => k_is)
    (case ty_BadWeb => k_is)
    (case aC_BadValue => k_is)
    (case ex_BadValue => k_is)
    (case ty_BadValue => k_is)
    (case ic_BadValue => k_is)
    (case xl_BadWeb => k_is)
    (case sa_BadWeb => k_is)
    (case kc_BadWeb => k_is)
    (case fi_BadWeb => k_is)
    (case ti_BadWeb => k_is)
    (case l_BadWeb_init => k_is)
    (case c_BadWeb_init => k_is)
    (case k_BadWeb_init => k_is)
    (case no_BadWeb_what => k_is)
    (case no_BadWeb_value => k_is)
    (case xl_BadValue => k_is)
    (case sa_BadValue => k_is)
    (case kc_BadValue => k_is)
    (case fi_BadValue => k_is)
    (case ti_BadValue => k_is)
    (case l_BadValue_init => k_is)
    (case c_BadValue_init => k_is)
    (case k_BadValue_init => k_is)
    (case no_BadValue_what => k_is)
    (case no_BadValue_value => k_is)
    (case ga_BadWeb => k_is)
    (case gg_BadWeb => k_is)
    (case hd_BadWeb => k_is)
    (case ga_BadValue => k_is)
    (case gg_BadValue => k_is)
    (case hd_BadValue => k_is)
    (case su_BadWeb_BadValue => first | rfl | k_is)
    (case su_BadValue_BadValue => first | rfl | k_is)
    (case a__law_pen => k_is)
    (case l__law_pen => k_is)
    (case c__law_pen => k_is)
    (case k__law_pen => k_is)
    (case a__law_draw => k_is)
    (case l__law_draw => k_is)
    (case c__law_draw => k_is)
    (case k__law_draw => k_is)
    (case a__law_pick => k_is)
    (case l__law_pick => k_is)
    (case c__law_pick => k_is)
    (case k__law_pick => k_is)
    (case a_is_list => k_is)
    (case l_is_list => k_is)
    (case c_is_list => k_is)
    (case k_is_list => k_is)
    (case a_is_whole => k_is)
    (case l_is_whole => k_is)
    (case c_is_whole => k_is)
    (case k_is_whole => k_is)
    (case a_is_signs => k_is)
    (case l_is_signs => k_is)
    (case c_is_signs => k_is)
    (case k_is_signs => k_is)
    (case a_Web_init => k_is)
    (case i_Web_init => k_is)
    (case l_Web_init => k_is)
    (case c_Web_init => k_is)
    (case k_Web_init => k_is)
    (case a__law_shuffled => k_is)
    (case l__law_shuffled => k_is)
    (case c__law_shuffled => k_is)
    (case k__law_shuffled => k_is)
    (case a__law_tree_ties => k_is)
    (case l__law_tree_ties => k_is)
    (case c__law_tree_ties => k_is)
    (case k__law_tree_ties => k_is)
    (case a__law_forest_rows => k_is)
    (case l__law_forest_rows => k_is)
    (case c__law_forest_rows => k_is)
    (case k__law_forest_rows => k_is)
    (case a__law_web_rows => k_is)
    (case l__law_web_rows => k_is)
    (case c__law_web_rows => k_is)
    (case k__law_web_rows => k_is)
    (case a__law_few_rows => k_is)
    (case l__law_few_rows => k_is)
    (case c__law_few_rows => k_is)
    (case k__law_few_rows => k_is)
    (case a_arrows => k_is)
    (case l_arrows => k_is)
    (case c_arrows => k_is)
    (case k_arrows => k_is)
    (case a__law_rounds => k_is)
    (case l__law_rounds => k_is)
    (case c__law_rounds => k_is)
    (case k__law_rounds => k_is)
    (case a_arrows_along => k_is)
    (case l_arrows_along => k_is)
    (case c_arrows_along => k_is)
    (case k_arrows_along => k_is)
    (case a_is_index => k_is)
    (case l_is_index => k_is)
    (case c_is_index => k_is)
    (case k_is_index => k_is)
    (case a_is_round => k_is)
    (case l_is_round => k_is)
    (case c_is_round => k_is)
    (case k_is_round => k_is)
    (case a_round_arrows => k_is)
    (case l_round_arrows => k_is)
    (case c_round_arrows => k_is)
    (case k_round_arrows => k_is)
    (case a__law_refused => k_is)
    (case l__law_refused => k_is)
    (case c__law_refused => k_is)
    (case k__law_refused => k_is)
    (case a_rounds_from => k_is)
    (case l_rounds_from => k_is)
    (case c_rounds_from => k_is)
    (case k_rounds_from => k_is)
    (case a_rounds => k_is)
    (case l_rounds => k_is)
    (case c_rounds => k_is)
    (case k_rounds => k_is)
    (case a__law_is_bad => k_is)
    (case l__law_is_bad => k_is)
    (case c__law_is_bad => k_is)
    (case k__law_is_bad => k_is)
    (case a_is_bad => k_is)
    (case l_is_bad => k_is)
    (case c_is_bad => k_is)
    (case k_is_bad => k_is)
    (case a_bad_rounds => k_is)
    (case l_bad_rounds => k_is)
    (case c_bad_rounds => k_is)
    (case k_bad_rounds => k_is)
    (case a_bad_round => k_is)
    (case l_bad_round => k_is)
    (case c_bad_round => k_is)
    (case k_bad_round => k_is)
    (case a_never_rises => k_is)
    (case l_never_rises => k_is)
    (case c_never_rises => k_is)
    (case k_never_rises => k_is)
    (case a__law_arrows => k_is)
    (case l__law_arrows => k_is)
    (case c__law_arrows => k_is)
    (case k__law_arrows => k_is)
    (case a__law_arrows_along => k_is)
    (case l__law_arrows_along => k_is)
    (case c__law_arrows_along => k_is)
    (case k__law_arrows_along => k_is)
    (case a_law => k_is)
    (case l_law => k_is)
    (case cc_law => k_is)
    (case k_law => k_is)
    (case nT => first | k_is | rfl)
    (case cT => first | k_is | rfl)
    (case zn_int => k_is)
    (case zn_list => k_is)
    (case zn_len => k_is)
    (case zn_tuple => k_is)
    (case zn_isinstance => k_is)
    (case zn_bool => k_is)
    (case zn_all => k_is)
    (case na_Web_rows => k_is)
    (case na_Web_size => k_is)
    (case zn_range => k_is)
    (case zn_max => k_is)
    (case zn_sorted => k_is)
    (case zn_repr => k_is)
