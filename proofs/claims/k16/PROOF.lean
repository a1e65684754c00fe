import PyProof.Rows.All
import Wide.All
import OpenK.AllK
import Wide.FinOn
import HandS.ForMost
import HandS.ForExc
import HandS.Walk
import HandS.Deep
import HandS.TupAny
import HandS.TupMul
import HandS.Style
import HandS.Zip
import HandS.Flow
import HandS.FStr
import HandS.Small
import HandS.IsInst
import HandS.TryMany
import HandS.StrMore
import HandS.SetKeys
import HandS.SetFor
import KE.SortData
import KE.DataMinMax
import KE.KTupSum
import KE.DataFind
import HandS.ForSpec
import HandS.Strs
import HandS.TryOnly
import KE.DataAny
import PySem.Challenge.RW_pulselines_k16_whole_chains_of_wakings
set_option Elab.async false
set_option linter.all false
set_option maxRecDepth 100000
set_option maxHeartbeats 4000000
/-! # PL, part A: worlds, what stands for what -/
namespace PL
open PySem PySem.Spec PyProof.Rows L2

/-- a value: data, a mutable object by its number, a list or tuple of such -/
inductive Wv where
  | d (x : PyData)
  | o (k : Nat)
  | sq (tup : Bool) (l : List Wv)
/-- a mutable object -/
inductive MO where
  | lst (l : List Wv)
  | dct (kvs : List (Key × Wv))
  | ins (c : Str) (fs : List (Str × Wv))
  | dead
abbrev Store := List MO
abbrev En := List (Option Wv)
inductive Res (α : Type) where
  | ok (a : α) (S : Store)
  | exc (c : Str) (S : Store)
  | bad
def Res.bind {α β : Type} (r : Res α) (f : α → Store → Res β) : Res β := match r with
  | .ok a S => f a S
  | .exc c S => .exc c S
  | .bad => .bad
inductive SRes where
  | nx (ρ : En) (S : Store)
  | rt (w : Wv) (S : Store)
  | bk (ρ : En) (S : Store)
  | ct (ρ : En) (S : Store)
  | exc (c : Str) (ρ : En) (S : Store)
  | bad
/-- what a pure def gives -/
inductive PRes where
  | ok (d : PyData)
  | exc (c : Str)
  | bad

structure Wd where
  η : List Addr
  Z : Addr → Bool
/-- what data may lean on -/
def mask (Z : Addr → Bool) (H : Hp) : Hp := fun a => if Z a = true then none else H a
theorem mask_some {Z : Addr → Bool} {H : Hp} {a : Addr} {o : HO} (h : mask Z H a = some o) : Z a = false ∧ H a = some o := by
  unfold mask at h
  cases e : Z a with
  | true => rw [e, if_pos rfl] at h; cases h
  | false => rw [e, if_neg Bool.false_ne_true] at h; exact ⟨rfl, h⟩
theorem mask_of {Z : Addr → Bool} {H : Hp} {a : Addr} {o : HO} (z : Z a = false) (h : H a = some o) : mask Z H a = some o := by
  unfold mask
  rw [z, if_neg Bool.false_ne_true]
  exact h
theorem mask_same (Z : Addr → Bool) (H : Hp) : Same (mask Z H) H := fun _ _ h => (mask_some h).2

theorem Same.seqT {K : PySem.W.Frag} {H H' : Hp} {a : Addr} {xs : List V} (e : Same H H') (h : SqT K H a xs) : SqT K H' a xs := by
  rcases h with (h | ⟨o, h⟩) | h
  · exact .inl (.inl (e _ _ h))
  · exact .inl (.inr ⟨o, e _ _ h⟩)
  · exact .inr h
mutual
theorem Dp.same {K : PySem.W.Frag} {H H' : Hp} (s : Same H H') : ∀ (d : PyData) (v : V), Dp K H v d → Dp K H' v d
  | .none, _, h => by cases h; exact .non
  | .bool b, _, h => by cases h; exact .bl b
  | .int i, _, h => by cases h; exact .int i
  | .str x, _, h => by cases h; exact .str x
  | .list ds, _, h => by
    cases h with
    | lst hs ha => exact .lst (s.seq hs) (DpAll.same s ds _ ha)
  | .tuple ds, _, h => by
    cases h with
    | tup hs ha => exact .tup (Same.seqT s hs) (DpAll.same s ds _ ha)
  | .dict _, _, h => by cases h
theorem DpAll.same {K : PySem.W.Frag} {H H' : Hp} (s : Same H H') : ∀ (ds : List PyData) (vs : List V), DpAll K H vs ds → DpAll K H' vs ds
  | [], _, h => by cases h; exact .nil
  | d :: ds, _, h => by
    cases h with
    | cons h1 h2 => exact .cons (Dp.same s d _ h1) (DpAll.same s ds _ h2)
end
theorem DpAll.length {K : PySem.W.Frag} {H : Hp} : ∀ {vs : List V} {ds : List PyData}, DpAll K H vs ds → vs.length = ds.length
  | _, _, .nil => rfl
  | _, _, .cons _ t => by rw [List.length_cons, List.length_cons, DpAll.length t]
theorem DpAll.append {K : PySem.W.Frag} {H : Hp} : ∀ {vs us : List V} {ds es : List PyData}, DpAll K H vs ds → DpAll K H us es → DpAll K H (vs ++ us) (ds ++ es)
  | _, _, _, _, .nil, s => s
  | _, _, _, _, .cons r t, s => .cons r (DpAll.append t s)
theorem DpAll.get {K : PySem.W.Frag} {H : Hp} : ∀ {vs : List V} {ds : List PyData} {i : Nat} {d : PyData}, DpAll K H vs ds → ds[i]? = some d → ∃ v, vs[i]? = some v ∧ Dp K H v d
  | _, _, _, _, .nil, e => by simp at e
  | _, _, 0, _, .cons r _, e => by simp at e; subst e; exact ⟨_, rfl, r⟩
  | _, _, i + 1, d, .cons _ t, e => by
    obtain ⟨u, h1, h2⟩ := DpAll.get (i := i) (d := d) t (by simpa using e)
    exact ⟨u, by simpa using h1, h2⟩
theorem DpAll.take {K : PySem.W.Frag} {H : Hp} : ∀ {vs : List V} {ds : List PyData} (n : Nat), DpAll K H vs ds → DpAll K H (vs.take n) (ds.take n)
  | _, _, 0, _ => .nil
  | _, _, _ + 1, .nil => .nil
  | _, _, n + 1, .cons r t => .cons r (DpAll.take n t)
theorem DpAll.drop {K : PySem.W.Frag} {H : Hp} : ∀ {vs : List V} {ds : List PyData} (n : Nat), DpAll K H vs ds → DpAll K H (vs.drop n) (ds.drop n)
  | _, _, 0, r => r
  | _, _, _ + 1, .nil => .nil
  | _, _, n + 1, .cons _ t => DpAll.drop n t

mutual
inductive RW (K : PySem.W.Frag) (W : Wd) (H : Hp) : V → Wv → Prop
  | d {v : V} {x : PyData} : Dp K (mask W.Z H) v x → RW K W H v (.d x)
  | o {k : Nat} {a : Addr} : W.η[k]? = some a → RW K W H (.ref a) (.o k)
  | sl {a : Addr} {vs : List V} {l : List Wv} : mask W.Z H a = some (.lst vs) → RWs K W H vs l → RW K W H (.ref a) (.sq false l)
  | st {a : Addr} {vs : List V} {l : List Wv} : mask W.Z H a = some (.tup vs) → RWs K W H vs l → RW K W H (.ref a) (.sq true l)
inductive RWs (K : PySem.W.Frag) (W : Wd) (H : Hp) : List V → List Wv → Prop
  | nil : RWs K W H [] []
  | cons {v : V} {vs : List V} {w : Wv} {ws : List Wv} : RW K W H v w → RWs K W H vs ws → RWs K W H (v :: vs) (w :: ws)
end
theorem RWs.length {K : PySem.W.Frag} {W : Wd} {H : Hp} : ∀ {vs : List V} {ws : List Wv}, RWs K W H vs ws → vs.length = ws.length
  | _, _, .nil => rfl
  | _, _, .cons _ t => by rw [List.length_cons, List.length_cons, RWs.length t]
theorem RWs.append {K : PySem.W.Frag} {W : Wd} {H : Hp} : ∀ {vs us : List V} {ds es : List Wv}, RWs K W H vs ds → RWs K W H us es → RWs K W H (vs ++ us) (ds ++ es)
  | _, _, _, _, .nil, s => s
  | _, _, _, _, .cons r t, s => .cons r (RWs.append t s)
theorem RWs.get {K : PySem.W.Frag} {W : Wd} {H : Hp} : ∀ {vs : List V} {ds : List Wv} {i : Nat} {d : Wv}, RWs K W H vs ds → ds[i]? = some d → ∃ v, vs[i]? = some v ∧ RW K W H v d
  | _, _, _, _, .nil, e => by simp at e
  | _, _, 0, _, .cons r _, e => by simp at e; subst e; exact ⟨_, rfl, r⟩
  | _, _, i + 1, d, .cons _ t, e => by
    obtain ⟨u, h1, h2⟩ := RWs.get (i := i) (d := d) t (by simpa using e)
    exact ⟨u, by simpa using h1, h2⟩
theorem RWs.get' {K : PySem.W.Frag} {W : Wd} {H : Hp} : ∀ {vs : List V} {ds : List Wv} {i : Nat} {v : V}, RWs K W H vs ds → vs[i]? = some v → ∃ d, ds[i]? = some d ∧ RW K W H v d
  | _, _, _, _, .nil, e => by simp at e
  | _, _, 0, _, .cons r _, e => by simp at e; subst e; exact ⟨_, rfl, r⟩
  | _, _, i + 1, d, .cons _ t, e => by
    obtain ⟨u, h1, h2⟩ := RWs.get' (i := i) (v := d) t (by simpa using e)
    exact ⟨u, by simpa using h1, h2⟩
theorem RWs.ofD {K : PySem.W.Frag} {W : Wd} {H : Hp} : ∀ {vs : List V} {ds : List PyData}, DpAll K (mask W.Z H) vs ds → RWs K W H vs (ds.map .d)
  | _, _, .nil => .nil
  | _, _, .cons r t => .cons (.d r) (RWs.ofD t)
theorem RWs.toD {K : PySem.W.Frag} {W : Wd} {H : Hp} : ∀ {vs : List V} {ds : List PyData}, RWs K W H vs (ds.map .d) → DpAll K (mask W.Z H) vs ds
  | [], [], _ => .nil
  | [], d :: ds, h => by cases h
  | v :: vs, [], h => by cases h
  | v :: vs, d :: ds, h => by
    cases h with
    | cons r t =>
      cases r with
      | d q => exact .cons q (RWs.toD t)

/-! ### later worlds -/
structure Le (W : Wd) (H : Hp) (W' : Wd) (H' : Hp) : Prop where
  ext : ∀ a o, (a ∉ W.η ∨ W.Z a = false) → H a = some o → H' a = some o
  dom : ∀ a, H' a = none → H a = none
  gro : ∀ a, W'.Z a = true → W.Z a = true ∨ H a = none
  kee : ∀ a, W.Z a = true → a ∉ W.η → H a ≠ none → W'.Z a = true
  pre : ∃ t, W'.η = W.η ++ t ∧ ∀ a ∈ t, H a = none
theorem Le.refl (W : Wd) (H : Hp) : Le W H W H := ⟨fun _ _ _ h => h, fun _ h => h, fun _ h => .inl h, fun _ h _ _ => h, ⟨[], by simp, by simp⟩⟩
theorem Le.nz {W W1 : Wd} {H H1 : Hp} (l : Le W H W1 H1) {a : Addr} {o : HO} (hz : W.Z a = false) (h : H a = some o) : W1.Z a = false := by
  cases q : W1.Z a with
  | false => rfl
  | true =>
    rcases l.gro a q with z | z
    · rw [hz] at z; cases z
    · rw [h] at z; cases z
theorem Le.nin {W W1 : Wd} {H H1 : Hp} (l : Le W H W1 H1) {a : Addr} {o : HO} (hn : a ∉ W.η) (h : H a = some o) : a ∉ W1.η := fun z => by
  obtain ⟨t, e1, f1⟩ := l.pre
  rw [e1] at z
  rcases List.mem_append.mp z with z | z
  · exact hn z
  · rw [f1 a z] at h; cases h
theorem Le.trans {W W1 W2 : Wd} {H H1 H2 : Hp} (l : Le W H W1 H1) (m : Le W1 H1 W2 H2) : Le W H W2 H2 := by
  obtain ⟨t, e1, f1⟩ := l.pre
  obtain ⟨u, e2, f2⟩ := m.pre
  refine ⟨fun a o hi h => ?_, fun a h => l.dom a (m.dom a h), fun a h => ?_, fun a h hn hs => ?_, ⟨t ++ u, by rw [e2, e1, List.append_assoc], fun a ha => ?_⟩⟩
  · refine m.ext a o ?_ (l.ext a o hi h)
    rcases hi with hi | hi
    · exact .inl (l.nin hi h)
    · exact .inr (l.nz hi h)
  · rcases m.gro a h with z | z
    · exact l.gro a z
    · exact .inr (l.dom a z)
  · obtain ⟨o, ho⟩ := Option.ne_none_iff_exists'.mp hs
    refine m.kee a (l.kee a h hn hs) (l.nin hn ho) ?_
    rw [l.ext a o (.inl hn) ho]
    exact Option.some_ne_none o
  · rcases List.mem_append.mp ha with z | z
    · exact f1 a z
    · exact l.dom a (f2 a z)
/-- what data leans on stays -/
theorem Le.msame {W W1 : Wd} {H H1 : Hp} (l : Le W H W1 H1) : Same (mask W.Z H) (mask W1.Z H1) := fun a o h => by
  obtain ⟨z, e⟩ := mask_some h
  exact mask_of (l.nz z e) (l.ext a o (.inr z) e)
/-- a heap that only grew -/
theorem Le.grow {W : Wd} {H H' : Hp} (s : Same H H') : Le W H W H' := ⟨fun a o _ h => s a o h, fun a h => s.free h, fun _ h => .inl h, fun _ h _ _ => h, ⟨[], by simp, by simp⟩⟩
theorem same_upd {H : Hp} {p : Addr} (hp : H p = none) (o : HO) : Same H (upd H p o) := fun a u h => by rw [upd_ne (ne_of_none h hp)]; exact h
section
variable {K : PySem.W.Frag} {W W1 : Wd} {H H1 : Hp}
mutual
theorem RW.le (l : Le W H W1 H1) : ∀ (w : Wv) (v : V), RW K W H v w → RW K W1 H1 v w
  | .d x, _, h => by
    cases h with
    | d q => exact .d (Dp.same l.msame _ _ q)
  | .o k, _, h => by
    cases h with
    | o q =>
      obtain ⟨t, e, _⟩ := l.pre
      refine .o ?_
      rw [e, List.getElem?_append_left (List.getElem?_eq_some_iff.mp q).1]
      exact q
  | .sq b ws, _, h => by
    cases h with
    | sl q r => exact .sl (l.msame _ _ q) (RWs.le l ws _ r)
    | st q r => exact .st (l.msame _ _ q) (RWs.le l ws _ r)
theorem RWs.le (l : Le W H W1 H1) : ∀ (ws : List Wv) (vs : List V), RWs K W H vs ws → RWs K W1 H1 vs ws
  | [], _, h => by cases h; exact .nil
  | w :: ws, _, h => by
    cases h with
    | cons r t => exact .cons (RW.le l w _ r) (RWs.le l ws _ t)
end
end

/-! ### the store -/
/-- a context: the written part, the classes by name, the wish about exceptions -/
structure Cn where
  K : PySem.W.Frag
  ct : Str → Addr
  ex : WX
def FsR (K : PySem.W.Frag) (W : Wd) (H : Hp) {κ : Type} : List (κ × V) → List (κ × Wv) → Prop := Paired fun (p : κ × V) (q : κ × Wv) => p.1 = q.1 ∧ RW K W H p.2 q.2
def MoR (C : Cn) (W : Wd) (H : Hp) : HO → MO → Prop
  | .lst vs, .lst l => RWs C.K W H vs l
  | .dK kvs, .dct l => FsR C.K W H kvs l
  | .ins c _ fs, .ins n l => c = C.ct n ∧ FsR C.K W H fs l
  | _, _ => False
structure StOk (C : Cn) (W : Wd) (S : Store) (H : Hp) : Prop where
  len : S.length = W.η.length
  here : ∀ (k : Nat) a o, W.η[k]? = some a → S[k]? = some o → o ≠ .dead → W.Z a = true ∧ ∃ u, H a = some u ∧ MoR C W H u o
  nd : W.η.Nodup
  dom : ∀ a, W.Z a = true → H a ≠ none
  edom : ∀ a ∈ W.η, H a ≠ none
structure Ok (C : Cn) (W : Wd) (ρ : En) (S : Store) (σ : L2.St) (H : Hp) : Prop where
  st : StOk C W S H
  len : ρ.length = σ.length
  env : ∀ (i : Nat) w, ρ[i]? = some (some w) → ∃ v, σ[i]? = some (some v) ∧ RW C.K W H v w
theorem FsR.le {K : PySem.W.Frag} {W W1 : Wd} {H H1 : Hp} {κ : Type} (l : Le W H W1 H1) {xs : List (κ × V)} {ys : List (κ × Wv)} (h : FsR K W H xs ys) : FsR K W1 H1 xs ys :=
  Paired.mapP h fun _ _ q => ⟨q.1, RW.le l _ _ q.2⟩
theorem MoR.le {C : Cn} {W W1 : Wd} {H H1 : Hp} (l : Le W H W1 H1) {u : HO} {o : MO} (h : MoR C W H u o) : MoR C W1 H1 u o := by
  cases u <;> cases o <;> first | exact h.elim | exact RWs.le l _ _ h | exact FsR.le l h | exact ⟨h.1, FsR.le l h.2⟩
theorem Ok.le {C : Cn} {W W1 : Wd} {ρ : En} {S S1 : Store} {σ : L2.St} {H H1 : Hp} (k : Ok C W ρ S σ H) (l : Le W H W1 H1) (st : StOk C W1 S1 H1) : Ok C W1 ρ S1 σ H1 :=
  ⟨st, k.len, fun i w e => let ⟨v, e1, r⟩ := k.env i w e; ⟨v, e1, RW.le l _ _ r⟩⟩
theorem StOk.grow {C : Cn} {W : Wd} {S : Store} {H H' : Hp} (st : StOk C W S H) (s : Same H H') : StOk C W S H' :=
  ⟨st.len, fun k a o h1 h2 h3 => let ⟨z, u, e, m⟩ := st.here k a o h1 h2 h3; ⟨z, u, s _ _ e, MoR.le (Le.grow s) m⟩, st.nd, fun a z e => st.dom a z (s.free e), fun a z e => st.edom a z (s.free e)⟩
theorem StOk.fresh {C : Cn} {W : Wd} {S : Store} {H : Hp} (st : StOk C W S H) {p : Addr} (hp : H p = none) : W.Z p = false := by
  cases e : W.Z p with
  | false => rfl
  | true => exact absurd hp (st.dom p e)

/-! ### the readings -/
def PostR (C : Cn) (W : Wd) (σ : L2.St) (H : Hp) (r : Res Wv) (Q : VK) : Prop := match r with
  | .ok w S => ∀ v W' H', Le W H W' H' → StOk C W' S H' → RW C.K W' H' v w → Q v H'
  | .exc c S => ∀ W' H', Le W H W' H' → StOk C W' S H' → C.ex (.ref (C.ct c)) none σ H'
  | .bad => False
def PostL (C : Cn) (W : Wd) (σ : L2.St) (H : Hp) (r : Res (List Wv)) (Q : List V → Hp → Prop) : Prop := match r with
  | .ok ws S => ∀ vs W' H', Le W H W' H' → StOk C W' S H' → RWs C.K W' H' vs ws → Q vs H'
  | .exc c S => ∀ W' H', Le W H W' H' → StOk C W' S H' → C.ex (.ref (C.ct c)) none σ H'
  | .bad => False
def PostB (C : Cn) (W : Wd) (σ : L2.St) (H : Hp) (r : Res Bool) (Q : Bool → Hp → Prop) : Prop := match r with
  | .ok b S => ∀ W' H', Le W H W' H' → StOk C W' S H' → Q b H'
  | .exc c S => ∀ W' H', Le W H W' H' → StOk C W' S H' → C.ex (.ref (C.ct c)) none σ H'
  | .bad => False
def PostS (C : Cn) (W : Wd) (H : Hp) (r : SRes) (D : Ends) : Prop := match r with
  | .nx ρ S => ∀ W' σ' H', Le W H W' H' → Ok C W' ρ S σ' H' → D.nx σ' H'
  | .rt w S => ∀ v W' H', Le W H W' H' → StOk C W' S H' → RW C.K W' H' v w → D.rt v H'
  | .bk ρ S => ∀ W' σ' H', Le W H W' H' → Ok C W' ρ S σ' H' → D.bk σ' H'
  | .ct ρ S => ∀ W' σ' H', Le W H W' H' → Ok C W' ρ S σ' H' → D.ct σ' H'
  | .exc c ρ S => ∀ W' σ' H', Le W H W' H' → Ok C W' ρ S σ' H' → C.ex (.ref (C.ct c)) none σ' H'
  | .bad => False
abbrev Ef := En → Store → Res Wv
abbrev Lf := En → Store → Res (List Wv)
abbrev Bf := En → Store → Res Bool
abbrev Sf := En → Store → SRes
def tE (C : Cn) (f : Ef) : TE := fun σ H Q => ∃ W ρ S, Ok C W ρ S σ H ∧ PostR C W σ H (f ρ S) Q
def tL (C : Cn) (f : Lf) : TA := fun σ H Q => ∃ W ρ S, Ok C W ρ S σ H ∧ PostL C W σ H (f ρ S) Q
def tB (C : Cn) (f : Bf) : TT := fun σ H Q => ∃ W ρ S, Ok C W ρ S σ H ∧ PostB C W σ H (f ρ S) Q
def tS (C : Cn) (f : Sf) : TS := fun D σ H => ∃ W ρ S, Ok C W ρ S σ H ∧ PostS C W H (f ρ S) D

section
variable {C : Cn} {W W1 : Wd} {σ : L2.St} {H H1 : Hp}
theorem PostR.le {r : Res Wv} {Q : VK} (l : Le W H W1 H1) (p : PostR C W σ H r Q) : PostR C W1 σ H1 r Q := by
  cases r with
  | ok w S => exact fun v W' H' m => p v W' H' (l.trans m)
  | exc c S => exact fun W' H' m => p W' H' (l.trans m)
  | bad => exact p
theorem PostL.le {r : Res (List Wv)} {Q : List V → Hp → Prop} (l : Le W H W1 H1) (p : PostL C W σ H r Q) : PostL C W1 σ H1 r Q := by
  cases r with
  | ok w S => exact fun v W' H' m => p v W' H' (l.trans m)
  | exc c S => exact fun W' H' m => p W' H' (l.trans m)
  | bad => exact p
theorem PostB.le {r : Res Bool} {Q : Bool → Hp → Prop} (l : Le W H W1 H1) (p : PostB C W σ H r Q) : PostB C W1 σ H1 r Q := by
  cases r with
  | ok w S => exact fun W' H' m => p W' H' (l.trans m)
  | exc c S => exact fun W' H' m => p W' H' (l.trans m)
  | bad => exact p
theorem PostS.le {r : SRes} {D : Ends} (l : Le W H W1 H1) (p : PostS C W H r D) : PostS C W1 H1 r D := by
  cases r with
  | nx ρ S => exact fun W' σ' H' m => p W' σ' H' (l.trans m)
  | rt w S => exact fun v W' H' m => p v W' H' (l.trans m)
  | bk ρ S => exact fun W' σ' H' m => p W' σ' H' (l.trans m)
  | ct ρ S => exact fun W' σ' H' m => p W' σ' H' (l.trans m)
  | exc c ρ S => exact fun W' σ' H' m => p W' σ' H' (l.trans m)
  | bad => exact p
variable {ρ : En} {S : Store}
/-- an expression, then what is done with its value: E, L, B, S say where it ends -/
theorem tE_E {f : Ef} {g : Wv → Store → Res Wv} {Q R : VK} (k : Ok C W ρ S σ H) (h : PostR C W σ H ((f ρ S).bind g) Q)
    (c : ∀ v w W1 S1 H1, Ok C W1 ρ S1 σ H1 → RW C.K W1 H1 v w → PostR C W1 σ H1 (g w S1) Q → R v H1) : tE C f σ H R := by
  refine ⟨W, ρ, S, k, ?_⟩
  cases e : f ρ S with
  | ok w S1 =>
    rw [e] at h
    exact fun v W1 H1 l st r => c v w W1 S1 H1 (k.le l st) r (PostR.le l h)
  | exc x S1 => rw [e] at h; exact h
  | bad => rw [e] at h; exact h
theorem tE_L {f : Ef} {g : Wv → Store → Res (List Wv)} {Q : List V → Hp → Prop} {R : VK} (k : Ok C W ρ S σ H) (h : PostL C W σ H ((f ρ S).bind g) Q)
    (c : ∀ v w W1 S1 H1, Ok C W1 ρ S1 σ H1 → RW C.K W1 H1 v w → PostL C W1 σ H1 (g w S1) Q → R v H1) : tE C f σ H R := by
  refine ⟨W, ρ, S, k, ?_⟩
  cases e : f ρ S with
  | ok w S1 =>
    rw [e] at h
    exact fun v W1 H1 l st r => c v w W1 S1 H1 (k.le l st) r (PostL.le l h)
  | exc x S1 => rw [e] at h; exact h
  | bad => rw [e] at h; exact h
theorem tE_B {f : Ef} {g : Wv → Store → Res Bool} {Q : Bool → Hp → Prop} {R : VK} (k : Ok C W ρ S σ H) (h : PostB C W σ H ((f ρ S).bind g) Q)
    (c : ∀ v w W1 S1 H1, Ok C W1 ρ S1 σ H1 → RW C.K W1 H1 v w → PostB C W1 σ H1 (g w S1) Q → R v H1) : tE C f σ H R := by
  refine ⟨W, ρ, S, k, ?_⟩
  cases e : f ρ S with
  | ok w S1 =>
    rw [e] at h
    exact fun v W1 H1 l st r => c v w W1 S1 H1 (k.le l st) r (PostB.le l h)
  | exc x S1 => rw [e] at h; exact h
  | bad => rw [e] at h; exact h
theorem tL_L {f : Lf} {g : List Wv → Store → Res (List Wv)} {Q : List V → Hp → Prop} {R : List V → Hp → Prop} (k : Ok C W ρ S σ H) (h : PostL C W σ H ((f ρ S).bind g) Q)
    (c : ∀ v w W1 S1 H1, Ok C W1 ρ S1 σ H1 → RWs C.K W1 H1 v w → PostL C W1 σ H1 (g w S1) Q → R v H1) : tL C f σ H R := by
  refine ⟨W, ρ, S, k, ?_⟩
  cases e : f ρ S with
  | ok w S1 =>
    rw [e] at h
    exact fun v W1 H1 l st r => c v w W1 S1 H1 (k.le l st) r (PostL.le l h)
  | exc x S1 => rw [e] at h; exact h
  | bad => rw [e] at h; exact h
theorem tL_E {f : Lf} {g : List Wv → Store → Res Wv} {Q : VK} {R : List V → Hp → Prop} (k : Ok C W ρ S σ H) (h : PostR C W σ H ((f ρ S).bind g) Q)
    (c : ∀ v w W1 S1 H1, Ok C W1 ρ S1 σ H1 → RWs C.K W1 H1 v w → PostR C W1 σ H1 (g w S1) Q → R v H1) : tL C f σ H R := by
  refine ⟨W, ρ, S, k, ?_⟩
  cases e : f ρ S with
  | ok w S1 =>
    rw [e] at h
    exact fun v W1 H1 l st r => c v w W1 S1 H1 (k.le l st) r (PostR.le l h)
  | exc x S1 => rw [e] at h; exact h
  | bad => rw [e] at h; exact h
theorem tB_E {f : Bf} {g : Bool → Store → Res Wv} {Q : VK} {R : Bool → Hp → Prop} (k : Ok C W ρ S σ H) (h : PostR C W σ H ((f ρ S).bind g) Q)
    (c : ∀ w W1 S1 H1, Ok C W1 ρ S1 σ H1 → PostR C W1 σ H1 (g w S1) Q → R w H1) : tB C f σ H R := by
  refine ⟨W, ρ, S, k, ?_⟩
  cases e : f ρ S with
  | ok w S1 =>
    rw [e] at h
    exact fun W1 H1 l st => c w W1 S1 H1 (k.le l st) (PostR.le l h)
  | exc x S1 => rw [e] at h; exact h
  | bad => rw [e] at h; exact h
theorem tB_B {f : Bf} {g : Bool → Store → Res Bool} {Q : Bool → Hp → Prop} {R : Bool → Hp → Prop} (k : Ok C W ρ S σ H) (h : PostB C W σ H ((f ρ S).bind g) Q)
    (c : ∀ w W1 S1 H1, Ok C W1 ρ S1 σ H1 → PostB C W1 σ H1 (g w S1) Q → R w H1) : tB C f σ H R := by
  refine ⟨W, ρ, S, k, ?_⟩
  cases e : f ρ S with
  | ok w S1 =>
    rw [e] at h
    exact fun W1 H1 l st => c w W1 S1 H1 (k.le l st) (PostB.le l h)
  | exc x S1 => rw [e] at h; exact h
  | bad => rw [e] at h; exact h
/-- in a statement -/
def Res.bindS {α : Type} (ρ : En) (r : Res α) (f : α → Store → SRes) : SRes := match r with
  | .ok a S => f a S
  | .exc c S => .exc c ρ S
  | .bad => .bad
theorem tE_S {f : Ef} {g : Wv → Store → SRes} {D : Ends} {R : VK} (k : Ok C W ρ S σ H) (h : PostS C W H ((f ρ S).bindS ρ g) D)
    (c : ∀ v w W1 S1 H1, Ok C W1 ρ S1 σ H1 → RW C.K W1 H1 v w → PostS C W1 H1 (g w S1) D → R v H1) : tE C f σ H R := by
  refine ⟨W, ρ, S, k, ?_⟩
  cases e : f ρ S with
  | ok w S1 =>
    rw [e] at h
    exact fun v W1 H1 l st r => c v w W1 S1 H1 (k.le l st) r (PostS.le l h)
  | exc x S1 => rw [e] at h; exact fun W' H' l st => h W' σ H' l (k.le l st)
  | bad => rw [e] at h; exact h
theorem tL_S {f : Lf} {g : List Wv → Store → SRes} {D : Ends} {R : List V → Hp → Prop} (k : Ok C W ρ S σ H) (h : PostS C W H ((f ρ S).bindS ρ g) D)
    (c : ∀ v w W1 S1 H1, Ok C W1 ρ S1 σ H1 → RWs C.K W1 H1 v w → PostS C W1 H1 (g w S1) D → R v H1) : tL C f σ H R := by
  refine ⟨W, ρ, S, k, ?_⟩
  cases e : f ρ S with
  | ok w S1 =>
    rw [e] at h
    exact fun v W1 H1 l st r => c v w W1 S1 H1 (k.le l st) r (PostS.le l h)
  | exc x S1 => rw [e] at h; exact fun W' H' l st => h W' σ H' l (k.le l st)
  | bad => rw [e] at h; exact h
theorem tB_S {f : Bf} {g : Bool → Store → SRes} {D : Ends} {R : Bool → Hp → Prop} (k : Ok C W ρ S σ H) (h : PostS C W H ((f ρ S).bindS ρ g) D)
    (c : ∀ w W1 S1 H1, Ok C W1 ρ S1 σ H1 → PostS C W1 H1 (g w S1) D → R w H1) : tB C f σ H R := by
  refine ⟨W, ρ, S, k, ?_⟩
  cases e : f ρ S with
  | ok w S1 =>
    rw [e] at h
    exact fun W1 H1 l st => c w W1 S1 H1 (k.le l st) (PostS.le l h)
  | exc x S1 => rw [e] at h; exact fun W' H' l st => h W' σ H' l (k.le l st)
  | bad => rw [e] at h; exact h
/-- the value is the end -/
theorem PostR.now {w : Wv} {Q : VK} {v : V} (k : Ok C W ρ S σ H) (h : PostR C W σ H (.ok w S) Q) (r : RW C.K W H v w) : Q v H := h v W H (Le.refl _ _) k.st r
end
section
variable {X : Cx}
theorem PE.imp {e : Expr} {t t' : TE} (h : PE X e t) (i : ∀ σ H Q, t' σ H Q → t σ H Q) : PE X e t' := ⟨fun pins s σ H Q I q => h.run pins s σ H Q I (i _ _ _ q)⟩
theorem PT.imp {e : Expr} {t t' : TT} (h : PT X e t) (i : ∀ σ H Q, t' σ H Q → t σ H Q) : PT X e t' := ⟨fun pins s σ H Q I q => h.run pins s σ H Q I (i _ _ _ q)⟩
theorem PW.imp {e : Expr} {t t' : TT} (h : PW X e t) (i : ∀ σ H Q, t' σ H Q → t σ H Q) : PW X e t' := ⟨fun wh pins s σ H Q I q => h.run wh pins s σ H Q I (i _ _ _ q)⟩
theorem PA.imp {es : List Expr} {t t' : TA} (h : PA X es t) (i : ∀ σ H Q, t' σ H Q → t σ H Q) : PA X es t' := ⟨fun pos pins s σ H Q I q => h.run pos pins s σ H Q I (i _ _ _ q)⟩
theorem PS.imp {st : Stmt} {t t' : TS} (h : PS X st t) (i : ∀ D σ H, t' D σ H → t D σ H) : PS X st t' := ⟨fun pins s σ H D I q => h.run pins s σ H D I (i _ _ _ q)⟩
theorem PSs.imp {st : List Stmt} {t t' : TS} (h : PSs X st t) (i : ∀ D σ H, t' D σ H → t D σ H) : PSs X st t' := ⟨fun pins s σ H D I q => h.run pins s σ H D I (i _ _ _ q)⟩
end
end PL

/-! # PL, part B: operations on data, the rules of expressions -/
namespace PL
open PySem PySem.Spec PyProof.Rows L2

/-- the context of a body -/
abbrev CC (X : Cx) (ct : Str → Addr) (ex : WX) : Cn := ⟨X.K, ct, ex⟩

/-! ### what a value is as data -/
def allD : List Wv → Option (List PyData)
  | [] => some []
  | .d x :: r => match allD r with
    | some ds => some (x :: ds)
    | none => none
  | .o _ :: _ => none
  | .sq _ _ :: _ => none
def asD (S : Store) : Wv → Option PyData
  | .d x => some x
  | .o k => match S[k]? with
    | some (.lst l) => match allD l with
      | some ds => some (.list ds)
      | none => none
    | _ => none
  | .sq b l => match allD l with
    | some ds => some (if b then .tuple ds else .list ds)
    | none => none
def asDs (S : Store) : List Wv → Option (List PyData)
  | [] => some []
  | w :: ws => match asD S w with
    | some x => match asDs S ws with
      | some xs => some (x :: xs)
      | none => none
    | none => none
theorem allD_eq : ∀ {l : List Wv} {ds : List PyData}, allD l = some ds → l = ds.map .d
  | [], ds, h => by cases h; rfl
  | .d x :: r, ds, h => by
    unfold allD at h
    cases e : allD r with
    | none => rw [e] at h; cases h
    | some es =>
      rw [e] at h
      have h' : some (x :: es) = some ds := h
      cases h'
      rw [allD_eq e]; rfl
  | .o _ :: _, _, h => by cases h
  | .sq _ _ :: _, _, h => by cases h
theorem allD_map : ∀ ds : List PyData, allD (ds.map .d) = some ds
  | [] => rfl
  | d :: ds => by
    show (match allD (ds.map .d) with | some es => some (d :: es) | none => none) = _
    rw [allD_map ds]
/-- data whose own list may be a mutable one -/
def DT (K : PySem.W.Frag) (W : Wd) (H : Hp) (v : V) : PyData → Prop
  | .list ds => ∃ a vs, v = .ref a ∧ SqL K H a vs ∧ DpAll K (mask W.Z H) vs ds
  | x => Dp K (mask W.Z H) v x
theorem DT.of {K : PySem.W.Frag} {W : Wd} {H : Hp} {v : V} {x : PyData} (h : Dp K (mask W.Z H) v x) : DT K W H v x := by
  cases h with
  | lst hs ha => exact ⟨_, _, rfl, (mask_same _ _).seq hs, ha⟩
  | non => exact .non
  | bl b => exact .bl b
  | int i => exact .int i
  | str x => exact .str x
  | tup hs ha => exact .tup hs ha
theorem DT.dp {K : PySem.W.Frag} {W : Wd} {H : Hp} {v : V} {x : PyData} (h : DT K W H v x) : Dp K H v x := by
  cases x with
  | list ds =>
    obtain ⟨a, vs, rfl, hs, ha⟩ := h
    exact .lst hs (DpAll.same (mask_same _ _) _ _ ha)
  | none => exact Dp.same (mask_same _ _) _ _ h
  | bool b => exact Dp.same (mask_same _ _) _ _ h
  | int i => exact Dp.same (mask_same _ _) _ _ h
  | str x => exact Dp.same (mask_same _ _) _ _ h
  | tuple xs => exact Dp.same (mask_same _ _) _ _ h
  | dict _ => exact Dp.same (mask_same _ _) _ _ h
section
variable {C : Cn} {W : Wd} {S : Store} {H : Hp}
theorem asD_dt (st : StOk C W S H) {v : V} {w : Wv} {x : PyData} (r : RW C.K W H v w) (e : asD S w = some x) : DT C.K W H v x := by
  cases r with
  | d q => cases e; exact DT.of q
  | @o k a q =>
    unfold asD at e
    dsimp only at e
    cases e1 : S[k]? with
    | none => rw [e1] at e; cases e
    | some o =>
      rw [e1] at e
      cases o with
      | lst l =>
        dsimp only at e
        cases e2 : allD l with
        | none => rw [e2] at e; cases e
        | some ds =>
          rw [e2] at e
          have e' : some (PyData.list ds) = some x := e
          cases e'
          obtain ⟨_, u, hu, m⟩ := st.here k a _ q e1 (by intro z; cases z)
          cases u with
          | lst vs =>
            have m' : RWs C.K W H vs l := m
            rw [allD_eq e2] at m'
            exact ⟨a, vs, rfl, SqL.of hu, m'.toD⟩
          | _ => exact False.elim m
      | dct _ => cases e
      | ins _ _ => cases e
      | dead => cases e
  | @sl a vs l q m =>
    unfold asD at e
    dsimp only at e
    cases e2 : allD l with
    | none => rw [e2] at e; cases e
    | some ds =>
      rw [e2] at e
      have e' : some (PyData.list ds) = some x := e
      cases e'
      rw [allD_eq e2] at m
      exact ⟨a, vs, rfl, SqL.of (mask_some q).2, m.toD⟩
  | @st a vs l q m =>
    unfold asD at e
    dsimp only at e
    cases e2 : allD l with
    | none => rw [e2] at e; cases e
    | some ds =>
      rw [e2] at e
      have e' : some (PyData.tuple ds) = some x := e
      cases e'
      rw [allD_eq e2] at m
      exact Dp.tup (SqT.of q) m.toD
/-- a list of arguments as data -/
inductive DTs (K : PySem.W.Frag) (W : Wd) (H : Hp) : List V → List PyData → Prop
  | nil : DTs K W H [] []
  | cons {v : V} {vs : List V} {x : PyData} {xs : List PyData} : DT K W H v x → DTs K W H vs xs → DTs K W H (v :: vs) (x :: xs)
theorem asDs_dt (st : StOk C W S H) : ∀ {vs : List V} {ws : List Wv} {xs : List PyData}, RWs C.K W H vs ws → asDs S ws = some xs → DTs C.K W H vs xs
  | _, _, _, .nil, e => by cases e; exact .nil
  | _, w :: ws, xs, .cons r t, e => by
    unfold asDs at e
    cases e1 : asD S w with
    | none => rw [e1] at e; cases e
    | some x =>
      rw [e1] at e
      dsimp only at e
      cases e2 : asDs S ws with
      | none => rw [e2] at e; cases e
      | some ys =>
        rw [e2] at e
        have e' : some (x :: ys) = some xs := e
        cases e'
        exact .cons (asD_dt st r e1) (asDs_dt st t e2)
end

/-! ### operations on data -/
def rOf (r : Option PyData) (S : Store) : Res Wv := match r with
  | some y => .ok (.d y) S
  | none => .bad
def bOf (r : Option Bool) (S : Store) : Res Bool := match r with
  | some y => .ok y S
  | none => .bad
/-- what may follow of an operation's value -/
abbrev DQ (C : Cn) (W : Wd) (H : Hp) (y : PyData) (Q : VK) : Prop := ∀ v H', Same H H' → Dp C.K (mask W.Z H') v y → Q v H'
def Op1 (C : Cn) (r : V → Hp → VK → Prop) (op : PyData → Option PyData) : Prop := ∀ W S H v x y Q, StOk C W S H → DT C.K W H v x → op x = some y → DQ C W H y Q → r v H Q
def Op2 (C : Cn) (r : R2) (op : PyData → PyData → Option PyData) : Prop := ∀ W S H u v x y z Q, StOk C W S H → DT C.K W H u x → DT C.K W H v y → op x y = some z → DQ C W H z Q → r u v H Q
def OpN (C : Cn) (r : List V → Hp → VK → Prop) (op : List PyData → Option PyData) : Prop := ∀ W S H vs xs z Q, StOk C W S H → DTs C.K W H vs xs → op xs = some z → DQ C W H z Q → r vs H Q
def eD1 (op : PyData → Option PyData) (f : Ef) : Ef := fun ρ S => (f ρ S).bind fun w S1 => rOf ((asD S1 w).bind op) S1
def eD2 (op : PyData → PyData → Option PyData) (f g : Ef) : Ef := fun ρ S => (f ρ S).bind fun a S1 => (g ρ S1).bind fun b S2 => rOf ((asD S2 a).bind fun x => (asD S2 b).bind fun y => op x y) S2
def eDN (op : List PyData → Option PyData) (f : Lf) : Ef := fun ρ S => (f ρ S).bind fun ws S1 => rOf ((asDs S1 ws).bind op) S1
/-- a test by an operation that gives a bool -/
def eT (f : Ef) : Bf := fun ρ S => (f ρ S).bind fun w S1 => match w with
  | .d (.bool b) => .ok b S1
  | _ => .bad
section
variable {C : Cn} {W : Wd} {S : Store} {σ : L2.St} {H : Hp}
theorem rOf_post {r : Option PyData} {Q : VK} (st : StOk C W S H) (p : PostR C W σ H (rOf r S) Q) : ∃ y, r = some y ∧ DQ C W H y Q := by
  cases r with
  | none => exact p.elim
  | some y => exact ⟨y, rfl, fun v H' s q => p v W H' (Le.grow s) (st.grow s) (.d q)⟩
theorem bindO {α β : Type} {x : Option α} {f : α → Option β} {y : β} (h : x.bind f = some y) : ∃ a, x = some a ∧ f a = some y := by
  cases x with
  | none => cases h
  | some a => exact ⟨a, rfl, h⟩
end
section
variable {X : Cx} {ct : Str → Addr} {ex : WX} {e a b : Expr} {es : List Expr} {f g : Ef} {fl : Lf} {pos : Pos}
theorem un_read {r : V → Hp → VK → Prop} {op : PyData → Option PyData} (ho : Op1 (CC X ct ex) r op) {σ : L2.St} {H : Hp} {Q : VK} (h : tE (CC X ct ex) (eD1 op f) σ H Q) : tUn r (tE (CC X ct ex) f) σ H Q := by
  obtain ⟨W, ρ, S, k, p⟩ := h
  refine tE_E k p fun v w W1 S1 H1 k1 r1 p1 => ?_
  obtain ⟨y, e1, q⟩ := rOf_post k1.st p1
  obtain ⟨x, e2, e3⟩ := bindO e1
  exact ho W1 S1 H1 v x y Q k1.st (asD_dt k1.st r1 e2) e3 q
theorem bin_read {r : R2} {op : PyData → PyData → Option PyData} (ho : Op2 (CC X ct ex) r op) {σ : L2.St} {H : Hp} {Q : VK} (h : tE (CC X ct ex) (eD2 op f g) σ H Q) : tOp r (tE (CC X ct ex) f) (tE (CC X ct ex) g) σ H Q := by
  obtain ⟨W, ρ, S, k, p⟩ := h
  refine tE_E k p fun u a W1 S1 H1 k1 r1 p1 => ?_
  refine ⟨W1, ρ, S1, k1, ?_⟩
  cases e0 : g ρ S1 with
  | ok b S2 =>
    rw [e0] at p1
    intro v W2 H2 l st r2
    have k2 := k1.le l st
    obtain ⟨y, e1, q⟩ := rOf_post st (PostR.le l p1)
    obtain ⟨x1, e2, e3⟩ := bindO e1
    obtain ⟨x2, e4, e5⟩ := bindO e3
    exact ho W2 S2 H2 u v x1 x2 y Q st (asD_dt st (RW.le l _ _ r1) e2) (asD_dt st r2 e4) e5 q
  | exc x S2 => rw [e0] at p1; exact p1
  | bad => rw [e0] at p1; exact p1
theorem args_read {r : List V → Hp → VK → Prop} {op : List PyData → Option PyData} (ho : OpN (CC X ct ex) r op) {σ : L2.St} {H : Hp} {Q : VK} (h : tE (CC X ct ex) (eDN op fl) σ H Q) : tCB r (tL (CC X ct ex) fl) σ H Q := by
  obtain ⟨W, ρ, S, k, p⟩ := h
  refine tL_E k p fun vs ws W1 S1 H1 k1 r1 p1 => ?_
  obtain ⟨y, e1, q⟩ := rOf_post k1.st p1
  obtain ⟨xs, e2, e3⟩ := bindO e1
  exact ho W1 S1 H1 vs xs y Q k1.st (asDs_dt k1.st r1 e2) e3 q

/-! ### leaves -/
def eVar (i : Nat) : Ef := fun ρ S => match ρ[i]? with
  | some (some w) => .ok w S
  | _ => .bad
def eC (x : PyData) : Ef := fun _ S => .ok (.d x) S
theorem ee_var (i : Nat) {x : Str} {pos : Pos} (hN : X.N[i]? = some x := by rfl) (hv : Vis X.env.scope x := by first | exact Or.inl rfl | exact Or.inr (Or.inl rfl) | exact Or.inr (Or.inr rfl)) (hd : (x == ("__debug__" : Str)) = false := by decide)
    (hcd : (x == ("__classdict__" : Str)) = false := by decide) : PE X (.Name x pos) (tE (CC X ct ex) (eVar i)) := by
  refine PE.imp (pe_var hN hv hd hcd) fun σ H Q ⟨W, ρ, S, k, p⟩ => ?_
  unfold eVar at p
  cases e : ρ[i]? with
  | none => rw [e] at p; exact p.elim
  | some o =>
    rw [e] at p
    cases o with
    | none => exact p.elim
    | some w =>
      obtain ⟨v, e1, r⟩ := k.env i w e
      exact ⟨v, e1, p v W H (Le.refl _ _) k.st r⟩
theorem const_read {v : V} {x : PyData} (q : ∀ H, Dp X.K H v x) {σ : L2.St} {H : Hp} {Q : VK} (h : tE (CC X ct ex) (eC x) σ H Q) : tC v σ H Q := by
  obtain ⟨W, ρ, S, k, p⟩ := h
  exact p v W H (Le.refl _ _) k.st (.d (q _))
theorem ee_int {i : Int} {j pos} : PE X (.Constant (.int i) j pos) (tE (CC X ct ex) (eC (.int i))) := PE.imp pe_int fun _ _ _ h => const_read (fun _ => .int i) h
theorem ee_bl {b j pos} : PE X (.Constant (.bool b) j pos) (tE (CC X ct ex) (eC (.bool b))) := PE.imp pe_bl fun _ _ _ h => const_read (fun _ => .bl b) h
theorem ee_non {j pos} : PE X (.Constant .none j pos) (tE (CC X ct ex) (eC .none)) := PE.imp pe_non fun _ _ _ h => const_read (fun _ => .non) h
theorem ee_str {x j pos} : PE X (.Constant (.str x) j pos) (tE (CC X ct ex) (eC (.str x))) := PE.imp pe_str fun _ _ _ h => const_read (fun _ => .str x) h
/-- a module's constant: an int, a text -/
theorem ee_globI {x : Str} {i : Int} {t : Tok} {pos : Pos} (hm : X.mg x = some (.int i t)) (hg : Gl X x := by rfl) (hd : (x == ("__debug__" : Str)) = false := by decide) : PE X (.Name x pos) (tE (CC X ct ex) (eC (.int i))) :=
  PE.imp (pe_glob hg hm (v := .int i) ⟨t, rfl⟩ hd) fun _ _ _ h => const_read (fun _ => .int i) h
theorem ee_globS {x y : Str} {t : Tok} {pos : Pos} (hm : X.mg x = some (.str y t)) (hg : Gl X x := by rfl) (hd : (x == ("__debug__" : Str)) = false := by decide) : PE X (.Name x pos) (tE (CC X ct ex) (eC (.str y))) :=
  PE.imp (pe_glob hg hm (v := .str y) ⟨t, rfl⟩ hd) fun _ _ _ h => const_read (fun _ => .str y) h

/-! ### argument lists, displays -/
def aNil : Lf := fun _ S => .ok [] S
def aCons (f : Ef) (g : Lf) : Lf := fun ρ S => (f ρ S).bind fun w S1 => (g ρ S1).bind fun ws S2 => .ok (w :: ws) S2
theorem aa_nil : PA X [] (tL (CC X ct ex) aNil) := PA.imp pa_nil fun _ _ _ ⟨W, ρ, S, k, p⟩ => p [] W _ (Le.refl _ _) k.st .nil
theorem cons_read {σ : L2.St} {H : Hp} {Q : List V → Hp → Prop} (h : tL (CC X ct ex) (aCons f fl) σ H Q) : tCons (tE (CC X ct ex) f) (tL (CC X ct ex) fl) σ H Q := by
  obtain ⟨W, ρ, S, k, p⟩ := h
  refine tE_L k p fun u a W1 S1 H1 k1 r1 p1 => ?_
  refine ⟨W1, ρ, S1, k1, ?_⟩
  cases e0 : fl ρ S1 with
  | ok ws S2 =>
    rw [e0] at p1
    intro vs W2 H2 l st r2
    exact p1 _ W2 H2 l st (.cons (RW.le l _ _ r1) r2)
  | exc x S2 => rw [e0] at p1; exact p1
  | bad => rw [e0] at p1; exact p1
theorem aa_cons (ha : PE X e (tE (CC X ct ex) f)) (hr : PA X es (tL (CC X ct ex) fl)) (hs : starEach (e :: es) X.env = (false, eval e X.env) :: starEach es X.env := by rfl) : PA X (e :: es) (tL (CC X ct ex) (aCons f fl)) :=
  PA.imp (pa_cons ha hr hs) fun _ _ _ h => cons_read h
def LINE : Nat := 16777216
theorem line_eq : sizeLine = LINE := sizeLine_eq
def mkSq (tup : Bool) (l : List Wv) : Wv := match allD l with
  | some ds => .d (if tup then .tuple ds else .list ds)
  | none => .sq tup l
def eTup (f : Lf) : Ef := fun ρ S => (f ρ S).bind fun ws S1 => if ws.length ≤ LINE then .ok (mkSq true ws) S1 else .bad
def eLst (f : Lf) : Ef := fun ρ S => (f ρ S).bind fun ws S1 => if ws.length ≤ LINE then .ok (mkSq false ws) S1 else .bad
theorem mk_tup {W : Wd} {S : Store} {H : Hp} {vs : List V} {ws : List Wv} (st : StOk (CC X ct ex) W S H) (r : RWs X.K W H vs ws) {p : Addr} (hp : H p = none) : RW X.K W (upd H p (.tup vs)) (.ref p) (mkSq true ws) := by
  have s := same_upd hp (.tup vs)
  have mz : mask W.Z (upd H p (.tup vs)) p = some (.tup vs) := mask_of (st.fresh hp) upd_same
  have r' := RWs.le (Le.grow (W := W) s) _ _ r
  unfold mkSq
  cases e : allD ws with
  | none => exact .st mz r'
  | some ds =>
    rw [allD_eq e] at r'
    exact .d (.tup (SqT.of mz) r'.toD)
theorem mk_lst {W : Wd} {S : Store} {H : Hp} {vs : List V} {ws : List Wv} (st : StOk (CC X ct ex) W S H) (r : RWs X.K W H vs ws) {p : Addr} (hp : H p = none) : RW X.K W (upd H p (.lst vs)) (.ref p) (mkSq false ws) := by
  have s := same_upd hp (.lst vs)
  have mz : mask W.Z (upd H p (.lst vs)) p = some (.lst vs) := mask_of (st.fresh hp) upd_same
  have r' := RWs.le (Le.grow (W := W) s) _ _ r
  unfold mkSq
  cases e : allD ws with
  | none => exact .sl mz r'
  | some ds =>
    rw [allD_eq e] at r'
    exact .d (.lst (SqL.of mz) r'.toD)
theorem ee_tup {x1} (h : PA X es (tL (CC X ct ex) fl)) : PE X (.Tuple es x1 pos) (tE (CC X ct ex) (eTup fl)) := by
  refine PE.imp (pe_tup h) fun σ H Q ⟨W, ρ, S, k, p⟩ => ?_
  refine tL_E k p fun vs ws W1 S1 H1 k1 r1 p1 => ?_
  by_cases hz : ws.length ≤ LINE
  · rw [if_pos hz] at p1
    refine ⟨by rw [r1.length, line_eq]; exact hz, fun q hq => ?_⟩
    have s := same_upd hq (.tup vs)
    exact p1 _ W1 _ (Le.grow s) (k1.st.grow s) (mk_tup k1.st r1 hq)
  · rw [if_neg hz] at p1; exact p1.elim
theorem ee_lst (h : PA X es (tL (CC X ct ex) fl)) : PE X (.List es pos) (tE (CC X ct ex) (eLst fl)) := by
  refine PE.imp (pe_lst h) fun σ H Q ⟨W, ρ, S, k, p⟩ => ?_
  refine tL_E k p fun vs ws W1 S1 H1 k1 r1 p1 => ?_
  by_cases hz : ws.length ≤ LINE
  · rw [if_pos hz] at p1
    refine ⟨by rw [r1.length, line_eq]; exact hz, fun q hq => ?_⟩
    have s := same_upd hq (.lst vs)
    exact p1 _ W1 _ (Le.grow s) (k1.st.grow s) (mk_lst k1.st r1 hq)
  · rw [if_neg hz] at p1; exact p1.elim

/-! ### operators -/
theorem ee_bin {o : Operator} {r : R2} {op : PyData → PyData → Option PyData} (hr : OpR X (binaryOp o) r) (ho : Op2 (CC X ct ex) r op) (ha : PE X a (tE (CC X ct ex) f)) (hb : PE X b (tE (CC X ct ex) g)) : PE X (.BinOp a o b pos) (tE (CC X ct ex) (eD2 op f g)) :=
  PE.imp (pe_op hr ha hb) fun _ _ _ h => bin_read ho h
theorem ee_un {o : UnaryOp} {r : V → Hp → VK → Prop} {op : PyData → Option PyData} (hr : UnR X (unaryOp o) r) (ho : Op1 (CC X ct ex) r op) (ha : PE X a (tE (CC X ct ex) f)) : PE X (.UnaryOp o a pos) (tE (CC X ct ex) (eD1 op f)) :=
  PE.imp (pe_un hr ha) fun _ _ _ h => un_read ho h
theorem ee_cmp {o : CmpOp} {r : R2} {op : PyData → PyData → Option PyData} (hr : OpR X (compareOp o) r) (ho : Op2 (CC X ct ex) r op) (ha : PE X a (tE (CC X ct ex) f)) (hb : PE X b (tE (CC X ct ex) g)) (hm : behindInMarks o b = false) : PE X (.Compare a [o] [b] pos) (tE (CC X ct ex) (eD2 op f g)) :=
  PE.imp (pe_cmpR hr ha hb hm) fun _ _ _ h => bin_read ho h
/-- the reading of a test by a bool -/
theorem test_read {t : TE} (ht : ∀ σ H Q, tE (CC X ct ex) f σ H Q → t σ H Q) {σ : L2.St} {H : Hp} {Q : Bool → Hp → Prop} (h : tB (CC X ct ex) (eT f) σ H Q) : tTest t σ H Q := by
  obtain ⟨W, ρ, S, k, p⟩ := h
  refine ht σ H _ ?_
  refine tE_B k p fun v w W1 S1 H1 k1 r1 p1 => ?_
  cases r1 with
  | d q =>
    cases q with
    | bl c => exact ⟨c, rfl, p1 W1 H1 (Le.refl _ _) k1.st⟩
    | _ => exact p1.elim
  | _ => exact p1.elim
theorem tt_cmp {o : CmpOp} {r : R2} {op : PyData → PyData → Option PyData} (hr : OpR X (compareOp o) r) (ho : Op2 (CC X ct ex) r op) (ha : PE X a (tE (CC X ct ex) f)) (hb : PE X b (tE (CC X ct ex) g)) (hm : behindInMarks o b = false) : PT X (.Compare a [o] [b] pos) (tB (CC X ct ex) (eT (eD2 op f g))) :=
  PT.imp (pt_cmpR hr ha hb hm) fun _ _ _ h => test_read (fun _ _ _ h => bin_read ho h) h
end
end PL

/-! # PL, part C: the operations -/
namespace PL
open PySem PySem.Spec PyProof.Rows L2

/-! ### what stands for ints, bools, texts alone -/
def intsOf : List PyData → Option (List Int)
  | [] => some []
  | .int i :: r => match intsOf r with
    | some l => some (i :: l)
    | none => none
  | _ :: _ => none
def blsOf : List PyData → Option (List Bool)
  | [] => some []
  | .bool i :: r => match blsOf r with
    | some l => some (i :: l)
    | none => none
  | _ :: _ => none
theorem intsOf_eq : ∀ {ds : List PyData} {ns : List Int}, intsOf ds = some ns → ds = ns.map .int
  | [], _, h => by cases h; rfl
  | d :: r, ns, h => by
    cases d with
    | int i =>
      unfold intsOf at h
      cases e : intsOf r with
      | none => rw [e] at h; cases h
      | some l =>
        rw [e] at h
        have h' : some (i :: l) = some ns := h
        cases h'
        rw [intsOf_eq e]; rfl
    | _ => cases h
theorem intsOf_map : ∀ ns : List Int, intsOf (ns.map .int) = some ns
  | [] => rfl
  | i :: ns => by
    show (match intsOf (ns.map .int) with | some l => some (i :: l) | none => none) = _
    rw [intsOf_map ns]
theorem blsOf_eq : ∀ {ds : List PyData} {ns : List Bool}, blsOf ds = some ns → ds = ns.map .bool
  | [], _, h => by cases h; rfl
  | d :: r, ns, h => by
    cases d with
    | bool i =>
      unfold blsOf at h
      cases e : blsOf r with
      | none => rw [e] at h; cases h
      | some l =>
        rw [e] at h
        have h' : some (i :: l) = some ns := h
        cases h'
        rw [blsOf_eq e]; rfl
    | _ => cases h
theorem blsOf_map : ∀ ns : List Bool, blsOf (ns.map .bool) = some ns
  | [] => rfl
  | i :: ns => by
    show (match blsOf (ns.map .bool) with | some l => some (i :: l) | none => none) = _
    rw [blsOf_map ns]
theorem dpInts {K : PySem.W.Frag} {H : Hp} : ∀ {ns : List Int} {vs : List V}, DpAll K H vs (ns.map .int) → vs = ns.map V.int
  | [], _, h => by cases h; rfl
  | n :: ns, _, h => by
    cases h with
    | cons r t => cases r; rw [dpInts t]; rfl
theorem dpBls {K : PySem.W.Frag} {H : Hp} : ∀ {ns : List Bool} {vs : List V}, DpAll K H vs (ns.map .bool) → vs = ns.map V.bl
  | [], _, h => by cases h; rfl
  | n :: ns, _, h => by
    cases h with
    | cons r t => cases r; rw [dpBls t]; rfl

/-! ### values of operations -/
section
variable {C : Cn} {W : Wd} {S : Store} {H : Hp} {Q : VK}
/-- a flat value, the heap as it was -/
theorem DQ.flat {y : PyData} {v : V} (q : DQ C W H y Q) (h : ∀ H, Dp C.K H v y) : Q v H := q v H (Same.refl H) (h _)
theorem DQ.here {y : PyData} {v : V} (q : DQ C W H y Q) (h : Dp C.K (mask W.Z H) v y) : Q v H := q v H (Same.refl H) h
theorem DQ.tup {ys : List PyData} {vs : List V} {p : Addr} (q : DQ C W H (.tuple ys) Q) (st : StOk C W S H) (h : DpAll C.K (mask W.Z H) vs ys) (hp : H p = none) : Q (.ref p) (upd H p (.tup vs)) := by
  have s := same_upd hp (.tup vs)
  exact q _ _ s (.tup (SqT.of (mask_of (st.fresh hp) upd_same)) (DpAll.same (Le.grow (W := W) s).msame _ _ h))
theorem DQ.lst {ys : List PyData} {vs : List V} {p : Addr} (q : DQ C W H (.list ys) Q) (st : StOk C W S H) (h : DpAll C.K (mask W.Z H) vs ys) (hp : H p = none) : Q (.ref p) (upd H p (.lst vs)) := by
  have s := same_upd hp (.lst vs)
  exact q _ _ s (.lst (SqL.of (mask_of (st.fresh hp) upd_same)) (DpAll.same (Le.grow (W := W) s).msame _ _ h))
end


section
variable {X : Cx} {ct : Str → Addr} {ex : WX}
/-! ### + -/
def rCatL (K : PySem.W.Frag) : R2 := fun x y H Q => ∃ l b xs zs, x = .ref l ∧ y = .ref b ∧ SqL K H l xs ∧ SqL K H b zs ∧ xs.length + zs.length ≤ sizeLine ∧ ∀ p, H p = none → Q (.ref p) (upd H p (.lst (xs ++ zs)))
theorem op_catL : OpR X (binaryOp .Add) (rCatL X.K) := by
  intro pins s σ H x y v u Q I rx ry h
  obtain ⟨l, b, xs, zs, rfl, rfl, hH, hB, hz, q⟩ := h
  cases rx
  cases ry
  obtain ⟨its, r, p1, z1⟩ := I.list hH
  obtain ⟨its2, r2, p2, z2⟩ := I.list hB
  obtain ⟨⟨cls, dd, data, sl⟩, ho, hc, n, hd⟩ := id p1.isList
  obtain ⟨⟨cls2, dd2, data2, sl2⟩, ho2, hc2, n2, hd2⟩ := id p2.isList
  simp only at hc hd hc2 hd2
  subst hc hd hc2 hd2
  have e : its.toArray ++ its2.toArray = (its ++ its2).toArray := by simp
  have l1 := r.length
  have l2 := r2.length
  refine concat_meets ⟨_, ho, rfl⟩ ⟨_, ho2, rfl⟩ noFill_list_add seq_list_add PySem.F.slot_list_add PySem.F.entry_list_add (PySem.F.args_list_add_2 _ _) (list_addW l b its.toArray its2.toArray n n2 dd dd2 sl sl2 (by simp only [List.size_toArray]; omega)) ⟨ho, ho2, ?_⟩
  rw [e]
  exact ⟨.ref _, _, I.lnew (t' := s.toks) (r.append r2) (by rw [List.length_append]; omega), rfl, q _ I.fresh⟩
def oAdd : PyData → PyData → Option PyData
  | .int i, .int j => some (.int (i + j))
  | .str a, .str b => if a.length + b.length ≤ LINE then some (.str (a ++ b)) else none
  | .tuple xs, .tuple ys => if xs.length + ys.length ≤ LINE then some (.tuple (xs ++ ys)) else none
  | .list xs, .list ys => if xs.length + ys.length ≤ LINE then some (.list (xs ++ ys)) else none
  | _, _ => none
def rAddA (K : PySem.W.Frag) : R2 := fun x y H Q =>
  rI0 (fun i j => .int (i + j)) x y H Q ∨ ((∃ i j, x = .str i ∧ y = .str j ∧ i.length + j.length ≤ sizeLine ∧ Q (.str (i ++ j)) H) ∨ (rCatA K x y H Q ∨ rCatL K x y H Q))
theorem op_addA : OpR X (binaryOp .Add) (rAddA X.K) := op_add.or (op_add_str.or (op_catA.or op_catL))
theorem ok_add : Op2 (CC X ct ex) (rAddA X.K) oAdd := by
  intro W S H u v x y z Q st hx hy e q
  cases x with
  | int i =>
    cases y <;> first | (cases e; done) | skip
    cases hx; cases hy; cases e
    exact .inl ⟨_, _, rfl, rfl, q.flat fun _ => .int _⟩
  | str a =>
    cases y <;> first | (cases e; done) | skip
    rename_i b
    cases hx; cases hy
    by_cases hz : a.length + b.length ≤ LINE
    · have e' : some (PyData.str (a ++ b)) = some z := by rw [← e]; show _ = (if _ then _ else _); rw [if_pos hz]
      cases e'
      exact .inr (.inl ⟨_, _, rfl, rfl, by rw [line_eq]; exact hz, q.flat fun _ => .str _⟩)
    · have e' : none = some z := by rw [← e]; show _ = (if _ then _ else _); rw [if_neg hz]
      cases e'
  | tuple xs =>
    cases y <;> first | (cases e; done) | skip
    rename_i ys
    by_cases hz : xs.length + ys.length ≤ LINE
    · have e' : some (PyData.tuple (xs ++ ys)) = some z := by rw [← e]; show _ = (if _ then _ else _); rw [if_pos hz]
      cases e'
      cases hx with
      | tup h1 h2 =>
        cases hy with
        | tup h3 h4 =>
          refine .inr (.inr (.inl ⟨_, _, _, _, rfl, rfl, Same.seqT (mask_same _ _) h1, Same.seqT (mask_same _ _) h3, by rw [DpAll.length h2, DpAll.length h4, line_eq]; exact hz, fun e0 => ?_, fun _ e0 => ?_, fun _ _ p hp => ?_⟩))
          · subst e0
            cases h2
            exact q.here (.tup h3 h4)
          · subst e0
            cases h4
            rw [List.append_nil] at q
            exact q.here (.tup h1 h2)
          · exact q.tup st (DpAll.append h2 h4) hp
    · have e' : none = some z := by rw [← e]; show _ = (if _ then _ else _); rw [if_neg hz]
      cases e'
  | list xs =>
    cases y <;> first | (cases e; done) | skip
    rename_i ys
    by_cases hz : xs.length + ys.length ≤ LINE
    · have e' : some (PyData.list (xs ++ ys)) = some z := by rw [← e]; show _ = (if _ then _ else _); rw [if_pos hz]
      cases e'
      obtain ⟨a, vs, rfl, h1, h2⟩ := hx
      obtain ⟨b, us, rfl, h3, h4⟩ := hy
      exact .inr (.inr (.inr ⟨_, _, _, _, rfl, rfl, h1, h3, by rw [DpAll.length h2, DpAll.length h4, line_eq]; exact hz, fun p hp => q.lst st (DpAll.append h2 h4) hp⟩))
    · have e' : none = some z := by rw [← e]; show _ = (if _ then _ else _); rw [if_neg hz]
      cases e'
  | _ => cases e

/-! ### ints -/
theorem ok_int {r : R2} {C0 : Int → Int → Prop} [∀ i j, Decidable (C0 i j)] {g : Int → Int → Int} (hr : ∀ i j H Q, C0 i j → Q (.int (g i j)) H → r (.int i) (.int j) H Q) :
    Op2 (CC X ct ex) r (fun x y => match x, y with | .int i, .int j => if C0 i j then some (.int (g i j)) else none | _, _ => none) := by
  intro W S H u v x y z Q st hx hy e q
  cases x with
  | int i =>
    cases y <;> first | (cases e; done) | skip
    rename_i j
    cases hx; cases hy
    have e0 : (if C0 i j then some (PyData.int (g i j)) else none) = some z := e
    by_cases hc : C0 i j
    · rw [if_pos hc] at e0; cases e0
      exact hr i j H Q hc (q.flat fun _ => .int _)
    · rw [if_neg hc] at e0; cases e0
  | _ => cases e
def oSub : PyData → PyData → Option PyData
  | .int i, .int j => some (.int (i - j))
  | _, _ => none
theorem ok_sub : Op2 (CC X ct ex) (rI0 fun i j => .int (i - j)) oSub := by
  intro W S H u v x y z Q st hx hy e q
  cases x with
  | int i =>
    cases y <;> first | (cases e; done) | skip
    cases hx; cases hy; cases e
    exact ⟨_, _, rfl, rfl, q.flat fun _ => .int _⟩
  | _ => cases e
def oMod : PyData → PyData → Option PyData := fun x y => match x, y with | .int i, .int j => if 0 < j then some (.int (i % j)) else none | _, _ => none
theorem ok_mod : Op2 (CC X ct ex) (rI (fun _ j => 0 < j) fun i j => .int (i % j)) oMod := ok_int (C0 := fun _ j => 0 < j) fun i j H Q hc q => ⟨i, j, rfl, rfl, hc, q⟩
def oDiv : PyData → PyData → Option PyData := fun x y => match x, y with | .int i, .int j => if 0 < j ∧ j < 1073741824 then some (.int (i / j)) else none | _, _ => none
theorem ok_div : Op2 (CC X ct ex) (rI CDiv fun i j => .int (i / j)) oDiv := ok_int (C0 := fun _ j => 0 < j ∧ j < 1073741824) fun i j H Q hc q => ⟨i, j, rfl, rfl, hc, q⟩
def oNeg : PyData → Option PyData
  | .int i => some (.int (-i))
  | _ => none
theorem ok_neg : Op1 (CC X ct ex) (rU fun i => .int (-i)) oNeg := by
  intro W S H v x y Q st hx e q
  cases x with
  | int i => cases hx; cases e; exact ⟨_, rfl, q.flat fun _ => .int _⟩
  | _ => cases e
/-! ### order -/
def oLt : PyData → PyData → Option PyData
  | .int i, .int j => some (.bool (decide (i < j)))
  | .str i, .str j => some (.bool (decide (i.cps.toList < j.cps.toList)))
  | _, _ => none
def rLtA : R2 := fun x y H Q => rI0 (fun i j => .bl (decide (i < j))) x y H Q ∨ ∃ i j, x = .str i ∧ y = .str j ∧ Q (.bl (decide (i.cps.toList < j.cps.toList))) H
theorem op_ltA : OpR X (compareOp .Lt) rLtA := op_lt.or op_lt_str
theorem ok_lt : Op2 (CC X ct ex) rLtA oLt := by
  intro W S H u v x y z Q st hx hy e q
  cases x with
  | int i =>
    cases y <;> first | (cases e; done) | skip
    cases hx; cases hy; cases e
    exact .inl ⟨_, _, rfl, rfl, q.flat fun _ => .bl _⟩
  | str i =>
    cases y <;> first | (cases e; done) | skip
    cases hx; cases hy; cases e
    exact .inr ⟨_, _, rfl, rfl, q.flat fun _ => .bl _⟩
  | _ => cases e
def oLe : PyData → PyData → Option PyData
  | .int i, .int j => some (.bool (decide (i ≤ j)))
  | .str i, .str j => some (.bool (!decide (j.cps.toList < i.cps.toList)))
  | _, _ => none
def rLeA : R2 := fun x y H Q => rI0 (fun i j => .bl (decide (i ≤ j))) x y H Q ∨ ∃ i j, x = .str i ∧ y = .str j ∧ Q (.bl (!decide (j.cps.toList < i.cps.toList))) H
theorem op_leA : OpR X (compareOp .LtE) rLeA := op_le.or op_le_str
theorem ok_le : Op2 (CC X ct ex) rLeA oLe := by
  intro W S H u v x y z Q st hx hy e q
  cases x with
  | int i =>
    cases y <;> first | (cases e; done) | skip
    cases hx; cases hy; cases e
    exact .inl ⟨_, _, rfl, rfl, q.flat fun _ => .bl _⟩
  | str i =>
    cases y <;> first | (cases e; done) | skip
    cases hx; cases hy; cases e
    exact .inr ⟨_, _, rfl, rfl, q.flat fun _ => .bl _⟩
  | _ => cases e
theorem ok_cmpI {g : Int → Int → Bool} : Op2 (CC X ct ex) (rI0 fun i j => .bl (g i j)) (fun x y => match x, y with | .int i, .int j => some (.bool (g i j)) | _, _ => none) := by
  intro W S H u v x y z Q st hx hy e q
  cases x with
  | int i =>
    cases y <;> first | (cases e; done) | skip
    cases hx; cases hy; cases e
    exact ⟨_, _, rfl, rfl, q.flat fun _ => .bl _⟩
  | _ => cases e
def oGt : PyData → PyData → Option PyData := fun x y => match x, y with | .int i, .int j => some (.bool (decide (j < i))) | _, _ => none
def oGe : PyData → PyData → Option PyData := fun x y => match x, y with | .int i, .int j => some (.bool (decide (j ≤ i))) | _, _ => none
theorem ok_gt : Op2 (CC X ct ex) (rI0 fun i j => .bl (decide (j < i))) oGt := ok_cmpI
theorem ok_ge : Op2 (CC X ct ex) (rI0 fun i j => .bl (decide (j ≤ i))) oGe := ok_cmpI
/-! ### ==, != -/
def eqD (x y : PyData) : Option Bool := match x, y with
  | .int i, .int j => some (decide (i = j))
  | .str i, .str j => some (decide (i = j))
  | .bool i, .bool j => some (decide (i = j))
  | x, y => if SeqAt.shaped x = true ∧ SeqAt.shaped y = true then some (PyData.eqv x y) else none
def oEq (x y : PyData) : Option PyData := (eqD x y).map .bool
def oNe (x y : PyData) : Option PyData := (eqD x y).map fun b => .bool (!b)
theorem eqD_cases {x y : PyData} {b : Bool} (h : eqD x y = some b) : (∃ i j, x = .int i ∧ y = .int j ∧ b = decide (i = j)) ∨ (∃ i j, x = .str i ∧ y = .str j ∧ b = decide (i = j)) ∨ (∃ i j, x = .bool i ∧ y = .bool j ∧ b = decide (i = j)) ∨
    (SeqAt.shaped x = true ∧ SeqAt.shaped y = true ∧ b = PyData.eqv x y) := by
  unfold eqD at h
  split at h
  · cases h; exact .inl ⟨_, _, rfl, rfl, rfl⟩
  · cases h; exact .inr (.inl ⟨_, _, rfl, rfl, rfl⟩)
  · cases h; exact .inr (.inr (.inl ⟨_, _, rfl, rfl, rfl⟩))
  · split at h
    · rename_i hs; cases h; exact .inr (.inr (.inr ⟨hs.1, hs.2, rfl⟩))
    · cases h
theorem mapO {α β : Type} {x : Option α} {f : α → β} {y : β} (h : x.map f = some y) : ∃ a, x = some a ∧ f a = y := by
  cases x with
  | none => cases h
  | some a => exact ⟨a, rfl, Option.some.inj h⟩
def rEqA (K : PySem.W.Frag) : R2 := fun x y H Q => rEq x y H Q ∨ rEqD K x y H Q
def rNeA (K : PySem.W.Frag) : R2 := fun x y H Q => rNe x y H Q ∨ rNeD K x y H Q
theorem op_eqA (hu : X.A.units + 64 < cLine) : OpR X (compareOp .Eq) (rEqA X.K) := op_eq.or (op_eqD hu)
theorem op_neA (hu : X.A.units + 64 < cLine) : OpR X (compareOp .NotEq) (rNeA X.K) := op_ne.or (op_neD hu)
theorem ok_eq : Op2 (CC X ct ex) (rEqA X.K) oEq := by
  intro W S H u v x y z Q st hx hy e q
  obtain ⟨b, e1, rfl⟩ := mapO e
  rcases eqD_cases e1 with ⟨i, j, rfl, rfl, rfl⟩ | ⟨i, j, rfl, rfl, rfl⟩ | ⟨i, j, rfl, rfl, rfl⟩ | ⟨h1, h2, rfl⟩
  · cases hx; cases hy
    refine .inl ⟨rfl, ?_⟩
    have : decide (V.int i = V.int j) = decide (i = j) := by rw [dec_int]; by_cases h : i = j <;> simp [h]
    rw [this]
    exact q.flat fun _ => .bl _
  · cases hx; cases hy
    refine .inl ⟨rfl, ?_⟩
    have : decide (V.str i = V.str j) = decide (i = j) := by rw [dec_str]; by_cases h : i = j <;> simp [h]
    rw [this]
    exact q.flat fun _ => .bl _
  · cases hx; cases hy
    refine .inl ⟨rfl, ?_⟩
    have : decide (V.bl i = V.bl j) = decide (i = j) := by rw [dec_bl]; by_cases h : i = j <;> simp [h]
    rw [this]
    exact q.flat fun _ => .bl _
  · exact .inr ⟨x, y, hx.dp, hy.dp, h1, h2, q.flat fun _ => .bl _⟩
theorem ok_ne : Op2 (CC X ct ex) (rNeA X.K) oNe := by
  intro W S H u v x y z Q st hx hy e q
  obtain ⟨b, e1, rfl⟩ := mapO e
  rcases eqD_cases e1 with ⟨i, j, rfl, rfl, rfl⟩ | ⟨i, j, rfl, rfl, rfl⟩ | ⟨i, j, rfl, rfl, rfl⟩ | ⟨h1, h2, rfl⟩
  · cases hx; cases hy
    refine .inl ⟨rfl, ?_⟩
    have : decide (V.int i = V.int j) = decide (i = j) := by rw [dec_int]; by_cases h : i = j <;> simp [h]
    rw [this]
    exact q.flat fun _ => .bl _
  · cases hx; cases hy
    refine .inl ⟨rfl, ?_⟩
    have : decide (V.str i = V.str j) = decide (i = j) := by rw [dec_str]; by_cases h : i = j <;> simp [h]
    rw [this]
    exact q.flat fun _ => .bl _
  · cases hx; cases hy
    refine .inl ⟨rfl, ?_⟩
    have : decide (V.bl i = V.bl j) = decide (i = j) := by rw [dec_bl]; by_cases h : i = j <;> simp [h]
    rw [this]
    exact q.flat fun _ => .bl _
  · exact .inr ⟨x, y, hx.dp, hy.dp, h1, h2, q.flat fun _ => .bl _⟩
/-! ### in, not in -/
def inD (x y : PyData) : Option Bool := match y with
  | .str j => match x with
    | .str i => some (!(Builtin.Str.occurrences j i 0 j.length 1).isEmpty)
    | _ => none
  | .list ds => if SeqAt.shaped x = true ∧ SeqAt.shaped (.list ds) = true then some (ds.any fun z => PyData.eqv z x) else none
  | .tuple ds => if SeqAt.shaped x = true ∧ SeqAt.shaped (.tuple ds) = true then some (ds.any fun z => PyData.eqv z x) else none
  | _ => none
def oIn (x y : PyData) : Option PyData := (inD x y).map .bool
def oNotIn (x y : PyData) : Option PyData := (inD x y).map fun b => .bool (!b)
def rInT (K : PySem.W.Frag) : R2 := fun x y H Q => ∃ d ds, Dp K H x d ∧ Dp K H y (.tuple ds) ∧ SeqAt.shaped d = true ∧ SeqAt.shaped (.tuple ds) = true ∧ Q (.bl (ds.any fun z => PyData.eqv z d)) H
def rNotInT (K : PySem.W.Frag) : R2 := fun x y H Q => ∃ d ds, Dp K H x d ∧ Dp K H y (.tuple ds) ∧ SeqAt.shaped d = true ∧ SeqAt.shaped (.tuple ds) = true ∧ Q (.bl (!ds.any fun z => PyData.eqv z d)) H
theorem op_inT (hu : X.A.units + 65 < cLine) : OpR X (compareOp .In) (rInT X.K) := by
  intro pins s σ H x y v u Q I rx ry h
  obtain ⟨d, ds, hd, he, sd, se, q⟩ := h
  obtain ⟨as, r1⟩ := Dp.reads I d x v hd rx
  obtain ⟨bs, r2⟩ := Dp.reads I (.tuple ds) y u he ry
  exact SeqAt.in_tuple_reads r2 r1 (SeqAt.canLay_of_shaped se) (SeqAt.canLay_of_shaped sd) (room_in_shaped sd hu) ⟨.bl _, H, I, rfl, q⟩
theorem op_notInT (hu : X.A.units + 65 < cLine) : OpR X (compareOp .NotIn) (rNotInT X.K) := by
  intro pins s σ H x y v u Q I rx ry h
  obtain ⟨d, ds, hd, he, sd, se, q⟩ := h
  obtain ⟨as, r1⟩ := Dp.reads I d x v hd rx
  obtain ⟨bs, r2⟩ := Dp.reads I (.tuple ds) y u he ry
  exact SeqAt.notIn_tuple_reads r2 r1 (SeqAt.canLay_of_shaped se) (SeqAt.canLay_of_shaped sd) (room_in_shaped sd hu) ⟨.bl _, H, I, rfl, q⟩
def rInA (K : PySem.W.Frag) : R2 := fun x y H Q => (∃ i j, x = .str i ∧ y = .str j ∧ Q (.bl (!(Builtin.Str.occurrences j i 0 j.length 1).isEmpty)) H) ∨ (rInD K x y H Q ∨ rInT K x y H Q)
def rNotInA (K : PySem.W.Frag) : R2 := fun x y H Q => (∃ i j, x = .str i ∧ y = .str j ∧ Q (.bl (!(!(Builtin.Str.occurrences j i 0 j.length 1).isEmpty))) H) ∨ (rNotInD K x y H Q ∨ rNotInT K x y H Q)
theorem op_inA (hu : X.A.units + 65 < cLine) : OpR X (compareOp .In) (rInA X.K) := op_in_str.or ((op_inD hu).or (op_inT hu))
theorem op_notInA (hu : X.A.units + 65 < cLine) : OpR X (compareOp .NotIn) (rNotInA X.K) := op_notIn_str.or ((op_notInD hu).or (op_notInT hu))
theorem inD_cases {x y : PyData} {b : Bool} (h : inD x y = some b) : (∃ i j, x = .str i ∧ y = .str j ∧ b = !(Builtin.Str.occurrences j i 0 j.length 1).isEmpty) ∨
    (∃ ds, y = .list ds ∧ SeqAt.shaped x = true ∧ SeqAt.shaped (.list ds) = true ∧ b = ds.any fun z => PyData.eqv z x) ∨ (∃ ds, y = .tuple ds ∧ SeqAt.shaped x = true ∧ SeqAt.shaped (.tuple ds) = true ∧ b = ds.any fun z => PyData.eqv z x) := by
  unfold inD at h
  cases y with
  | str j =>
    dsimp only at h
    cases x <;> first | (cases h; done) | skip
    cases h; exact .inl ⟨_, _, rfl, rfl, rfl⟩
  | list ds =>
    dsimp only at h
    split at h
    · rename_i hs; cases h; exact .inr (.inl ⟨_, rfl, hs.1, hs.2, rfl⟩)
    · cases h
  | tuple ds =>
    dsimp only at h
    split at h
    · rename_i hs; cases h; exact .inr (.inr ⟨_, rfl, hs.1, hs.2, rfl⟩)
    · cases h
  | _ => cases h
theorem ok_in : Op2 (CC X ct ex) (rInA X.K) oIn := by
  intro W S H u v x y z Q st hx hy e q
  obtain ⟨b, e1, rfl⟩ := mapO e
  rcases inD_cases e1 with ⟨i, j, rfl, rfl, rfl⟩ | ⟨ds, rfl, h1, h2, rfl⟩ | ⟨ds, rfl, h1, h2, rfl⟩
  · cases hx; cases hy
    exact .inl ⟨_, _, rfl, rfl, q.flat fun _ => .bl _⟩
  · exact .inr (.inl ⟨x, ds, hx.dp, hy.dp, h1, h2, q.flat fun _ => .bl _⟩)
  · exact .inr (.inr ⟨x, ds, hx.dp, hy.dp, h1, h2, q.flat fun _ => .bl _⟩)
theorem ok_notIn : Op2 (CC X ct ex) (rNotInA X.K) oNotIn := by
  intro W S H u v x y z Q st hx hy e q
  obtain ⟨b, e1, rfl⟩ := mapO e
  rcases inD_cases e1 with ⟨i, j, rfl, rfl, rfl⟩ | ⟨ds, rfl, h1, h2, rfl⟩ | ⟨ds, rfl, h1, h2, rfl⟩
  · cases hx; cases hy
    exact .inl ⟨_, _, rfl, rfl, q.flat fun _ => .bl _⟩
  · exact .inr (.inl ⟨x, ds, hx.dp, hy.dp, h1, h2, q.flat fun _ => .bl _⟩)
  · exact .inr (.inr ⟨x, ds, hx.dp, hy.dp, h1, h2, q.flat fun _ => .bl _⟩)
end
end PL

/-! # PL, part D: subscripts, built-in functions and methods -/
namespace PL
open PySem PySem.Spec PyProof.Rows L2
section
variable {X : Cx} {ct : Str → Addr} {ex : WX} {e a b o : Expr} {es : List Expr} {f g : Ef} {fl : Lf} {pos apos p : Pos}

/-! ### x[i] -/
theorem atI_map {α β : Type} (h : α → β) (xs : List α) (i : Int) : atI (xs.map h) i = (atI xs i).map h := by
  unfold atI
  rw [List.length_map]
  cases ixN xs.length i with
  | none => rfl
  | some j => simp
theorem atI_len {α β : Type} {xs : List α} {ys : List β} {i : Int} {y : β} (hl : xs.length = ys.length) (h : atI ys i = some y) : ∃ j : Nat, ys[j]? = some y ∧ ∀ x, xs[j]? = some x → atI xs i = some x := by
  unfold atI at *
  rw [hl]
  cases e : ixN ys.length i with
  | none => rw [e] at h; cases h
  | some j => rw [e] at h; exact ⟨j, h, fun x hx => hx⟩
def oIx : PyData → PyData → Option PyData
  | .tuple xs, .int i => atI xs i
  | .list xs, .int i => atI xs i
  | .str z, .int i => if z.length ≤ LINE then (atI z.cps.toList i).map fun c => .str ⟨#[c]⟩ else none
  | _, _ => none
def ixW (S : Store) : Wv → Wv → Option Wv
  | .d x, .d y => match oIx x y with
    | some z => some (.d z)
    | none => none
  | .sq _ l, .d (.int i) => atI l i
  | .o k, .d (.int i) => match S[k]? with
    | some (.lst l) => atI l i
    | _ => none
  | _, _ => none
def wOf (r : Option Wv) (S : Store) : Res Wv := match r with
  | some w => .ok w S
  | none => .bad
def eIx (f g : Ef) : Ef := fun ρ S => (f ρ S).bind fun x S1 => (g ρ S1).bind fun y S2 => wOf (ixW S2 x y) S2
theorem ix_ok {W : Wd} {S : Store} {H : Hp} {u v : V} {x y z : Wv} {Q : VK} (st : StOk (CC X ct ex) W S H) (rx : RW X.K W H u x) (ry : RW X.K W H v y) (e : ixW S x y = some z) (q : ∀ v, RW X.K W H v z → Q v H) : rIx X.K u v H Q := by
  cases rx with
  | @d u dx hx =>
    cases y <;> first | (cases e; done) | skip
    rename_i dy
    have e0 : (match oIx dx dy with | some z => some (Wv.d z) | none => none) = some z := e
    cases e1 : oIx dx dy with
    | none => rw [e1] at e0; cases e0
    | some dz =>
      rw [e1] at e0; cases e0
      cases ry with
      | d hy =>
        cases dx with
        | tuple xs =>
          cases dy <;> first | (cases e1; done) | skip
          cases hy
          cases hx with
          | tup h1 h2 =>
            obtain ⟨j, g1, g2⟩ := atI_len (DpAll.length h2) e1
            obtain ⟨w, g3, g4⟩ := DpAll.get h2 g1
            exact .inr (.inl ⟨_, _, _, w, rfl, rfl, Same.seqT (mask_same _ _) h1, g2 w g3, q w (.d g4)⟩)
        | list xs =>
          cases dy <;> first | (cases e1; done) | skip
          cases hy
          cases hx with
          | lst h1 h2 =>
            obtain ⟨j, g1, g2⟩ := atI_len (DpAll.length h2) e1
            obtain ⟨w, g3, g4⟩ := DpAll.get h2 g1
            exact .inl ⟨_, _, _, w, rfl, rfl, (mask_same _ _).seq h1, g2 w g3, q w (.d g4)⟩
        | str s =>
          cases dy <;> first | (cases e1; done) | skip
          rename_i i
          cases hy; cases hx
          have e2 : (if s.length ≤ LINE then (atI s.cps.toList i).map (fun c => PyData.str ⟨#[c]⟩) else none) = some dz := e1
          by_cases hz : s.length ≤ LINE
          · rw [if_pos hz] at e2
            obtain ⟨c, h1, rfl⟩ := mapO e2
            exact .inr (.inr ⟨_, _, c, rfl, rfl, by rw [line_eq]; exact hz, h1, q _ (.d (.str _))⟩)
          · rw [if_neg hz] at e2; cases e2
        | _ => cases e1
  | @o k a hk =>
    cases y <;> first | (cases e; done) | skip
    rename_i dy
    cases dy <;> first | (cases e; done) | skip
    rename_i i
    cases ry with
    | d hy =>
      cases hy
      have e0 : (match S[k]? with | some (.lst l) => atI l i | _ => none) = some z := e
      cases e1 : S[k]? with
      | none => rw [e1] at e0; cases e0
      | some m =>
        rw [e1] at e0
        cases m <;> first | (cases e0; done) | skip
        rename_i l
        obtain ⟨_, uu, hu, mr⟩ := st.here k a _ hk e1 (by intro z; cases z)
        cases uu with
        | lst vs =>
          have mr' : RWs X.K W H vs l := mr
          obtain ⟨j, g1, g2⟩ := atI_len mr'.length e0
          obtain ⟨w, g3, g4⟩ := mr'.get g1
          exact .inl ⟨_, _, _, w, rfl, rfl, SqL.of hu, g2 w g3, q w g4⟩
        | _ => exact False.elim mr
  | @sl a vs l hm hr =>
    cases y <;> first | (cases e; done) | skip
    rename_i dy
    cases dy <;> first | (cases e; done) | skip
    cases ry with
    | d hy =>
      cases hy
      obtain ⟨j, g1, g2⟩ := atI_len hr.length e
      obtain ⟨w, g3, g4⟩ := hr.get g1
      exact .inl ⟨_, _, _, w, rfl, rfl, SqL.of (mask_some hm).2, g2 w g3, q w g4⟩
  | @st a vs l hm hr =>
    cases y <;> first | (cases e; done) | skip
    rename_i dy
    cases dy <;> first | (cases e; done) | skip
    cases ry with
    | d hy =>
      cases hy
      obtain ⟨j, g1, g2⟩ := atI_len hr.length e
      obtain ⟨w, g3, g4⟩ := hr.get g1
      exact .inr (.inl ⟨_, _, _, w, rfl, rfl, SqT.of (mask_some hm).2, g2 w g3, q w g4⟩)
theorem ee_ix (ha : PE X a (tE (CC X ct ex) f)) (hb : PE X b (tE (CC X ct ex) g)) (hs : PlainIx b := by exact fun _ _ => rfl) : PE X (.Subscript a b pos) (tE (CC X ct ex) (eIx f g)) := by
  refine PE.imp (pe_ix ix_seq ha hb hs) fun σ H Q ⟨W, ρ, S, k, p⟩ => ?_
  refine tE_E k p fun u x W1 S1 H1 k1 r1 p1 => ?_
  refine ⟨W1, ρ, S1, k1, ?_⟩
  cases e0 : g ρ S1 with
  | ok y S2 =>
    rw [e0] at p1
    intro v W2 H2 l st r2
    have p2 : PostR (CC X ct ex) W1 σ H1 (wOf (ixW S2 x y) S2) Q := p1
    cases e1 : ixW S2 x y with
    | none => rw [e1] at p2; exact p2.elim
    | some z =>
      rw [e1] at p2
      exact ix_ok st (RW.le l _ _ r1) r2 e1 fun w rw => p2 w W2 H2 l st rw
  | exc x S2 => rw [e0] at p1; exact p1
  | bad => rw [e0] at p1; exact p1

/-! ### x[lo:hi] -/
abbrev Of := En → Store → Res (Option Int)
def PostO (C : Cn) (W : Wd) (σ : L2.St) (H : Hp) (r : Res (Option Int)) (Q : Option Int → Hp → Prop) : Prop := match r with
  | .ok b S => ∀ W' H', Le W H W' H' → StOk C W' S H' → Q b H'
  | .exc c S => ∀ W' H', Le W H W' H' → StOk C W' S H' → C.ex (.ref (C.ct c)) none σ H'
  | .bad => False
def tO (C : Cn) (f : Of) : TO := fun σ H Q => ∃ W ρ S, Ok C W ρ S σ H ∧ PostO C W σ H (f ρ S) Q
def oNo : Of := fun _ S => .ok none S
def oYes (f : Ef) : Of := fun ρ S => (f ρ S).bind fun w S1 => match w with
  | .d (.int i) => .ok (some i) S1
  | _ => .bad
theorem oo_none : PO X none (tO (CC X ct ex) oNo) := by
  refine ⟨fun pins s σ H Q I h => po_none.run pins s σ H Q I ?_⟩
  obtain ⟨W, ρ, S, k, p⟩ := h
  exact p W H (Le.refl _ _) k.st
theorem oo_some (h : PE X e (tE (CC X ct ex) f)) : PO X (some e) (tO (CC X ct ex) (oYes f)) := by
  refine ⟨fun pins s σ H Q I hw => (po_some h).run pins s σ H Q I ?_⟩
  obtain ⟨W, ρ, S, k, p⟩ := hw
  refine ⟨W, ρ, S, k, ?_⟩
  unfold oYes at p
  cases e0 : f ρ S with
  | ok w S1 =>
    rw [e0] at p
    intro v W1 H1 l st r
    cases w with
    | d x =>
      cases x <;> first | exact p.elim | skip
      cases r with
      | d q => cases q; exact ⟨_, rfl, p W1 H1 l st⟩
    | _ => exact p.elim
  | exc x S1 => rw [e0] at p; exact p
  | bad => rw [e0] at p; exact p
def cut {α : Type} (xs : List α) (lo hi : Option Int) : List α := (xs.drop (HT.sIx xs.length 0 lo)).take (HT.sIx xs.length xs.length hi - HT.sIx xs.length 0 lo)
def oSl : PyData → Option Int → Option Int → Option PyData
  | .tuple xs, lo, hi => some (.tuple (cut xs lo hi))
  | .list xs, lo, hi => some (.list (cut xs lo hi))
  | .str z, lo, hi => if z.length ≤ LINE then some (.str (cutS z lo hi)) else none
  | _, _, _ => none
def eSl (f : Ef) (lo hi : Of) : Ef := fun ρ S => (f ρ S).bind fun x S1 => (lo ρ S1).bind fun l S2 => (hi ρ S2).bind fun h S3 => rOf ((asD S3 x).bind fun d => oSl d l h) S3
def rSlX (K : PySem.W.Frag) : V → Option Int → Option Int → Hp → VK → Prop := fun x lo hi H Q => rSlA K x lo hi H Q ∨ (rSlL K x lo hi H Q ∨ rSlS x lo hi H Q)
theorem cut_dp {K : PySem.W.Frag} {H : Hp} {vs : List V} {xs : List PyData} (h : DpAll K H vs xs) (lo hi : Option Int) : DpAll K H (cutV vs lo hi) (cut xs lo hi) := by
  unfold cutV cut
  rw [DpAll.length h]
  exact DpAll.take _ (DpAll.drop _ h)
theorem cut_whole {α : Type} (xs : List α) (lo hi : Option Int) (h : HT.sIx xs.length 0 lo = 0 ∧ HT.sIx xs.length xs.length hi = xs.length) : cut xs lo hi = xs := by
  unfold cut
  rw [h.1, h.2]
  simp
theorem sl_ok {W : Wd} {S : Store} {H : Hp} {v : V} {x y : PyData} {lo hi : Option Int} {Q : VK} (st : StOk (CC X ct ex) W S H) (hx : DT X.K W H v x) (e : oSl x lo hi = some y) (q : DQ (CC X ct ex) W H y Q) : rSlX X.K v lo hi H Q := by
  cases x with
  | tuple xs =>
    cases e
    cases hx with
    | tup h1 h2 =>
      refine .inl ⟨_, _, rfl, Same.seqT (mask_same _ _) h1, fun hw => ?_, fun _ p hp => q.tup st (cut_dp h2 lo hi) hp⟩
      rw [DpAll.length h2] at hw
      rw [cut_whole _ _ _ hw] at q
      exact q.here (.tup h1 h2)
  | list xs =>
    cases e
    obtain ⟨a, vs, rfl, h1, h2⟩ := hx
    exact .inr (.inl ⟨_, _, rfl, h1, fun p hp => q.lst st (cut_dp h2 lo hi) hp⟩)
  | str z =>
    cases hx
    have e0 : (if z.length ≤ LINE then some (PyData.str (cutS z lo hi)) else none) = some y := e
    by_cases hz : z.length ≤ LINE
    · rw [if_pos hz] at e0; cases e0
      exact .inr (.inr ⟨_, rfl, by rw [line_eq]; exact hz, q.flat fun _ => .str _⟩)
    · rw [if_neg hz] at e0; cases e0
  | _ => cases e
theorem ee_sl {lo hi : Option Expr} {l h : Of} {p2 : Pos} (ha : PE X a (tE (CC X ct ex) f)) (hl : PO X lo (tO (CC X ct ex) l)) (hh : PO X hi (tO (CC X ct ex) h)) : PE X (.Subscript a (.Slice lo hi none p2) pos) (tE (CC X ct ex) (eSl f l h)) := by
  refine PE.imp (pe_slice (sl_tupA.or (sl_list.or sl_str)) ha hl hh) fun σ H Q ⟨W, ρ, S, k, p⟩ => ?_
  refine tE_E k p fun u x W1 S1 H1 k1 r1 p1 => ?_
  refine ⟨W1, ρ, S1, k1, ?_⟩
  cases e0 : l ρ S1 with
  | ok lv S2 =>
    rw [e0] at p1
    intro W2 H2 l2 st2
    refine ⟨W2, ρ, S2, k1.le l2 st2, ?_⟩
    have p1' : PostR (CC X ct ex) W1 σ H1 ((h ρ S2).bind fun hv S3 => rOf ((asD S3 x).bind fun d => oSl d lv hv) S3) Q := p1
    cases e1 : h ρ S2 with
    | ok hv S3 =>
      rw [e1] at p1'
      intro W3 H3 l3 st3
      have l13 := l2.trans l3
      obtain ⟨y, e2, q⟩ := rOf_post st3 (PostR.le l13 p1')
      obtain ⟨d, e3, e4⟩ := bindO e2
      exact sl_ok st3 (asD_dt st3 (RW.le l13 _ _ r1) e3) e4 q
    | exc c S3 => rw [e1] at p1'; exact fun W' H' m => p1' W' H' (l2.trans m)
    | bad => rw [e1] at p1'; exact p1'
  | exc c S2 => rw [e0] at p1; exact p1
  | bad => rw [e0] at p1; exact p1

/-! ### built-in functions of one list of arguments -/
theorem ee_callB {x : Str} {id : String} {r : List V → Hp → VK → Prop} {op : List PyData → Option PyData} (hc : CallR X (.builtin id) r) (ho : OpN (CC X ct ex) r op) (hm : X.mg x = none) (hv : bootBuiltins x = some (.builtin id)) (ha : PA X (e :: es) (tL (CC X ct ex) fl)) (hg : Gl X x := by rfl)
    (hn : x ≠ "__name__" := by decide) (hdb : (x == ("__debug__" : Str)) = false := by decide) (he : starEach (e :: es) X.env = (false, eval e X.env) :: starEach es X.env := by rfl) (hpl : (backTo pos (starEach es X.env)).any (·.1) = false := by rfl) :
    PE X (.Call (.Name x p) (e :: es) [] pos) (tE (CC X ct ex) (eDN op fl)) :=
  PE.imp (pe_callB hc hg hm hv ha hn hdb he hpl) fun _ _ _ h => args_read ho h
theorem ee_callTy {x : Str} {T : String} {r : List V → Hp → VK → Prop} {op : List PyData → Option PyData} (hc : CallR X (.type T) r) (ho : OpN (CC X ct ex) r op) (hm : X.mg x = none) (hv : bootBuiltins x = some (.type T)) (ha : PA X (e :: es) (tL (CC X ct ex) fl)) (hg : Gl X x := by rfl)
    (hn : x ≠ "__name__" := by decide) (hdb : (x == ("__debug__" : Str)) = false := by decide) (he : starEach (e :: es) X.env = (false, eval e X.env) :: starEach es X.env := by rfl) (hpl : (backTo pos (starEach es X.env)).any (·.1) = false := by rfl) :
    PE X (.Call (.Name x p) (e :: es) [] pos) (tE (CC X ct ex) (eDN op fl)) :=
  PE.imp (pe_callTy hc hg hm hv ha hn hdb he hpl) fun _ _ _ h => args_read ho h
theorem DTs.one {K : PySem.W.Frag} {W : Wd} {H : Hp} {vs : List V} {x : PyData} (h : DTs K W H vs [x]) : ∃ v, vs = [v] ∧ DT K W H v x := by
  cases h with
  | cons a t => cases t; exact ⟨_, rfl, a⟩
theorem DTs.two {K : PySem.W.Frag} {W : Wd} {H : Hp} {vs : List V} {x y : PyData} (h : DTs K W H vs [x, y]) : ∃ v u, vs = [v, u] ∧ DT K W H v x ∧ DT K W H u y := by
  cases h with
  | cons a t => cases t with
    | cons b t => cases t; exact ⟨_, _, rfl, a, b⟩
/-- an operation of one argument, by cases on it -/
theorem opN_one {r : List V → Hp → VK → Prop} {o1 : PyData → Option PyData} (h : ∀ W S H v x y Q, StOk (CC X ct ex) W S H → DT X.K W H v x → o1 x = some y → DQ (CC X ct ex) W H y Q → r [v] H Q) :
    OpN (CC X ct ex) r (fun l => match l with | [x] => o1 x | _ => none) := by
  intro W S H vs xs z Q st hv e q
  match xs, e with
  | [x], e =>
    obtain ⟨v, rfl, hx⟩ := DTs.one hv
    exact h W S H v x z Q st hx e q
theorem opN_two {r : List V → Hp → VK → Prop} {o2 : PyData → PyData → Option PyData} (h : ∀ W S H v u x x' y Q, StOk (CC X ct ex) W S H → DT X.K W H v x → DT X.K W H u x' → o2 x x' = some y → DQ (CC X ct ex) W H y Q → r [v, u] H Q) :
    OpN (CC X ct ex) r (fun l => match l with | [x, x'] => o2 x x' | _ => none) := by
  intro W S H vs xs z Q st hv e q
  match xs, e with
  | [x, x'], e =>
    obtain ⟨v, u, rfl, hx, hy⟩ := DTs.two hv
    exact h W S H v u x x' z Q st hx hy e q
def o1 (o : PyData → Option PyData) : List PyData → Option PyData := fun l => match l with | [x] => o x | _ => none
def o2 (o : PyData → PyData → Option PyData) : List PyData → Option PyData := fun l => match l with | [x, x'] => o x x' | _ => none
/-- len -/
def oLen : PyData → Option PyData
  | .tuple xs => some (.int xs.length)
  | .list xs => some (.int xs.length)
  | .str z => if z.length ≤ LINE then some (.int z.length) else none
  | _ => none
theorem ok_len : OpN (CC X ct ex) (fun xs H Q => (∃ p ys, xs = [.ref p] ∧ (SqL X.K H p ys ∨ SqT X.K H p ys) ∧ Q (.int ys.length) H) ∨ ∃ z, xs = [.str z] ∧ z.length ≤ sizeLine ∧ Q (.int z.length) H) (o1 oLen) := opN_one fun W S H v x y Q st hx e q => by
  cases x with
  | tuple xs =>
    cases e
    cases hx with
    | tup h1 h2 =>
      refine .inl ⟨_, _, rfl, .inr (Same.seqT (mask_same _ _) h1), ?_⟩
      rw [DpAll.length h2]
      exact q.flat fun _ => .int _
  | list xs =>
    cases e
    obtain ⟨a, vs, rfl, h1, h2⟩ := hx
    refine .inl ⟨_, _, rfl, .inl h1, ?_⟩
    rw [DpAll.length h2]
    exact q.flat fun _ => .int _
  | str z =>
    cases hx
    have e0 : (if z.length ≤ LINE then some (PyData.int z.length) else none) = some y := e
    by_cases hz : z.length ≤ LINE
    · rw [if_pos hz] at e0; cases e0
      exact .inr ⟨_, rfl, by rw [line_eq]; exact hz, q.flat fun _ => .int _⟩
    · rw [if_neg hz] at e0; cases e0
  | _ => cases e
theorem ee_len (hm : X.mg "len" = none) (ha : PA X (e :: es) (tL (CC X ct ex) fl)) (hg : Gl X "len" := by rfl) (he : starEach (e :: es) X.env = (false, eval e X.env) :: starEach es X.env := by rfl) (hpl : (backTo pos (starEach es X.env)).any (·.1) = false := by rfl) :
    PE X (.Call (.Name "len" p) (e :: es) [] pos) (tE (CC X ct ex) (eDN (o1 oLen) fl)) := ee_callB (call_len_seq.or call_len_str) ok_len hm PySem.boot_len ha hg (by decide) (by decide) he hpl
/-- tuple(x), list(x) of a list, a tuple -/
def oTuple : PyData → Option PyData
  | .tuple xs => some (.tuple xs)
  | .list xs => some (.tuple xs)
  | _ => none
def oList : PyData → Option PyData
  | .tuple xs => some (.list xs)
  | .list xs => some (.list xs)
  | _ => none
theorem ok_tuple : OpN (CC X ct ex) (fun xs H Q => ∃ p ys, xs = [.ref p] ∧ ((SqL X.K H p ys ∧ ∀ l, H l = none → Q (.ref l) (upd H l (.tup ys))) ∨ (SqT X.K H p ys ∧ Q (.ref p) H))) (o1 oTuple) := opN_one fun W S H v x y Q st hx e q => by
  cases x with
  | tuple xs =>
    cases e
    cases hx with
    | tup h1 h2 => exact ⟨_, _, rfl, .inr ⟨Same.seqT (mask_same _ _) h1, q.here (.tup h1 h2)⟩⟩
  | list xs =>
    cases e
    obtain ⟨a, vs, rfl, h1, h2⟩ := hx
    exact ⟨_, _, rfl, .inl ⟨h1, fun l hl => q.tup st h2 hl⟩⟩
  | _ => cases e
theorem ok_list : OpN (CC X ct ex) (fun xs H Q => ∃ p ys, xs = [.ref p] ∧ (SqL X.K H p ys ∨ SqT X.K H p ys) ∧ ∀ l, H l = none → Q (.ref l) (upd H l (.lst ys))) (o1 oList) := opN_one fun W S H v x y Q st hx e q => by
  cases x with
  | tuple xs =>
    cases e
    cases hx with
    | tup h1 h2 => exact ⟨_, _, rfl, .inr (Same.seqT (mask_same _ _) h1), fun l hl => q.lst st h2 hl⟩
  | list xs =>
    cases e
    obtain ⟨a, vs, rfl, h1, h2⟩ := hx
    exact ⟨_, _, rfl, .inl h1, fun l hl => q.lst st h2 hl⟩
  | _ => cases e
theorem ee_tuple (hm : X.mg "tuple" = none) (ha : PA X (e :: es) (tL (CC X ct ex) fl)) (hg : Gl X "tuple" := by rfl) (he : starEach (e :: es) X.env = (false, eval e X.env) :: starEach es X.env := by rfl) (hpl : (backTo pos (starEach es X.env)).any (·.1) = false := by rfl) :
    PE X (.Call (.Name "tuple" p) (e :: es) [] pos) (tE (CC X ct ex) (eDN (o1 oTuple) fl)) := ee_callTy call_tuple_of ok_tuple hm (by decide +kernel) ha hg (by decide) (by decide) he hpl
theorem ee_list (hm : X.mg "list" = none) (ha : PA X (e :: es) (tL (CC X ct ex) fl)) (hg : Gl X "list" := by rfl) (he : starEach (e :: es) X.env = (false, eval e X.env) :: starEach es X.env := by rfl) (hpl : (backTo pos (starEach es X.env)).any (·.1) = false := by rfl) :
    PE X (.Call (.Name "list" p) (e :: es) [] pos) (tE (CC X ct ex) (eDN (o1 oList) fl)) := ee_callTy call_list_of ok_list hm (by decide +kernel) ha hg (by decide) (by decide) he hpl
/-- sum of ints -/
def oSum : PyData → Option PyData
  | .list xs => match intsOf xs with
    | some ns => some (.int ns.sum)
    | none => none
  | .tuple xs => match intsOf xs with
    | some ns => some (.int ns.sum)
    | none => none
  | _ => none
def rSumT (K : PySem.W.Frag) : List V → Hp → VK → Prop := fun vs H Q => ∃ (a : Addr) (ns : List Int), vs = [V.ref a] ∧ SqT K H a (ns.map V.int) ∧ Q (.int ns.sum) H
theorem cr_sumT (hc : X.calm = true) : CallR X (.builtin "sum") (rSumT X.K) := by
  intro pins s σ H vs us Q I r h
  obtain ⟨a, ns, rfl, hs, q⟩ := h
  obtain ⟨its, rv, ht, _⟩ := I.tuple hs
  rw [Vals.ref1 r]
  obtain ⟨xs, hx⟩ := rv.ints.allInts.items
  have hn : numsOf its.toArray.toList = ns := by rw [show its.toArray.toList = its from rfl, rv.ints.numsOf]
  rw [hx] at hn ht
  rw [nums_intItems] at hn
  refine PySem.W.ktm_sumG (I.ok.hd hc) ht fun h' tk t' hk => ?_
  rw [preSum_eq, List.take_of_length_le (by simp), hn]
  exact ⟨.int _, H, I.kept hk, ⟨_, rfl⟩, q⟩
theorem ok_sum : OpN (CC X ct ex) (fun vs H Q => rSum X.K vs H Q ∨ rSumT X.K vs H Q) (o1 oSum) := opN_one fun W S H v x y Q st hx e q => by
  cases x with
  | tuple xs =>
    have e0 : (match intsOf xs with | some ns => some (PyData.int ns.sum) | none => none) = some y := e
    cases e1 : intsOf xs with
    | none => rw [e1] at e0; cases e0
    | some ns =>
      rw [e1] at e0; cases e0
      have e2 := intsOf_eq e1
      subst e2
      cases hx with
      | tup h1 h2 =>
        have e3 := dpInts h2
        subst e3
        exact .inr ⟨_, ns, rfl, Same.seqT (mask_same _ _) h1, q.flat fun _ => .int _⟩
  | list xs =>
    have e0 : (match intsOf xs with | some ns => some (PyData.int ns.sum) | none => none) = some y := e
    cases e1 : intsOf xs with
    | none => rw [e1] at e0; cases e0
    | some ns =>
      rw [e1] at e0; cases e0
      have e2 := intsOf_eq e1
      subst e2
      obtain ⟨a, vs, rfl, h1, h2⟩ := hx
      have e3 := dpInts h2
      subst e3
      exact .inl ⟨_, ns, rfl, h1, q.flat fun _ => .int _⟩
  | _ => cases e
theorem ee_sum (hm : X.mg "sum" = none) (hc : X.calm = true) (ha : PA X (e :: es) (tL (CC X ct ex) fl)) (hg : Gl X "sum" := by rfl) (he : starEach (e :: es) X.env = (false, eval e X.env) :: starEach es X.env := by rfl) (hpl : (backTo pos (starEach es X.env)).any (·.1) = false := by rfl) :
    PE X (.Call (.Name "sum" p) (e :: es) [] pos) (tE (CC X ct ex) (eDN (o1 oSum) fl)) := ee_callB ((cr_sum hc).or (cr_sumT hc)) ok_sum hm (by decide +kernel) ha hg (by decide) (by decide) he hpl
/-- all, any of bools -/
def oAll : PyData → Option PyData
  | .list xs => match blsOf xs with
    | some ns => some (.bool (ns.all id))
    | none => none
  | _ => none
def oAny : PyData → Option PyData
  | .list xs => match blsOf xs with
    | some ns => some (.bool (ns.any id))
    | none => none
  | _ => none
theorem ok_all : OpN (CC X ct ex) (rAll X.K) (o1 oAll) := opN_one fun W S H v x y Q st hx e q => by
  cases x with
  | list xs =>
    have e0 : (match blsOf xs with | some ns => some (PyData.bool (ns.all id)) | none => none) = some y := e
    cases e1 : blsOf xs with
    | none => rw [e1] at e0; cases e0
    | some ns =>
      rw [e1] at e0; cases e0
      have e2 := blsOf_eq e1
      subst e2
      obtain ⟨a, vs, rfl, h1, h2⟩ := hx
      have e3 := dpBls h2
      subst e3
      exact ⟨_, ns, rfl, h1, q.flat fun _ => .bl _⟩
  | _ => cases e
theorem ok_any : OpN (CC X ct ex) (rAny X.K) (o1 oAny) := opN_one fun W S H v x y Q st hx e q => by
  cases x with
  | list xs =>
    have e0 : (match blsOf xs with | some ns => some (PyData.bool (ns.any id)) | none => none) = some y := e
    cases e1 : blsOf xs with
    | none => rw [e1] at e0; cases e0
    | some ns =>
      rw [e1] at e0; cases e0
      have e2 := blsOf_eq e1
      subst e2
      obtain ⟨a, vs, rfl, h1, h2⟩ := hx
      have e3 := dpBls h2
      subst e3
      exact ⟨_, ns, rfl, h1, q.flat fun _ => .bl _⟩
  | _ => cases e
theorem ee_all (hm : X.mg "all" = none) (hc : X.calm = true) (ha : PA X (e :: es) (tL (CC X ct ex) fl)) (hg : Gl X "all" := by rfl) (he : starEach (e :: es) X.env = (false, eval e X.env) :: starEach es X.env := by rfl) (hpl : (backTo pos (starEach es X.env)).any (·.1) = false := by rfl) :
    PE X (.Call (.Name "all" p) (e :: es) [] pos) (tE (CC X ct ex) (eDN (o1 oAll) fl)) := ee_callB (cr_all hc) ok_all hm (by decide +kernel) ha hg (by decide) (by decide) he hpl
theorem ee_any (hm : X.mg "any" = none) (hc : X.calm = true) (ha : PA X (e :: es) (tL (CC X ct ex) fl)) (hg : Gl X "any" := by rfl) (he : starEach (e :: es) X.env = (false, eval e X.env) :: starEach es X.env := by rfl) (hpl : (backTo pos (starEach es X.env)).any (·.1) = false := by rfl) :
    PE X (.Call (.Name "any" p) (e :: es) [] pos) (tE (CC X ct ex) (eDN (o1 oAny) fl)) := ee_callB (cr_any hc) ok_any hm (by decide +kernel) ha hg (by decide) (by decide) he hpl
end
end PL

/-! # PL, part E: tests, statements, loops, comprehensions -/
namespace PL
open PySem PySem.Spec PyProof.Rows L2
section
variable {X : Cx} {ct : Str → Addr} {ex : WX} {e a b c : Expr} {es rest : List Expr} {f g h : Ef} {t u : Bf} {fl : Lf} {pos apos p : Pos}

/-! ### truth -/
def truW (S : Store) : Wv → Option Bool
  | .d .none => some false
  | .d (.bool b) => some b
  | .d (.int i) => some (i != 0)
  | .d (.str z) => if z.length ≤ LINE then some ((z.length : Int) != 0) else none
  | .d (.list xs) => some (!xs.isEmpty)
  | .d (.tuple xs) => some (!xs.isEmpty)
  | .sq _ l => some (!l.isEmpty)
  | .o k => match S[k]? with
    | some (.lst l) => some (!l.isEmpty)
    | some (.dct l) => some (!l.isEmpty)
    | _ => none
  | .d (.dict _) => none
theorem isE_of {α β : Type} {xs : List α} {ys : List β} (h : xs.length = ys.length) : (!xs.isEmpty) = !ys.isEmpty := by
  cases xs <;> cases ys <;> first | rfl | (simp at h)
theorem tru_of {W : Wd} {S : Store} {H : Hp} {v : V} {w : Wv} {k : Bool} (st : StOk (CC X ct ex) W S H) (r : RW X.K W H v w) (e : truW S w = some k) : TruV X.K v H k := by
  cases r with
  | @d v x q =>
    cases q with
    | non => cases e; rfl
    | bl b => cases e; rfl
    | int i => cases e; rfl
    | str z =>
      have e0 : (if z.length ≤ LINE then some ((z.length : Int) != 0) else none) = some k := e
      by_cases hz : z.length ≤ LINE
      · rw [if_pos hz] at e0; cases e0
        exact ⟨by rw [line_eq]; exact hz, rfl⟩
      · rw [if_neg hz] at e0; cases e0
    | lst h1 h2 => cases e; exact .inl ⟨_, (mask_same _ _).seq h1, isE_of (DpAll.length h2).symm⟩
    | tup h1 h2 => cases e; exact .inr (.inl ⟨_, Same.seqT (mask_same _ _) h1, isE_of (DpAll.length h2).symm⟩)
  | @o k' a q =>
    have e0 : (match S[k']? with | some (.lst l) => some (!l.isEmpty) | some (.dct l) => some (!l.isEmpty) | _ => none) = some k := e
    cases e1 : S[k']? with
    | none => rw [e1] at e0; cases e0
    | some m =>
      rw [e1] at e0
      cases m with
      | lst l =>
        cases e0
        obtain ⟨_, uu, hu, mr⟩ := st.here k' a _ q e1 (by intro z; cases z)
        cases uu with
        | lst vs =>
          have mr' : RWs X.K W H vs l := mr
          exact .inl ⟨_, SqL.of hu, isE_of mr'.length.symm⟩
        | _ => exact False.elim mr
      | dct l =>
        cases e0
        obtain ⟨_, uu, hu, mr⟩ := st.here k' a _ q e1 (by intro z; cases z)
        cases uu with
        | dK vs =>
          have mr' : FsR X.K W H vs l := mr
          exact .inr (.inr ⟨_, hu, isE_of (Paired.length mr').symm⟩)
        | _ => exact False.elim mr
      | _ => cases e0
  | sl hm hr => cases e; exact .inl ⟨_, SqL.of (mask_some hm).2, isE_of hr.length.symm⟩
  | st hm hr => cases e; exact .inr (.inl ⟨_, SqT.of (mask_some hm).2, isE_of hr.length.symm⟩)
def bTr (f : Ef) : Bf := fun ρ S => (f ρ S).bind fun w S1 => bOf (truW S1 w) S1
theorem tt_tru (ha : PE X a (tE (CC X ct ex) f)) (he : ∀ whole, isTrue a X.env whole = (do let v ← whole; standAt a.pos; holding [v] (truthy v)) := by intro _; rfl) : PT X a (tB (CC X ct ex) (bTr f)) := by
  refine PT.imp (pt_truth ha he) fun σ H Q ⟨W, ρ, S, k, q⟩ => ?_
  refine tE_B k q fun v w W1 S1 H1 k1 r1 p1 => ?_
  cases e0 : truW S1 w with
  | none => rw [e0] at p1; exact p1.elim
  | some b => rw [e0] at p1; exact ⟨b, tru_of k1.st r1 e0, p1 W1 H1 (Le.refl _ _) k1.st⟩
/-! ### chains of comparisons -/
def eChain (op op' : PyData → PyData → Option PyData) (f g h : Ef) : Ef := fun ρ S => (f ρ S).bind fun a S1 => (g ρ S1).bind fun b S2 =>
  match (asD S2 a).bind fun x => (asD S2 b).bind fun y => op x y with
  | some (.bool true) => (h ρ S2).bind fun c S3 => rOf ((asD S3 b).bind fun y => (asD S3 c).bind fun z => op' y z) S3
  | some (.bool false) => .ok (.d (.bool false)) S2
  | _ => .bad
theorem chain_read {r r' : R2} {op op' : PyData → PyData → Option PyData} (ho : Op2 (CC X ct ex) r op) (ho' : Op2 (CC X ct ex) r' op') {σ : L2.St} {H : Hp} {Q : VK} (q : tE (CC X ct ex) (eChain op op' f g h) σ H Q) :
    tChain r r' (tE (CC X ct ex) f) (tE (CC X ct ex) g) (tE (CC X ct ex) h) σ H Q := by
  obtain ⟨W, ρ, S, k, p⟩ := q
  refine tE_E k p fun u x W1 S1 H1 k1 r1 p1 => ?_
  refine ⟨W1, ρ, S1, k1, ?_⟩
  cases e0 : g ρ S1 with
  | ok y S2 =>
    rw [e0] at p1
    intro v W2 H2 l st r2
    have p2 : PostR (CC X ct ex) W1 σ H1 (match (asD S2 x).bind fun x => (asD S2 y).bind fun y => op x y with
      | some (.bool true) => (h ρ S2).bind fun c S3 => rOf ((asD S3 y).bind fun y => (asD S3 c).bind fun z => op' y z) S3
      | some (.bool false) => .ok (.d (.bool false)) S2
      | _ => .bad) Q := p1
    cases e1 : ((asD S2 x).bind fun x => (asD S2 y).bind fun y => op x y) with
    | none => rw [e1] at p2; exact p2.elim
    | some z =>
      rw [e1] at p2
      cases z <;> first | exact p2.elim | skip
      rename_i kk
      obtain ⟨x1, e2, e3⟩ := bindO e1
      obtain ⟨x2, e4, e5⟩ := bindO e3
      have r1' := RW.le l _ _ r1
      refine ho W2 S2 H2 u v x1 x2 _ _ st (asD_dt st r1' e2) (asD_dt st r2 e4) e5 fun vz H3 s3 dz => ?_
      cases dz
      refine ⟨kk, rfl, ?_⟩
      have l3 := Le.grow (W := W2) s3
      have st3 := st.grow s3
      have k3 := (k1.le l st).le l3 st3
      cases kk with
      | false =>
        rw [if_neg Bool.false_ne_true]
        exact p2 _ W2 H3 (l.trans l3) st3 (.d (.bl _))
      | true =>
        rw [if_pos rfl]
        refine ⟨W2, ρ, S2, k3, ?_⟩
        cases e6 : h ρ S2 with
        | ok wc S4 =>
          rw [e6] at p2
          intro vc W4 H4 l4 st4 r4
          obtain ⟨yy, e7, q7⟩ := rOf_post st4 (PostR.le ((l.trans l3).trans l4) p2)
          obtain ⟨y1, e8, e9⟩ := bindO e7
          obtain ⟨y2, e10, e11⟩ := bindO e9
          exact ho' W4 S4 H4 v vc y1 y2 yy Q st4 (asD_dt st4 (RW.le (l3.trans l4) _ _ r2) e8) (asD_dt st4 r4 e10) e11 q7
        | exc x S4 => rw [e6] at p2; exact fun W' H' m => p2 W' H' ((l.trans l3).trans m)
        | bad => rw [e6] at p2; exact p2
  | exc x S2 => rw [e0] at p1; exact p1
  | bad => rw [e0] at p1; exact p1
theorem ee_chain {o o' : CmpOp} {r r' : R2} {op op' : PyData → PyData → Option PyData} (hr : OpR X (compareOp o) r) (hr' : OpR X (compareOp o') r') (ho : Op2 (CC X ct ex) r op) (ho' : Op2 (CC X ct ex) r' op') (ha : PE X a (tE (CC X ct ex) f)) (hb : PE X b (tE (CC X ct ex) g)) (hc : PE X c (tE (CC X ct ex) h))
    (hm : lastMarks [o, o'] [b, c] = false := by with_unfolding_all rfl) : PE X (.Compare a [o, o'] [b, c] pos) (tE (CC X ct ex) (eChain op op' f g h)) := PE.imp (pe_chain hr hr' ha hb hc hm) fun _ _ _ q => chain_read ho ho' q
theorem tt_chain {o o' : CmpOp} {r r' : R2} {op op' : PyData → PyData → Option PyData} (hr : OpR X (compareOp o) r) (hr' : OpR X (compareOp o') r') (ho : Op2 (CC X ct ex) r op) (ho' : Op2 (CC X ct ex) r' op') (ha : PE X a (tE (CC X ct ex) f)) (hb : PE X b (tE (CC X ct ex) g)) (hc : PE X c (tE (CC X ct ex) h))
    (hm : lastMarks [o, o'] [b, c] = false := by with_unfolding_all rfl) : PT X (.Compare a [o, o'] [b, c] pos) (tB (CC X ct ex) (eT (eChain op op' f g h))) := PT.imp (pt_chain hr hr' ha hb hc hm) fun _ _ _ q => test_read (fun _ _ _ q => chain_read ho ho' q) q

/-! ### not, and, or -/
def bNot (f : Bf) : Bf := fun ρ S => (f ρ S).bind fun b S1 => .ok (!b) S1
def bAnd (f g : Bf) : Bf := fun ρ S => (f ρ S).bind fun b S1 => if b = true then g ρ S1 else .ok false S1
def bOr (f g : Bf) : Bf := fun ρ S => (f ρ S).bind fun b S1 => if b = true then .ok true S1 else g ρ S1
theorem tt_not (ha : PT X a (tB (CC X ct ex) t)) : PT X (.UnaryOp .Not a pos) (tB (CC X ct ex) (bNot t)) := by
  refine PT.imp (pt_not ha) fun σ H Q ⟨W, ρ, S, k, q⟩ => ?_
  refine tB_B k q fun w W1 S1 H1 k1 p1 => ?_
  exact p1 W1 H1 (Le.refl _ _) k1.st
theorem ww_and1 (ha : PT X a (tB (CC X ct ex) t)) : PW X (.BoolOp .And [a] pos) (tB (CC X ct ex) t) := pw_and1 ha
theorem ww_or1 (ha : PT X a (tB (CC X ct ex) t)) : PW X (.BoolOp .Or [a] pos) (tB (CC X ct ex) t) := pw_or1 ha
theorem ww_and (ha : PT X a (tB (CC X ct ex) t)) (hb : PW X (.BoolOp .And (b :: rest) pos) (tB (CC X ct ex) u)) : PW X (.BoolOp .And (a :: b :: rest) pos) (tB (CC X ct ex) (bAnd t u)) := by
  refine PW.imp (pw_and ha hb) fun σ H Q ⟨W, ρ, S, k, q⟩ => ?_
  refine tB_B k q fun w W1 S1 H1 k1 p1 => ?_
  cases w with
  | true => rw [if_pos rfl] at p1 ⊢; exact ⟨W1, ρ, S1, k1, p1⟩
  | false => rw [if_neg Bool.false_ne_true] at p1 ⊢; exact p1 W1 H1 (Le.refl _ _) k1.st
theorem ww_or (ha : PT X a (tB (CC X ct ex) t)) (hb : PW X (.BoolOp .Or (b :: rest) pos) (tB (CC X ct ex) u)) : PW X (.BoolOp .Or (a :: b :: rest) pos) (tB (CC X ct ex) (bOr t u)) := by
  refine PW.imp (pw_or ha hb) fun σ H Q ⟨W, ρ, S, k, q⟩ => ?_
  refine tB_B k q fun w W1 S1 H1 k1 p1 => ?_
  cases w with
  | false => rw [if_neg Bool.false_ne_true] at p1 ⊢; exact ⟨W1, ρ, S1, k1, p1⟩
  | true => rw [if_pos rfl] at p1 ⊢; exact p1 W1 H1 (Le.refl _ _) k1.st
theorem tt_w {e : Expr} (h : PW X e (tB (CC X ct ex) t)) : PT X e (tB (CC X ct ex) t) := h.pt
/-- as values -/
def eNot (f : Ef) : Ef := fun ρ S => (f ρ S).bind fun w S1 => match truW S1 w with
  | some b => .ok (.d (.bool (!b))) S1
  | none => .bad
def eAnd (f g : Ef) : Ef := fun ρ S => (f ρ S).bind fun w S1 => match truW S1 w with
  | some b => if b = true then g ρ S1 else .ok w S1
  | none => .bad
def eOr (f g : Ef) : Ef := fun ρ S => (f ρ S).bind fun w S1 => match truW S1 w with
  | some b => if b = true then .ok w S1 else g ρ S1
  | none => .bad
theorem ee_not (ha : PE X a (tE (CC X ct ex) f)) : PE X (.UnaryOp .Not a pos) (tE (CC X ct ex) (eNot f)) := by
  refine PE.imp (pe_notT ha) fun σ H Q ⟨W, ρ, S, k, q⟩ => ?_
  refine tE_E k q fun v w W1 S1 H1 k1 r1 p1 => ?_
  cases e0 : truW S1 w with
  | none => rw [e0] at p1; exact p1.elim
  | some b => rw [e0] at p1; exact ⟨b, tru_of k1.st r1 e0, p1 _ W1 H1 (Le.refl _ _) k1.st (.d (.bl _))⟩
theorem ee_one {o : BoolOp} (ha : PE X a (tE (CC X ct ex) f)) : PE X (.BoolOp o [a] pos) (tE (CC X ct ex) f) := pe_one ha
theorem ee_and (ha : PE X a (tE (CC X ct ex) f)) (hb : PE X (.BoolOp .And (b :: rest) pos) (tE (CC X ct ex) g)) : PE X (.BoolOp .And (a :: b :: rest) pos) (tE (CC X ct ex) (eAnd f g)) := by
  refine PE.imp (pe_andT ha hb) fun σ H Q ⟨W, ρ, S, k, q⟩ => ?_
  refine tE_E k q fun v w W1 S1 H1 k1 r1 p1 => ?_
  cases e0 : truW S1 w with
  | none => rw [e0] at p1; exact p1.elim
  | some b =>
    rw [e0] at p1
    refine ⟨b, tru_of k1.st r1 e0, ?_⟩
    cases b with
    | true => exact ⟨W1, ρ, S1, k1, p1⟩
    | false => exact p1 v W1 H1 (Le.refl _ _) k1.st r1
theorem ee_or (ha : PE X a (tE (CC X ct ex) f)) (hb : PE X (.BoolOp .Or (b :: rest) pos) (tE (CC X ct ex) g)) : PE X (.BoolOp .Or (a :: b :: rest) pos) (tE (CC X ct ex) (eOr f g)) := by
  refine PE.imp (pe_orT ha hb) fun σ H Q ⟨W, ρ, S, k, q⟩ => ?_
  refine tE_E k q fun v w W1 S1 H1 k1 r1 p1 => ?_
  cases e0 : truW S1 w with
  | none => rw [e0] at p1; exact p1.elim
  | some b =>
    rw [e0] at p1
    refine ⟨b, tru_of k1.st r1 e0, ?_⟩
    cases b with
    | false => exact ⟨W1, ρ, S1, k1, p1⟩
    | true => exact p1 v W1 H1 (Le.refl _ _) k1.st r1
def eIf (t : Bf) (f g : Ef) : Ef := fun ρ S => (t ρ S).bind fun b S1 => if b = true then f ρ S1 else g ρ S1
theorem ee_if (hc : PT X c (tB (CC X ct ex) t)) (ha : PE X a (tE (CC X ct ex) f)) (hb : PE X b (tE (CC X ct ex) g)) : PE X (.IfExp c a b pos) (tE (CC X ct ex) (eIf t f g)) := by
  refine PE.imp (pe_ifExp hc ha hb) fun σ H Q ⟨W, ρ, S, k, q⟩ => ?_
  refine tB_E k q fun w W1 S1 H1 k1 p1 => ?_
  cases w with
  | true => rw [if_pos rfl] at p1 ⊢; exact ⟨W1, ρ, S1, k1, p1⟩
  | false => rw [if_neg Bool.false_ne_true] at p1 ⊢; exact ⟨W1, ρ, S1, k1, p1⟩
/-- is None -/
def isNW : Wv → Bool
  | .d .none => true
  | _ => false
def eIsN (f : Ef) : Ef := fun ρ S => (f ρ S).bind fun w S1 => .ok (.d (.bool (isNW w))) S1
def eNotN (f : Ef) : Ef := fun ρ S => (f ρ S).bind fun w S1 => .ok (.d (.bool (!isNW w))) S1
theorem isN_of {W : Wd} {H : Hp} {v : V} {w : Wv} (r : RW X.K W H v w) : decide (v = .non) = isNW w := by
  cases r with
  | d q => cases q <;> first | rfl | (exact decide_eq_false (by intro z; cases z))
  | _ => exact decide_eq_false (by intro z; cases z)
theorem isN_read {σ : L2.St} {H : Hp} {Q : VK} (q : tE (CC X ct ex) (eIsN f) σ H Q) : tIsN (tE (CC X ct ex) f) σ H Q := by
  obtain ⟨W, ρ, S, k, p⟩ := q
  refine tE_E k p fun v w W1 S1 H1 k1 r1 p1 => ?_
  rw [isN_of r1]
  exact p1 _ W1 H1 (Le.refl _ _) k1.st (.d (.bl _))
theorem notN_read {σ : L2.St} {H : Hp} {Q : VK} (q : tE (CC X ct ex) (eNotN f) σ H Q) : tNotN (tE (CC X ct ex) f) σ H Q := by
  obtain ⟨W, ρ, S, k, p⟩ := q
  refine tE_E k p fun v w W1 S1 H1 k1 r1 p1 => ?_
  rw [isN_of r1]
  exact p1 _ W1 H1 (Le.refl _ _) k1.st (.d (.bl _))
theorem ee_isN {j p'} (ha : PE X a (tE (CC X ct ex) f)) : PE X (.Compare a [.Is] [.Constant .none j p'] pos) (tE (CC X ct ex) (eIsN f)) := PE.imp (pe_cmp (pc_isN ha) rfl) fun _ _ _ q => isN_read q
theorem ee_notN {j p'} (ha : PE X a (tE (CC X ct ex) f)) : PE X (.Compare a [.IsNot] [.Constant .none j p'] pos) (tE (CC X ct ex) (eNotN f)) := PE.imp (pe_cmp (pc_notN ha) rfl) fun _ _ _ q => notN_read q
theorem tt_isN {j p'} (ha : PE X a (tE (CC X ct ex) f)) : PT X (.Compare a [.Is] [.Constant .none j p'] pos) (tB (CC X ct ex) (eT (eIsN f))) := PT.imp (pt_cmp (pc_isN ha) rfl) fun _ _ _ q => test_read (fun _ _ _ q => isN_read q) q
theorem tt_notN {j p'} (ha : PE X a (tE (CC X ct ex) f)) : PT X (.Compare a [.IsNot] [.Constant .none j p'] pos) (tB (CC X ct ex) (eT (eNotN f))) := PT.imp (pt_cmp (pc_notN ha) rfl) fun _ _ _ q => test_read (fun _ _ _ q => notN_read q) q
end

/-! ### targets -/
inductive Tg where
  | nm (i : Nat)
  | tp (l : List Tg)
def unpk : Wv → Option (List Wv)
  | .d (.tuple ds) => some (ds.map .d)
  | .sq true l => some l
  | _ => none
mutual
def bindT : Tg → Wv → En → Option En
  | .nm i, w, ρ => some (ρ.set i (some w))
  | .tp l, w, ρ => match unpk w with
    | some ws => bindTs l ws ρ
    | none => none
def bindTs : List Tg → List Wv → En → Option En
  | [], [], ρ => some ρ
  | t :: ts, w :: ws, ρ => match bindT t w ρ with
    | some ρ' => bindTs ts ws ρ'
    | none => none
  | _, _, _ => none
end
def tG (C : Cn) (tg : Tg) : TG := fun v σ H Q => ∃ W ρ S w ρ', Ok C W ρ S σ H ∧ RW C.K W H v w ∧ bindT tg w ρ = some ρ' ∧ ∀ σ', Ok C W ρ' S σ' H → Q σ' H
def tGs (C : Cn) (l : List Tg) : TGs := fun vs σ H Q => ∃ W ρ S ws ρ', Ok C W ρ S σ H ∧ RWs C.K W H vs ws ∧ bindTs l ws ρ = some ρ' ∧ ∀ σ', Ok C W ρ' S σ' H → Q σ' H
theorem PG.imp {X : Cx} {tg : Expr} {t t' : TG} (h : PG X tg t) (i : ∀ v σ H Q, t' v σ H Q → t v σ H Q) : PG X tg t' := ⟨fun pins s σ H v u Q I r q => h.run pins s σ H v u Q I r (i _ _ _ _ q)⟩
theorem PGs.imp {X : Cx} {tg : List Expr} {t t' : TGs} (h : PGs X tg t) (i : ∀ v σ H Q, t' v σ H Q → t v σ H Q) : PGs X tg t' := ⟨fun pins s σ H v u Q I r q => h.run pins s σ H v u Q I r (i _ _ _ _ q)⟩
theorem Ok.set {C : Cn} {W : Wd} {ρ : En} {S : Store} {σ : L2.St} {H : Hp} {v : V} {w : Wv} (k : Ok C W ρ S σ H) (r : RW C.K W H v w) (i : Nat) : Ok C W (ρ.set i (some w)) S (σ.set i (some v)) H := by
  refine ⟨k.st, by rw [List.length_set, List.length_set]; exact k.len, fun j w' e => ?_⟩
  by_cases hj : i = j
  · subst hj
    by_cases hi : i < ρ.length
    · rw [List.getElem?_set_self hi] at e
      cases e
      exact ⟨v, List.getElem?_set_self (by rw [← k.len]; exact hi), r⟩
    · rw [List.getElem?_eq_none (by rw [List.length_set]; omega)] at e; cases e
  · rw [List.getElem?_set_ne hj] at e
    obtain ⟨v', e1, r'⟩ := k.env j w' e
    exact ⟨v', by rw [List.getElem?_set_ne hj]; exact e1, r'⟩
section
variable {X : Cx} {ct : Str → Addr} {ex : WX} {pos : Pos}
theorem gg_nm {i : Nat} {x : Str} (hN : X.N.Nodup) (hi : X.N[i]? = some x := by rfl) (hx : Loc X.env.scope x := by first | exact Or.inl rfl | exact Or.inr rfl) (hf : X.fn x = true ∨ X.env.scope.names.lookup x = some .local := by first | exact .inl rfl | exact .inr rfl) : PG X (.Name x pos) (tG (CC X ct ex) (.nm i)) := by
  refine PG.imp (pg_name hN hi hx hf) fun v σ H Q ⟨W, ρ, S, w, ρ', k, r, e, q⟩ => ?_
  cases e
  exact q _ (k.set r i)
theorem ggs_nil : PGs X [] (tGs (CC X ct ex) []) := by
  refine PGs.imp pgs_nil fun vs σ H Q ⟨W, ρ, S, ws, ρ', k, r, e, q⟩ => ?_
  cases r with
  | nil => cases e; exact ⟨rfl, q _ k⟩
  | cons _ _ => cases e
theorem ggs_cons {e : Expr} {es : List Expr} {t : Tg} {ts : List Tg} (h1 : PG X e (tG (CC X ct ex) t)) (h2 : PGs X es (tGs (CC X ct ex) ts))
    (hs : (assignEach (e :: es) X.env).map (·.2) = assign e X.env :: (assignEach es X.env).map (·.2) := by rfl) : PGs X (e :: es) (tGs (CC X ct ex) (t :: ts)) := by
  refine PGs.imp (pgs_cons h1 h2 hs) fun vs σ H Q ⟨W, ρ, S, ws, ρ', k, r, e, q⟩ => ?_
  cases r with
  | nil => cases e
  | @cons v vs w ws r1 r2 =>
    have e0 : (match bindT t w ρ with | some ρ1 => bindTs ts ws ρ1 | none => none) = some ρ' := by rw [← e]; rw [bindTs]
    cases e1 : bindT t w ρ with
    | none => rw [e1] at e0; cases e0
    | some ρ1 =>
      rw [e1] at e0
      exact ⟨v, vs, rfl, W, ρ, S, w, ρ1, k, r1, e1, fun σ1 k1 => ⟨W, ρ1, S, ws, ρ', k1, r2, e0, q⟩⟩
theorem bindTs_len : ∀ {ts : List Tg} {ws : List Wv} {ρ ρ' : En}, bindTs ts ws ρ = some ρ' → ws.length = ts.length
  | [], [], _, _, _ => rfl
  | [], _ :: _, _, _, h => by rw [bindTs] at h <;> first | cases h | (intros; simp at *)
  | _ :: _, [], _, _, h => by rw [bindTs] at h <;> first | cases h | (intros; simp at *)
  | t :: ts, w :: ws, ρ, ρ', h => by
    rw [bindTs] at h
    cases e1 : bindT t w ρ with
    | none => rw [e1] at h; cases h
    | some ρ1 =>
      rw [e1] at h
      rw [List.length_cons, List.length_cons, bindTs_len h]
theorem gg_tup {es : List Expr} {k : Nat} {ts : List Tg} (hc : X.calm = true) (h : PGs X es (tGs (CC X ct ex) ts)) (hl : (assignEach es X.env).length = ts.length := by rfl) (hst : (assignEach es X.env).findIdx? (·.1) = none := by rfl) : PG X (.Tuple es k pos) (tG (CC X ct ex) (.tp ts)) := by
  refine PG.imp (pg_tup (n := ts.length) hc h hl hst) fun v σ H Q ⟨W, ρ, S, w, ρ', k, r, e, q⟩ => ?_
  rw [bindT] at e
  cases e1 : unpk w with
  | none => rw [e1] at e; cases e
  | some ws =>
    rw [e1] at e
    have hlen := bindTs_len e
    cases r with
    | @d v x q' =>
      cases x <;> first | (cases e1; done) | skip
      cases e1
      cases q' with
      | tup h1 h2 =>
        refine ⟨_, _, rfl, Same.seqT (mask_same _ _) h1, by rw [DpAll.length h2, ← hlen, List.length_map], W, ρ, S, _, ρ', k, RWs.ofD h2, e, q⟩
    | o _ => cases e1
    | sl _ _ => cases e1
    | st hm hr => cases e1; exact ⟨_, _, rfl, SqT.of (mask_some hm).2, by rw [hr.length, hlen], W, ρ, S, _, ρ', k, hr, e, q⟩
end
end PL

/-! # PL, part F: statements, loops, comprehensions, calls, defs -/
namespace PL
open PySem PySem.Spec PyProof.Rows L2

/-! ### statements -/
def sNext : Sf := fun ρ S => .nx ρ S
def sSeq (g h : Sf) : Sf := fun ρ S => match g ρ S with
  | .nx ρ' S' => h ρ' S'
  | .rt w S' => .rt w S'
  | .bk ρ' S' => .bk ρ' S'
  | .ct ρ' S' => .ct ρ' S'
  | .exc c ρ' S' => .exc c ρ' S'
  | .bad => .bad
def sAsg (tg : Tg) (f : Ef) : Sf := fun ρ S => (f ρ S).bindS ρ fun w S1 => match bindT tg w ρ with
  | some ρ' => .nx ρ' S1
  | none => .bad
def sPar (i j : Nat) (f : Lf) : Sf := fun ρ S => (f ρ S).bindS ρ fun ws S1 => match ws with
  | [u, v] => .nx ((ρ.set i (some u)).set j (some v)) S1
  | _ => .bad
def sPar3 (i j l : Nat) (f : Lf) : Sf := fun ρ S => (f ρ S).bindS ρ fun ws S1 => match ws with
  | [u, v, w] => .nx (((ρ.set i (some u)).set j (some v)).set l (some w)) S1
  | _ => .bad
def sRet (f : Ef) : Sf := fun ρ S => (f ρ S).bindS ρ fun w S1 => .rt w S1
def sExpr (f : Ef) : Sf := fun ρ S => (f ρ S).bindS ρ fun _ S1 => .nx ρ S1
def sIf (t : Bf) (g h : Sf) : Sf := fun ρ S => (t ρ S).bindS ρ fun b S1 => if b = true then g ρ S1 else h ρ S1
def sBk : Sf := fun ρ S => .bk ρ S
def sCt : Sf := fun ρ S => .ct ρ S
def sRaise (c : Str) : Sf := fun ρ S => .exc c ρ S
section
variable {X : Cx} {ct : Str → Addr} {ex : WX} {st : Stmt} {rest : List Stmt} {g h : Sf} {e : Expr} {f : Ef} {fl : Lf} {t : Bf} {pos : Pos}
theorem ss_nil : PSs X [] (tS (CC X ct ex) sNext) := PSs.imp pss_nil fun D σ H ⟨W, ρ, S, k, p⟩ => p W σ H (Le.refl _ _) k
theorem ss_cons (h1 : PS X st (tS (CC X ct ex) g)) (h2 : PSs X rest (tS (CC X ct ex) h)) : PSs X (st :: rest) (tS (CC X ct ex) (sSeq g h)) := by
  refine PSs.imp (pss_cons h1 h2) fun D σ H ⟨W, ρ, S, k, p⟩ => ⟨W, ρ, S, k, ?_⟩
  unfold sSeq at p
  cases e : g ρ S with
  | nx ρ' S' => rw [e] at p; exact fun W' σ' H' l k' => ⟨W', ρ', S', k', PostS.le l p⟩
  | rt w S' => rw [e] at p; exact p
  | bk ρ' S' => rw [e] at p; exact p
  | ct ρ' S' => rw [e] at p; exact p
  | exc c ρ' S' => rw [e] at p; exact p
  | bad => rw [e] at p; exact p
theorem ss_one (h1 : PS X st (tS (CC X ct ex) g)) : PSs X [st] (tS (CC X ct ex) g) := pss_one h1
theorem ss_pass : PS X (.Pass pos) (tS (CC X ct ex) sNext) := PS.imp ps_pass fun D σ H ⟨W, ρ, S, k, p⟩ => p W σ H (Le.refl _ _) k
theorem ss_break : PS X (.Break pos) (tS (CC X ct ex) sBk) := PS.imp ps_break fun D σ H ⟨W, ρ, S, k, p⟩ => p W σ H (Le.refl _ _) k
theorem ss_continue : PS X (.Continue pos) (tS (CC X ct ex) sCt) := PS.imp ps_continue fun D σ H ⟨W, ρ, S, k, p⟩ => p W σ H (Le.refl _ _) k
theorem ss_doc {x j pos pos'} : PS X (.Expr (.Constant (.str x) j pos) pos') (tS (CC X ct ex) sNext) := PS.imp ps_doc fun D σ H ⟨W, ρ, S, k, p⟩ => p W σ H (Le.refl _ _) k
theorem asg_read {tg : Tg} {σ : L2.St} {H : Hp} {D : Ends} (q : tS (CC X ct ex) (sAsg tg f) D σ H) : tAsg (tE (CC X ct ex) f) (tG (CC X ct ex) tg) D σ H := by
  obtain ⟨W, ρ, S, k, p⟩ := q
  refine tE_S k p fun v w W1 S1 H1 k1 r1 p1 => ?_
  cases e1 : bindT tg w ρ with
  | none => rw [e1] at p1; exact p1.elim
  | some ρ' => rw [e1] at p1; exact ⟨W1, ρ, S1, w, ρ', k1, r1, e1, fun σ' k' => p1 W1 σ' H1 (Le.refl _ _) k'⟩
theorem ss_asg {tg : Expr} {g : Tg} (he : PE X e (tE (CC X ct ex) f)) (hg : PG X tg (tG (CC X ct ex) g)) (hs : swapsWithSole [tg] e pos.line X.env = pure false := by rfl) (hw : swappedStores [tg] e X.env = pure none := by rfl)
    (h1 : (assignEach [tg] X.env).map (·.2) = [assign tg X.env] := by rfl) : PS X (.Assign [tg] e pos) (tS (CC X ct ex) (sAsg g f)) := PS.imp (ps_asg he hg hs hw h1) fun _ _ _ q => asg_read q
theorem ss_set {i : Nat} {x : Str} {pos' : Pos} (hN : X.N.Nodup) (he : PE X e (tE (CC X ct ex) f)) (hi : X.N[i]? = some x := by rfl) (hx : Loc X.env.scope x := by first | exact Or.inl rfl | exact Or.inr rfl) (hs : swapsWith e (some (.Name x pos')) pos.line X.env = pure false := by rfl) (hf : X.fn x = true ∨ X.env.scope.names.lookup x = some .local := by first | exact .inl rfl | exact .inr rfl) :
    PS X (.Assign [.Name x pos'] e pos) (tS (CC X ct ex) (sAsg (.nm i) f)) := by
  refine PS.imp (ps_set hN hi hx he hs hf) fun D σ H ⟨W, ρ, S, k, p⟩ => ?_
  refine tE_S k p fun v w W1 S1 H1 k1 r1 p1 => ?_
  exact p1 W1 _ H1 (Le.refl _ _) (k1.set r1 i)
theorem ss_par {i j : Nat} {x y : Str} {a b : Expr} {px py pt : Pos} {kt k2 pt2} (hc : X.calm = true) (hN : X.N.Nodup) (ha : PA X [a, b] (tL (CC X ct ex) fl)) (hi : X.N[i]? = some x := by rfl) (hj : X.N[j]? = some y := by rfl) (hij : i ≠ j := by decide)
    (hx : X.env.scope.names.lookup x = some .local := by rfl) (hy : X.env.scope.names.lookup y = some .local := by rfl)
    (hw : swappedStores [.Tuple [.Name x px, .Name y py] kt pt] (.Tuple [a, b] k2 pt2) X.env = pure (some [x, y]) := by rfl)
    (hs : swapsWithSole [.Tuple [.Name x px, .Name y py] kt pt] (.Tuple [a, b] k2 pt2) pos.line X.env = pure false := by rfl) :
    PS X (.Assign [.Tuple [.Name x px, .Name y py] kt pt] (.Tuple [a, b] k2 pt2) pos) (tS (CC X ct ex) (sPar i j fl)) := by
  refine PS.imp (ps_par hc hN hi hj hij hx hy ha hw hs) fun D σ H ⟨W, ρ, S, k, p⟩ => ?_
  refine tL_S k p fun vs ws W1 S1 H1 k1 r1 p1 => ?_
  match ws, r1, p1 with
  | [u, v], .cons ru (.cons rv .nil), p1 => exact ⟨_, _, rfl, p1 W1 _ H1 (Le.refl _ _) ((k1.set ru i).set rv j)⟩
theorem ss_par3 {i j l : Nat} {x y z : Str} {a b c : Expr} {px py pz pt : Pos} {kt k2 pt2} (hc : X.calm = true) (hN : X.N.Nodup) (ha : PA X [a, b, c] (tL (CC X ct ex) fl)) (hi : X.N[i]? = some x := by rfl) (hj : X.N[j]? = some y := by rfl) (hl : X.N[l]? = some z := by rfl) (hij : i ≠ j := by decide) (hil : i ≠ l := by decide) (hjl : j ≠ l := by decide)
    (hx : X.env.scope.names.lookup x = some .local := by rfl) (hy : X.env.scope.names.lookup y = some .local := by rfl) (hz : X.env.scope.names.lookup z = some .local := by rfl)
    (hw : swappedStores [.Tuple [.Name x px, .Name y py, .Name z pz] kt pt] (.Tuple [a, b, c] k2 pt2) X.env = pure (some [x, y, z]) := by rfl)
    (hs : swapsWithSole [.Tuple [.Name x px, .Name y py, .Name z pz] kt pt] (.Tuple [a, b, c] k2 pt2) pos.line X.env = pure false := by rfl) :
    PS X (.Assign [.Tuple [.Name x px, .Name y py, .Name z pz] kt pt] (.Tuple [a, b, c] k2 pt2) pos) (tS (CC X ct ex) (sPar3 i j l fl)) := by
  refine PS.imp (ps_par3 hc hN hi hj hl hij hil hjl hx hy hz ha hw hs) fun D σ H ⟨W, ρ, S, k, p⟩ => ?_
  refine tL_S k p fun vs ws W1 S1 H1 k1 r1 p1 => ?_
  match ws, r1, p1 with
  | [u, v, w], .cons ru (.cons rv (.cons rw' .nil)), p1 => exact ⟨_, _, _, rfl, p1 W1 _ H1 (Le.refl _ _) (((k1.set ru i).set rv j).set rw' l)⟩
theorem ss_ret (he : PE X e (tE (CC X ct ex) f)) : PS X (.Return (some e) pos) (tS (CC X ct ex) (sRet f)) := by
  refine PS.imp (ps_ret he) fun D σ H ⟨W, ρ, S, k, p⟩ => ?_
  exact tE_S k p fun v w W1 S1 H1 k1 r1 p1 => p1 v W1 H1 (Le.refl _ _) k1.st r1
theorem ss_retN : PS X (.Return none pos) (tS (CC X ct ex) (sRet (eC .none))) := by
  refine PS.imp ps_retN fun D σ H ⟨W, ρ, S, k, p⟩ => ?_
  exact p .non W H (Le.refl _ _) k.st (.d .non)
theorem ss_expr (he : PE X e (tE (CC X ct ex) f)) (hs : swapsWith e none pos.line X.env = pure false := by rfl) : PS X (.Expr e pos) (tS (CC X ct ex) (sExpr f)) := by
  refine PS.imp (ps_expr he hs) fun D σ H ⟨W, ρ, S, k, p⟩ => ?_
  exact tE_S k p fun v w W1 S1 H1 k1 r1 p1 => p1 W1 σ H1 (Le.refl _ _) k1
theorem ss_if {c : Expr} {a b : List Stmt} (hc : PT X c (tB (CC X ct ex) t)) (ha : PSs X a (tS (CC X ct ex) g)) (hb : PSs X b (tS (CC X ct ex) h)) : PS X (.If c a b pos) (tS (CC X ct ex) (sIf t g h)) := by
  refine PS.imp (ps_if hc ha hb) fun D σ H ⟨W, ρ, S, k, p⟩ => ?_
  refine tB_S k p fun b W1 S1 H1 k1 p1 => ?_
  cases b with
  | true => rw [if_pos rfl] at p1 ⊢; exact ⟨W1, ρ, S1, k1, p1⟩
  | false => rw [if_neg Bool.false_ne_true] at p1 ⊢; exact ⟨W1, ρ, S1, k1, p1⟩
end

/-! ### what is walked -/
abbrev If := En → Store → Res (List Wv)
/-- an iterator that gives ws, whatever happens between the turns -/
structure WalkD (C : Cn) (W1 : Wd) (H1 : Hp) (J : It) (ws : List Wv) : Prop where
  goes : ∀ (i : Nat) W2 S2 H2, Le W1 H1 W2 H2 → StOk C W2 S2 H2 → i < ws.length → J.go i H2
  stops : ∀ W2 S2 H2, Le W1 H1 W2 H2 → StOk C W2 S2 H2 → J.stop ws.length H2
  yields : ∀ (i : Nat) W2 S2 H2 x H', Le W1 H1 W2 H2 → StOk C W2 S2 H2 → i < ws.length → J.yld i H2 x H' → Same H2 H' ∧ ∃ w, ws[i]? = some w ∧ RW C.K W2 H' x w
def PostI (C : Cn) (W : Wd) (σ : L2.St) (H : Hp) (r : Res (List Wv)) (R : It → Hp → Prop) : Prop := match r with
  | .ok ws S => ∀ J W' H', Le W H W' H' → StOk C W' S H' → WalkD C W' H' J ws → R J H'
  | .exc c S => ∀ W' H', Le W H W' H' → StOk C W' S H' → C.ex (.ref (C.ct c)) none σ H'
  | .bad => False
def tI (C : Cn) (f : If) : TI := fun σ H R => ∃ W ρ S, Ok C W ρ S σ H ∧ PostI C W σ H (f ρ S) R
theorem PI.imp {X : Cx} {tg iter : Expr} {t t' : TI} (h : PI X tg iter t) (i : ∀ σ H R, t' σ H R → t σ H R) : PI X tg iter t' := ⟨fun pins s σ H R I q => h.run pins s σ H R I (i _ _ _ q)⟩
theorem PostI.le {C : Cn} {W W1 : Wd} {σ : L2.St} {H H1 : Hp} {r : Res (List Wv)} {R : It → Hp → Prop} (l : Le W H W1 H1) (p : PostI C W σ H r R) : PostI C W1 σ H1 r R := by
  cases r with
  | ok w S => exact fun J W' H' m => p J W' H' (l.trans m)
  | exc c S => exact fun W' H' m => p W' H' (l.trans m)
  | bad => exact p
section
variable {C : Cn} {W : Wd} {σ : L2.St} {H : Hp} {ρ : En} {S : Store}
theorem tE_I {f : Ef} {g : Wv → Store → Res (List Wv)} {R' : It → Hp → Prop} {R : VK} (k : Ok C W ρ S σ H) (h : PostI C W σ H ((f ρ S).bind g) R')
    (c : ∀ v w W1 S1 H1, Ok C W1 ρ S1 σ H1 → RW C.K W1 H1 v w → PostI C W1 σ H1 (g w S1) R' → R v H1) : tE C f σ H R := by
  refine ⟨W, ρ, S, k, ?_⟩
  cases e : f ρ S with
  | ok w S1 =>
    rw [e] at h
    exact fun v W1 H1 l st r => c v w W1 S1 H1 (k.le l st) r (PostI.le l h)
  | exc x S1 => rw [e] at h; exact h
  | bad => rw [e] at h; exact h
theorem tL_I {f : Lf} {g : List Wv → Store → Res (List Wv)} {R' : It → Hp → Prop} {R : List V → Hp → Prop} (k : Ok C W ρ S σ H) (h : PostI C W σ H ((f ρ S).bind g) R')
    (c : ∀ v w W1 S1 H1, Ok C W1 ρ S1 σ H1 → RWs C.K W1 H1 v w → PostI C W1 σ H1 (g w S1) R' → R v H1) : tL C f σ H R := by
  refine ⟨W, ρ, S, k, ?_⟩
  cases e : f ρ S with
  | ok w S1 =>
    rw [e] at h
    exact fun v W1 H1 l st r => c v w W1 S1 H1 (k.le l st) r (PostI.le l h)
  | exc x S1 => rw [e] at h; exact h
  | bad => rw [e] at h; exact h
end
/-- the items of a list, of a tuple -/
def itL : Wv → Option (List Wv)
  | .d (.list ds) => some (ds.map .d)
  | .sq false l => some l
  | _ => none
def iLst (f : Ef) : If := fun ρ S => (f ρ S).bind fun w S1 => match itL w with
  | some l => .ok l S1
  | none => .bad
def iTup (f : Ef) : If := fun ρ S => (f ρ S).bind fun w S1 => match unpk w with
  | some l => .ok l S1
  | none => .bad
theorem itL_of {K : PySem.W.Frag} {W : Wd} {H : Hp} {v : V} {w : Wv} {l : List Wv} (r : RW K W H v w) (e : itL w = some l) : ∃ a vs, v = .ref a ∧ SqL K (mask W.Z H) a vs ∧ RWs K W H vs l := by
  cases r with
  | @d v x q =>
    cases x <;> first | (cases e; done) | skip
    cases e
    cases q with
    | lst h1 h2 => exact ⟨_, _, rfl, h1, RWs.ofD h2⟩
  | o _ => cases e
  | sl hm hr => cases e; exact ⟨_, _, rfl, SqL.of hm, hr⟩
  | st _ _ => cases e
theorem unpk_of {K : PySem.W.Frag} {W : Wd} {H : Hp} {v : V} {w : Wv} {l : List Wv} (r : RW K W H v w) (e : unpk w = some l) : ∃ a vs, v = .ref a ∧ SqT K (mask W.Z H) a vs ∧ RWs K W H vs l := by
  cases r with
  | @d v x q =>
    cases x <;> first | (cases e; done) | skip
    cases e
    cases q with
    | tup h1 h2 => exact ⟨_, _, rfl, h1, RWs.ofD h2⟩
  | o _ => cases e
  | st hm hr => cases e; exact ⟨_, _, rfl, SqT.of hm, hr⟩
  | sl _ _ => cases e
theorem walkL {C : Cn} {W : Wd} {H : Hp} {a : Addr} {vs : List V} {l : List Wv} (hs : SqL C.K (mask W.Z H) a vs) (hr : RWs C.K W H vs l) : WalkD C W H (Itl C.K a) l where
  goes := fun i W2 S2 H2 le st hi => by
    obtain ⟨v, hv, _⟩ := hr.get (i := i) (d := l[i]) (by simp [hi])
    exact ⟨vs, v, (mask_same _ _).seq (le.msame.seq hs), hv⟩
  stops := fun W2 S2 H2 le st => ⟨vs, (mask_same _ _).seq (le.msame.seq hs), by rw [hr.length]; exact Nat.le_refl _⟩
  yields := fun i W2 S2 H2 x H' le st hi y => by
    obtain ⟨e, y⟩ := y
    subst e
    have q := y vs ((mask_same _ _).seq (le.msame.seq hs))
    obtain ⟨w, e, r⟩ := hr.get' q
    exact ⟨Same.refl _, w, e, RW.le le _ _ r⟩
theorem walkT {C : Cn} {W : Wd} {H : Hp} {a : Addr} {vs : List V} {l : List Wv} (hs : SqT C.K (mask W.Z H) a vs) (hr : RWs C.K W H vs l) : WalkD C W H (Itt C.K a) l where
  goes := fun i W2 S2 H2 le st hi => by
    obtain ⟨v, hv, _⟩ := hr.get (i := i) (d := l[i]) (by simp [hi])
    exact ⟨vs, v, Same.seqT (mask_same _ _) (Same.seqT le.msame hs), hv⟩
  stops := fun W2 S2 H2 le st => ⟨vs, Same.seqT (mask_same _ _) (Same.seqT le.msame hs), by rw [hr.length]; exact Nat.le_refl _⟩
  yields := fun i W2 S2 H2 x H' le st hi y => by
    obtain ⟨e, y⟩ := y
    subst e
    have q := y vs (Same.seqT (mask_same _ _) (Same.seqT le.msame hs))
    obtain ⟨w, e, r⟩ := hr.get' q
    exact ⟨Same.refl _, w, e, RW.le le _ _ r⟩
/-- lo, lo + 1, .. -/
def rngW (lo : Int) (n : Nat) : List Wv := (List.range n).map fun i : Nat => .d (.int (lo + (i : Int)))
theorem walkR {C : Cn} {W : Wd} {H : Hp} {lo : Int} {n : Nat} : WalkD C W H (Itr lo n) (rngW lo n) where
  goes := fun i W2 S2 H2 le st hi => by
    have : (rngW lo n).length = n := by simp [rngW]
    show i < n
    omega
  stops := fun W2 S2 H2 le st => by
    have : (rngW lo n).length = n := by simp [rngW]
    show n ≤ (rngW lo n).length
    omega
  yields := fun i W2 S2 H2 x H' le st hi y => by
    obtain ⟨e, rfl⟩ := y
    subst e
    have hl : (rngW lo n).length = n := by simp [rngW]
    refine ⟨Same.refl _, .d (.int (lo + i)), ?_, .d (.int _)⟩
    unfold rngW
    rw [List.getElem?_map, List.getElem?_range (by omega)]
    rfl
def small (i : Int) : Prop := -(2 ^ 62) ≤ i ∧ i < 2 ^ 62
instance (i : Int) : Decidable (small i) := inferInstanceAs (Decidable (_ ∧ _))
def iR1 (f : Lf) : If := fun ρ S => (f ρ S).bind fun ws S1 => match ws with
  | [.d (.int j)] => if small j then .ok (rngW 0 j.toNat) S1 else .bad
  | _ => .bad
def iR2 (f : Lf) : If := fun ρ S => (f ρ S).bind fun ws S1 => match ws with
  | [.d (.int i), .d (.int j)] => if small i ∧ small j then .ok (rngW i (j - i).toNat) S1 else .bad
  | _ => .bad
section
variable {X : Cx} {ct : Str → Addr} {ex : WX} {tg : Expr} {l a b : Expr} {f : Ef} {fl : Lf} {p pos : Pos}
theorem ii_lst (hl : PE X l (tE (CC X ct ex) f)) : PI X tg l (tI (CC X ct ex) (iLst f)) := by
  refine PI.imp (pi_list hl) fun σ H R ⟨W, ρ, S, k, q⟩ => ?_
  refine tE_I k q fun v w W1 S1 H1 k1 r1 p1 => ?_
  cases e : itL w with
  | none => rw [e] at p1; exact p1.elim
  | some ws =>
    rw [e] at p1
    obtain ⟨a, vs, rfl, hs, hr⟩ := itL_of r1 e
    exact ⟨a, rfl, ⟨vs, (mask_same _ _).seq hs⟩, p1 _ W1 H1 (Le.refl _ _) k1.st (walkL hs hr)⟩
theorem ii_tup (hl : PE X l (tE (CC X ct ex) f)) : PI X tg l (tI (CC X ct ex) (iTup f)) := by
  refine PI.imp (pi_tup hl) fun σ H R ⟨W, ρ, S, k, q⟩ => ?_
  refine tE_I k q fun v w W1 S1 H1 k1 r1 p1 => ?_
  cases e : unpk w with
  | none => rw [e] at p1; exact p1.elim
  | some ws =>
    rw [e] at p1
    obtain ⟨a, vs, rfl, hs, hr⟩ := unpk_of r1 e
    exact ⟨a, rfl, ⟨vs, Same.seqT (mask_same _ _) hs⟩, p1 _ W1 H1 (Le.refl _ _) k1.st (walkT hs hr)⟩
theorem ii_r1 (hm : X.mg "range" = none) (ha : PA X [a] (tL (CC X ct ex) fl)) (hg : Gl X "range" := by rfl) (hs : starEach [a] X.env = [(false, eval a X.env)] := by rfl) : PI X tg (.Call (.Name "range" p) [a] [] pos) (tI (CC X ct ex) (iR1 fl)) := by
  refine PI.imp (pi_range1 hg hm ha hs) fun σ H R ⟨W, ρ, S, k, q⟩ => ?_
  refine tL_I k q fun v w W1 S1 H1 k1 r1 p1 => ?_
  match w, r1, p1 with
  | [.d (.int j)], .cons (.d (.int _)) .nil, p1 =>
    have p2 : PostI (CC X ct ex) W1 σ H1 (if small j then .ok (rngW 0 j.toNat) S1 else .bad) R := p1
    by_cases hj : small j
    · rw [if_pos hj] at p2
      exact ⟨j, rfl, hj.1, hj.2, p2 _ W1 H1 (Le.refl _ _) k1.st walkR⟩
    · rw [if_neg hj] at p2; exact p2.elim
theorem ii_r2 (hm : X.mg "range" = none) (ha : PA X [a, b] (tL (CC X ct ex) fl)) (hg : Gl X "range" := by rfl) (hs : starEach [a, b] X.env = [(false, eval a X.env), (false, eval b X.env)] := by rfl) (hs2 : starEach [b] X.env = [(false, eval b X.env)] := by rfl) : PI X tg (.Call (.Name "range" p) [a, b] [] pos) (tI (CC X ct ex) (iR2 fl)) := by
  refine PI.imp (pi_range2 hg hm ha hs hs2) fun σ H R ⟨W, ρ, S, k, q⟩ => ?_
  refine tL_I k q fun v w W1 S1 H1 k1 r1 p1 => ?_
  match w, r1, p1 with
  | [.d (.int i), .d (.int j)], .cons (.d (.int _)) (.cons (.d (.int _)) .nil), p1 =>
    have p2 : PostI (CC X ct ex) W1 σ H1 (if small i ∧ small j then .ok (rngW i (j - i).toNat) S1 else .bad) R := p1
    by_cases hj : small i ∧ small j
    · rw [if_pos hj] at p2
      exact ⟨i, j, rfl, ⟨hj.1.1, hj.1.2, hj.2.1, hj.2.2⟩, p2 _ W1 H1 (Le.refl _ _) k1.st walkR⟩
    · rw [if_neg hj] at p2; exact p2.elim
end

/-! ### for -/
def loopS (tg : Tg) (body : Sf) : List Wv → Sf
  | [], ρ, S => .nx ρ S
  | w :: ws, ρ, S => match bindT tg w ρ with
    | none => .bad
    | some ρ1 => match body ρ1 S with
      | .nx ρ' S' => loopS tg body ws ρ' S'
      | .ct ρ' S' => loopS tg body ws ρ' S'
      | .bk ρ' S' => .nx ρ' S'
      | .rt w S' => .rt w S'
      | .exc c ρ' S' => .exc c ρ' S'
      | .bad => .bad
def sFor (it : If) (tg : Tg) (body : Sf) : Sf := fun ρ S => (it ρ S).bindS ρ fun ws S1 => loopS tg body ws ρ S1
section
variable {X : Cx} {ct : Str → Addr} {ex : WX} {pos : Pos}
theorem for_read {it : If} {tg : Tg} {body : Sf} {D : Ends} {σ : L2.St} {H : Hp} (q : tS (CC X ct ex) (sFor it tg body) D σ H) : tFor (tI (CC X ct ex) it) (tG (CC X ct ex) tg) (tS (CC X ct ex) body) D σ H := by
  obtain ⟨W, ρ, S, k, p⟩ := q
  refine ⟨W, ρ, S, k, ?_⟩
  unfold sFor at p
  cases e : it ρ S with
  | exc c S1 => rw [e] at p; exact fun W' H' l st => p W' σ H' l (k.le l st)
  | bad => rw [e] at p; exact p
  | ok ws S1 =>
    rw [e] at p
    intro J W1 H1 l1 st1 wk
    have k1 := k.le l1 st1
    have p1 : PostS (CC X ct ex) W1 H1 (loopS tg body ws ρ S1) D := PostS.le l1 p
    refine ⟨fun i m σ H => m = ws.length - i ∧ i ≤ ws.length ∧ ∃ W2 ρ2 S2, Le W1 H1 W2 H ∧ Ok (CC X ct ex) W2 ρ2 S2 σ H ∧ PostS (CC X ct ex) W2 H (loopS tg body (ws.drop i) ρ2 S2) D, ⟨ws.length, by simp, Nat.zero_le _, W1, ρ, S1, Le.refl _ _, k1, by simpa using p1⟩, ?_⟩
    rintro i m σ2 H2 ⟨rfl, hi, W2, ρ2, S2, l2, k2, p2⟩
    by_cases hlt : i < ws.length
    · refine .inr ⟨wk.goes i W2 S2 H2 l2 k2.st hlt, fun σ' H' => ∃ W3 ρ3 S3, Le W1 H1 W3 H' ∧ Ok (CC X ct ex) W3 ρ3 S3 σ' H' ∧ PostS (CC X ct ex) W3 H' (loopS tg body (ws.drop (i + 1)) ρ3 S3) D, fun σ' H' ⟨W3, ρ3, S3, a1, a2, a3⟩ => ⟨ws.length - (i + 1), by omega, rfl, hlt, W3, ρ3, S3, a1, a2, a3⟩, fun x H' y => ?_⟩
      obtain ⟨sm, w, ew, rw'⟩ := wk.yields i W2 S2 H2 x H' l2 k2.st hlt y
      have lg := Le.grow (W := W2) sm
      have kg := k2.le lg (k2.st.grow sm)
      have ed : ws.drop i = w :: ws.drop (i + 1) := by
        rw [List.drop_eq_getElem_cons hlt]
        have : ws[i] = w := by
          have := List.getElem?_eq_getElem hlt
          rw [ew] at this
          exact (Option.some.inj this).symm
        rw [this]
      rw [ed] at p2
      have p3 := PostS.le lg p2
      rw [loopS] at p3
      cases e1 : bindT tg w ρ2 with
      | none => rw [e1] at p3; exact p3.elim
      | some ρ1 =>
        rw [e1] at p3
        refine ⟨W2, ρ2, S2, w, ρ1, kg, rw', e1, fun σ' k' => ⟨W2, ρ1, S2, k', ?_⟩⟩
        dsimp only at p3
        cases e2 : body ρ1 S2 with
        | nx ρ' S' => rw [e2] at p3; exact fun W3 σ3 H3 l3 k3 => ⟨W3, ρ', S', (l2.trans lg).trans l3, k3, PostS.le l3 p3⟩
        | ct ρ' S' => rw [e2] at p3; exact fun W3 σ3 H3 l3 k3 => ⟨W3, ρ', S', (l2.trans lg).trans l3, k3, PostS.le l3 p3⟩
        | bk ρ' S' => rw [e2] at p3; exact p3
        | rt w S' => rw [e2] at p3; exact p3
        | exc c ρ' S' => rw [e2] at p3; exact p3
        | bad => rw [e2] at p3; exact p3
    · have e0 : i = ws.length := by omega
      subst e0
      rw [List.drop_length, loopS] at p2
      exact .inl ⟨wk.stops W2 S2 H2 l2 k2.st, p2 W2 σ2 H2 (Le.refl _ _) k2⟩
theorem ss_for {tg iter : Expr} {body : List Stmt} {it : If} {g : Tg} {tb : Sf} (hp : PassesOwn (model X.prog X.w) X.A X.env X.xe) (hc : X.calm = true) (hi : PI X tg iter (tI (CC X ct ex) it)) (hg : PG X tg (tG (CC X ct ex) g)) (hb : PSs X body (tS (CC X ct ex) tb))
    (hs : ∀ x, foldedSetIterable iter X.env x = pure x := by intro _; rfl) : PS X (.For tg iter body [] pos) (tS (CC X ct ex) (sFor it g tb)) := PS.imp (ps_for hp hc hi hg hb hs) fun _ _ _ q => for_read q
/-! ### while -/
def whileS (t : Bf) (body : Sf) : Nat → Sf
  | 0, _, _ => .bad
  | n + 1, ρ, S => (t ρ S).bindS ρ fun b S1 => if b = true then (match body ρ S1 with
      | .nx ρ' S' => whileS t body n ρ' S'
      | .ct ρ' S' => whileS t body n ρ' S'
      | .bk ρ' S' => .nx ρ' S'
      | .rt w S' => .rt w S'
      | .exc c ρ' S' => .exc c ρ' S'
      | .bad => .bad) else .nx ρ S1
def sWhile (fuel : En → Store → Nat) (t : Bf) (body : Sf) : Sf := fun ρ S => whileS t body (fuel ρ S) ρ S
theorem while_read {fuel : En → Store → Nat} {t : Bf} {body : Sf} {D : Ends} {σ : L2.St} {H : Hp} (q : tS (CC X ct ex) (sWhile fuel t body) D σ H) : tWhile (tB (CC X ct ex) t) (tS (CC X ct ex) body) D σ H := by
  obtain ⟨W, ρ, S, k, p⟩ := q
  refine ⟨fun m σ H => ∃ W2 ρ2 S2, Ok (CC X ct ex) W2 ρ2 S2 σ H ∧ PostS (CC X ct ex) W2 H (whileS t body m ρ2 S2) D, ⟨_, W, ρ, S, k, p⟩, ?_⟩
  rintro m σ2 H2 ⟨W2, ρ2, S2, k2, p2⟩
  cases m with
  | zero => exact p2.elim
  | succ n =>
    rw [whileS] at p2
    refine tB_S k2 p2 fun b W3 S3 H3 k3 p3 => ?_
    cases b with
    | false => rw [if_neg Bool.false_ne_true] at p3 ⊢; exact p3 W3 σ2 H3 (Le.refl _ _) k3
    | true =>
      rw [if_pos rfl] at p3 ⊢
      refine ⟨fun σ' H' => ∃ W4 ρ4 S4, Ok (CC X ct ex) W4 ρ4 S4 σ' H' ∧ PostS (CC X ct ex) W4 H' (whileS t body n ρ4 S4) D, fun σ' H' z => ⟨n, Nat.lt_succ_self n, z⟩, ⟨W3, ρ2, S3, k3, ?_⟩⟩
      cases e2 : body ρ2 S3 with
      | nx ρ' S' => rw [e2] at p3; exact fun W4 σ4 H4 l4 k4 => ⟨W4, ρ', S', k4, PostS.le l4 p3⟩
      | ct ρ' S' => rw [e2] at p3; exact fun W4 σ4 H4 l4 k4 => ⟨W4, ρ', S', k4, PostS.le l4 p3⟩
      | bk ρ' S' => rw [e2] at p3; exact p3
      | rt w S' => rw [e2] at p3; exact p3
      | exc c ρ' S' => rw [e2] at p3; exact p3
      | bad => rw [e2] at p3; exact p3
theorem ss_while (fuel : En → Store → Nat) {c : Expr} {body : List Stmt} {t : Bf} {tb : Sf} (hp : PassesOwn (model X.prog X.w) X.A X.env X.xe) (hc : PT X c (tB (CC X ct ex) t)) (hb : PSs X body (tS (CC X ct ex) tb)) : PS X (.While c body [] pos) (tS (CC X ct ex) (sWhile fuel t tb)) :=
  PS.imp (ps_while hp hc hb) fun _ _ _ q => while_read q
end
end PL

/-! # PL, part G: comprehensions, freezing, calls, defs -/
namespace PL
open PySem PySem.Spec PyProof.Rows L2

section
variable {K : PySem.W.Frag} {W W1 : Wd} {H H1 : Hp}
mutual
/-- a value stands on, where what data leans on stays -/
theorem RW.mv (hm : Same (mask W.Z H) (mask W1.Z H1)) (he : ∀ (k : Nat) a, W.η[k]? = some a → W1.η[k]? = some a) : ∀ (w : Wv) (v : V), RW K W H v w → RW K W1 H1 v w
  | .d x, _, h => by
    cases h with
    | d q => exact .d (Dp.same hm _ _ q)
  | .o k, _, h => by
    cases h with
    | o q => exact .o (he _ _ q)
  | .sq b ws, _, h => by
    cases h with
    | sl q r => exact .sl (hm _ _ q) (RWs.mv hm he ws _ r)
    | st q r => exact .st (hm _ _ q) (RWs.mv hm he ws _ r)
theorem RWs.mv (hm : Same (mask W.Z H) (mask W1.Z H1)) (he : ∀ (k : Nat) a, W.η[k]? = some a → W1.η[k]? = some a) : ∀ (ws : List Wv) (vs : List V), RWs K W H vs ws → RWs K W1 H1 vs ws
  | [], _, h => by cases h; exact .nil
  | w :: ws, _, h => by
    cases h with
    | cons r t => exact .cons (RW.mv hm he w _ r) (RWs.mv hm he ws _ t)
end
end
theorem FsR.mv {K : PySem.W.Frag} {W W1 : Wd} {H H1 : Hp} {κ : Type} (hm : Same (mask W.Z H) (mask W1.Z H1)) (he : ∀ (k : Nat) a, W.η[k]? = some a → W1.η[k]? = some a) {xs : List (κ × V)} {ys : List (κ × Wv)} (h : FsR K W H xs ys) : FsR K W1 H1 xs ys :=
  Paired.mapP h fun _ _ q => ⟨q.1, RW.mv hm he _ _ q.2⟩
theorem MoR.mv {C : Cn} {W W1 : Wd} {H H1 : Hp} (hm : Same (mask W.Z H) (mask W1.Z H1)) (he : ∀ (k : Nat) a, W.η[k]? = some a → W1.η[k]? = some a) {u : HO} {o : MO} (h : MoR C W H u o) : MoR C W1 H1 u o := by
  cases u <;> cases o <;> first | exact h.elim | exact RWs.mv hm he _ _ h | exact FsR.mv hm he h | exact ⟨h.1, FsR.mv hm he h.2⟩

/-! ### comprehensions -/
def wipeE (ρ : En) : List Nat → En
  | [] => ρ
  | v :: vs => (wipeE ρ vs).set v none
def bYes : Bf := fun _ S => .ok true S
def compL (tg : Tg) (t : Bf) (f : Ef) (ρ : En) : List Wv → Store → Res (List Wv)
  | [], S => .ok [] S
  | w :: ws, S => match bindT tg w ρ with
    | none => .bad
    | some ρ1 => match t ρ1 S with
      | .ok true S1 => match f ρ1 S1 with
        | .ok y S2 => match compL tg t f ρ ws S2 with
          | .ok ys S3 => .ok (y :: ys) S3
          | _ => .bad
        | _ => .bad
      | .ok false S1 => compL tg t f ρ ws S1
      | _ => .bad
def eComp (it : If) (tg : Tg) (t : Bf) (f : Ef) (vs : List Nat) : Ef := fun ρ S => (it ρ S).bind fun ws S1 => if ws.length ≤ LINE then
  (match compL tg t f (wipeE ρ vs) ws S1 with
    | .ok ys S2 => .ok (mkSq false ys) S2
    | _ => .bad) else .bad
abbrev exF : WX := fun _ _ _ _ => False
theorem wipe_ok {C : Cn} {W : Wd} {ρ : En} {S : Store} {σ : L2.St} {H : Hp} (k : Ok C W ρ S σ H) : ∀ vs : List Nat, Ok C W (wipeE ρ vs) S (wipe σ vs) H
  | [] => k
  | v :: vs => by
    have k' := wipe_ok k vs
    refine ⟨k'.st, by unfold wipeE wipe; rw [List.length_set, List.length_set]; exact k'.len, fun i w e => ?_⟩
    unfold wipeE at e
    by_cases hi : v = i
    · subst hi
      by_cases hv : v < (wipeE ρ vs).length
      · rw [List.getElem?_set_self hv] at e; cases e
      · rw [List.getElem?_eq_none (by rw [List.length_set]; omega)] at e; cases e
    · rw [List.getElem?_set_ne hi] at e
      obtain ⟨u, e1, r⟩ := k'.env i w e
      exact ⟨u, by unfold wipe; rw [List.getElem?_set_ne hi]; exact e1, r⟩
theorem wipe_set {σ : L2.St} {v : Option V} {i : Nat} : ∀ {vs : List Nat}, i ∈ vs → wipe (σ.set i v) vs = wipe σ vs
  | j :: vs, h => by
    unfold wipe
    by_cases hi : i ∈ vs
    · rw [wipe_set hi]
    · have e : i = j := by
        rcases List.mem_cons.mp h with z | z
        · exact z
        · exact absurd z hi
      subst e
      -- the others do not touch i
      have out : ∀ (us : List Nat) (τ : L2.St), i ∉ us → wipe (τ.set i v) us = (wipe τ us).set i v := by
        intro us
        induction us with
        | nil => intro τ _; rfl
        | cons u us ih =>
          intro τ hu
          rw [List.mem_cons, not_or] at hu
          unfold wipe
          rw [ih τ hu.2, List.set_comm _ _ hu.1]
      rw [out vs σ hi, List.set_set]
section
variable {X : Cx} {ct : Str → Addr} {ex : WX} {pos : Pos}
/-- the target of a comprehension leaves, but for its own names, the slots as they are -/
def tGw (C : Cn) (tg : Tg) (vs : List Nat) : TG := fun v σ H Q => ∃ W ρ S w ρ', Ok C W ρ S σ H ∧ RW C.K W H v w ∧ bindT tg w ρ = some ρ' ∧ ∀ σ', Ok C W ρ' S σ' H → wipe σ' vs = wipe σ vs → Q σ' H
def tGsw (C : Cn) (l : List Tg) (vs : List Nat) : TGs := fun us σ H Q => ∃ W ρ S ws ρ', Ok C W ρ S σ H ∧ RWs C.K W H us ws ∧ bindTs l ws ρ = some ρ' ∧ ∀ σ', Ok C W ρ' S σ' H → wipe σ' vs = wipe σ vs → Q σ' H
theorem gw_nm {vs : List Nat} {i : Nat} {x : Str} (hN : X.N.Nodup) (hv : vs.contains i = true := by rfl) (hi : X.N[i]? = some x := by rfl) (hx : Loc X.env.scope x := by first | exact Or.inl rfl | exact Or.inr rfl) (hf : X.fn x = true ∨ X.env.scope.names.lookup x = some .local := by first | exact .inl rfl | exact .inr rfl) : PG X (.Name x pos) (tGw (CC X ct ex) (.nm i) vs) := by
  refine PG.imp (pg_name hN hi hx hf) fun v σ H Q ⟨W, ρ, S, w, ρ', k, r, e, q⟩ => ?_
  cases e
  exact q _ (k.set r i) (wipe_set (by simpa using hv))
theorem gws_nil {vs : List Nat} : PGs X [] (tGsw (CC X ct ex) [] vs) := by
  refine PGs.imp pgs_nil fun us σ H Q ⟨W, ρ, S, ws, ρ', k, r, e, q⟩ => ?_
  cases r with
  | nil => cases e; exact ⟨rfl, q _ k rfl⟩
  | cons _ _ => cases e
theorem gws_cons {vs : List Nat} {e : Expr} {es : List Expr} {t : Tg} {ts : List Tg} (h1 : PG X e (tGw (CC X ct ex) t vs)) (h2 : PGs X es (tGsw (CC X ct ex) ts vs))
    (hs : (assignEach (e :: es) X.env).map (·.2) = assign e X.env :: (assignEach es X.env).map (·.2) := by rfl) : PGs X (e :: es) (tGsw (CC X ct ex) (t :: ts) vs) := by
  refine PGs.imp (pgs_cons h1 h2 hs) fun us σ H Q ⟨W, ρ, S, ws, ρ', k, r, e, q⟩ => ?_
  cases r with
  | nil => cases e
  | @cons v us w ws r1 r2 =>
    have e0 : (match bindT t w ρ with | some ρ1 => bindTs ts ws ρ1 | none => none) = some ρ' := by rw [← e, bindTs] <;> rfl
    cases e1 : bindT t w ρ with
    | none => rw [e1] at e0; cases e0
    | some ρ1 =>
      rw [e1] at e0
      exact ⟨v, us, rfl, W, ρ, S, w, ρ1, k, r1, e1, fun σ1 k1 z1 => ⟨W, ρ1, S, ws, ρ', k1, r2, e0, fun σ2 k2 z2 => q σ2 k2 (z2.trans z1)⟩⟩
theorem gw_tup {vs : List Nat} {es : List Expr} {k : Nat} {ts : List Tg} (hc : X.calm = true) (h : PGs X es (tGsw (CC X ct ex) ts vs)) (hl : (assignEach es X.env).length = ts.length := by rfl) (hst : (assignEach es X.env).findIdx? (·.1) = none := by rfl) : PG X (.Tuple es k pos) (tGw (CC X ct ex) (.tp ts) vs) := by
  refine PG.imp (pg_tup (n := ts.length) hc h hl hst) fun v σ H Q ⟨W, ρ, S, w, ρ', k, r, e, q⟩ => ?_
  rw [bindT] at e
  cases e1 : unpk w with
  | none => rw [e1] at e; cases e
  | some ws =>
    rw [e1] at e
    have hlen := bindTs_len e
    obtain ⟨a, us, rfl, hs, hr⟩ := unpk_of r e1
    exact ⟨_, _, rfl, Same.seqT (mask_same _ _) hs, by rw [hr.length, hlen], W, ρ, S, _, ρ', k, hr, e, q⟩
/-- the tests of a clause -/
theorem ts_nil : PTs X [] (tB (CC X ct ex) bYes) := by
  refine ⟨fun pins s σ H Q I h => pts_nil.run pins s σ H Q I ?_⟩
  obtain ⟨W, ρ, S, k, p⟩ := h
  exact p W H (Le.refl _ _) k.st
theorem ts_one {c : Expr} {t : Bf} (h : PT X c (tB (CC X ct ex) t)) : PTs X [c] (tB (CC X ct ex) t) := pts_one h

theorem comp_read {it : If} {tg : Tg} {t : Bf} {f : Ef} {vs : List Nat} {σ : L2.St} {H : Hp} {Q : VK} (q : tE (CC X ct ex) (eComp it tg t f vs) σ H Q) :
    tLc (tI (CC X ct ex) it) (tGw (CC X ct exF) tg vs) (tB (CC X ct exF) t) (tE (CC X ct exF) f) vs σ H Q := by
  obtain ⟨W, ρ, S, k, p⟩ := q
  refine ⟨W, ρ, S, k, ?_⟩
  unfold eComp at p
  cases e : it ρ S with
  | exc c S1 => rw [e] at p; exact p
  | bad => rw [e] at p; exact p
  | ok ws S1 =>
    rw [e] at p
    intro J W1 H1 l1 st1 wk D hD
    have p1 : PostR (CC X ct ex) W1 σ H1 (if ws.length ≤ LINE then (match compL tg t f (wipeE ρ vs) ws S1 with
      | .ok ys S2 => .ok (mkSq false ys) S2
      | _ => .bad) else .bad) Q := PostR.le l1 p
    by_cases hz : ws.length ≤ LINE
    case neg => rw [if_neg hz] at p1; exact p1.elim
    rw [if_pos hz] at p1
    cases e1 : compL tg t f (wipeE ρ vs) ws S1 with
    | exc c S2 => rw [e1] at p1; exact p1.elim
    | bad => rw [e1] at p1; exact p1.elim
    | ok ys S2 =>
      rw [e1] at p1
      have k1 : Ok (CC X ct exF) W1 ρ S1 σ H1 := ⟨⟨st1.len, st1.here, st1.nd, st1.dom, st1.edom⟩, k.len, (k.le l1 st1).env⟩
      -- the invariant: D holds what is made so far, hidden from all else
      let IV : Nat → Hp → Prop := fun i H2 => ∃ W2 S2' acc accW zs, Le W1 H1 W2 H2 ∧ StOk (CC X ct exF) W2 S2' H2 ∧ W2.Z D = true ∧ D ∉ W2.η ∧ H2 D = some (.lst acc) ∧ RWs X.K W2 H2 acc accW ∧ acc.length ≤ i ∧ compL tg t f (wipeE ρ vs) (ws.drop i) S2' = .ok zs S2 ∧ accW ++ zs = ys
      have hDz : W1.Z D = false := st1.fresh hD
      have hDe : D ∉ W1.η := fun z => st1.edom D z hD
      have start : IV 0 (upd H1 D (.lst [])) := by
        have sm := same_upd hD (.lst [])
        let W2 : Wd := ⟨W1.η, fun a => (a == D) || W1.Z a⟩
        have lz : Le W1 H1 W2 (upd H1 D (.lst [])) := by
          refine ⟨fun a o _ h => sm a o h, fun a h => sm.free h, fun a h => ?_, fun a h _ _ => ?_, ⟨[], by simp [W2], by simp⟩⟩
          · have h' : ((a == D) || W1.Z a) = true := h
            rcases Bool.or_eq_true_iff.mp h' with z | z
            · rw [beq_iff_eq.mp z]; exact .inr hD
            · exact .inl z
          · show ((a == D) || W1.Z a) = true
            rw [h, Bool.or_true]
        refine ⟨W2, S1, [], [], ys, lz, ⟨st1.len, fun k a o h1 h2 h3 => ?_, st1.nd, fun a h => ?_, fun a h => ?_⟩, by show ((D == D) || W1.Z D) = true; rw [beq_self_eq_true, Bool.true_or], hDe, upd_same, .nil, Nat.le_refl _, by simpa using e1, rfl⟩
        · obtain ⟨z, u, hu, m⟩ := st1.here k a o h1 h2 h3
          exact ⟨by show ((a == D) || W1.Z a) = true; rw [z, Bool.or_true], u, sm _ _ hu, MoR.le lz m⟩
        · have h' : ((a == D) || W1.Z a) = true := h
          rcases Bool.or_eq_true_iff.mp h' with z | z
          · rw [beq_iff_eq.mp z, upd_same]; exact Option.some_ne_none _
          · exact fun n => st1.dom a z (sm.free n)
        · exact fun n => st1.edom a h (sm.free n)
      refine ⟨fun i m H2 => m = ws.length - i ∧ i ≤ ws.length ∧ IV i H2, ⟨ws.length, by simp, Nat.zero_le _, start⟩, ?_⟩
      rintro i m H2 ⟨rfl, hi, W2, S2', acc, accW, zs, l2, st2, zD, nD, hHD, ra, hal, ec, eys⟩
      by_cases hlt : i < ws.length
      · refine .inr ⟨wk.goes i W2 S2' H2 l2 ⟨st2.len, st2.here, st2.nd, st2.dom, st2.edom⟩ hlt, IV (i + 1), fun H' h => ⟨ws.length - (i + 1), by omega, rfl, hlt, h⟩, fun x H' y => ?_⟩
        obtain ⟨sm, w, ew, rw'⟩ := wk.yields i W2 S2' H2 x H' l2 ⟨st2.len, st2.here, st2.nd, st2.dom, st2.edom⟩ hlt y
        have lg := Le.grow (W := W2) sm
        have stg := st2.grow sm
        have l2g := l2.trans lg
        have ed : ws.drop i = w :: ws.drop (i + 1) := by
          rw [List.drop_eq_getElem_cons hlt]
          have : ws[i] = w := by
            have := List.getElem?_eq_getElem hlt
            rw [ew] at this
            exact (Option.some.inj this).symm
          rw [this]
        rw [ed, compL] at ec
        cases eb : bindT tg w (wipeE ρ vs) with
        | none => rw [eb] at ec; cases ec
        | some ρ1 =>
          rw [eb] at ec
          dsimp only at ec
          have kw := wipe_ok (k1.le l2g stg) vs
          refine ⟨W2, wipeE ρ vs, S2', w, ρ1, kw, rw', eb, fun σ2 k2 hw => ⟨?_, W2, ρ1, S2', k2, ?_⟩⟩
          · rw [hw]
            -- wiped twice
            have ww : ∀ (us : List Nat) (τ : L2.St), (∀ i ∈ us, i ∈ vs) → wipe (wipe τ us) vs = wipe τ vs := by
              intro us
              induction us with
              | nil => intro τ _; rfl
              | cons u us ih =>
                intro τ hu
                show wipe ((wipe τ us).set u none) vs = _
                rw [wipe_set (hu u List.mem_cons_self)]
                exact ih τ fun i hi => hu i (List.mem_cons_of_mem _ hi)
            exact ww vs σ fun _ h => h
          · cases et : t ρ1 S2' with
            | exc c S3 => rw [et] at ec; cases ec
            | bad => rw [et] at ec; cases ec
            | ok b S3 =>
              rw [et] at ec
              intro W3 H3 l3 st3
              have zD3 : W3.Z D = true := l3.kee D zD nD (by rw [sm _ _ hHD]; exact Option.some_ne_none _)
              have nD3 : D ∉ W3.η := l3.nin nD (sm _ _ hHD)
              have hD3 : H3 D = some (.lst acc) := l3.ext D _ (.inl nD) (sm _ _ hHD)
              have ra3 := RWs.le (lg.trans l3) _ _ ra
              cases b with
              | false =>
                rw [if_neg Bool.false_ne_true]
                exact ⟨W3, S3, acc, accW, zs, l2g.trans l3, st3, zD3, nD3, hD3, ra3, by omega, ec, eys⟩
              | true =>
                rw [if_pos rfl]
                dsimp only at ec
                refine ⟨W3, ρ1, S3, k2.le l3 st3, ?_⟩
                cases ef : f ρ1 S3 with
                | exc c S4 => rw [ef] at ec; cases ec
                | bad => rw [ef] at ec; cases ec
                | ok yy S4 =>
                  rw [ef] at ec
                  dsimp only at ec
                  intro yv W4 H4 l4 st4 ry
                  cases er : compL tg t f (wipeE ρ vs) (ws.drop (i + 1)) S4 with
                  | exc c S5 => rw [er] at ec; cases ec
                  | bad => rw [er] at ec; cases ec
                  | ok zs' S5 =>
                    rw [er] at ec
                    have ec' : Res.ok (yy :: zs') S5 = .ok zs S2 := ec
                    injection ec' with ez eS
                    have hD4 : H4 D = some (.lst acc) := l4.ext D _ (.inl nD3) hD3
                    have zD4 : W4.Z D = true := l4.kee D zD3 nD3 (by rw [hD3]; exact Option.some_ne_none _)
                    have nD4 : D ∉ W4.η := l4.nin nD3 hD3
                    have ra4 := RWs.le l4 _ _ ra3
                    refine ⟨acc, hD4, by rw [line_eq]; omega, ?_⟩
                    have l14 := (l2g.trans l3).trans l4
                    have hmk : mask W4.Z (upd H4 D (.lst (acc ++ [yv]))) = mask W4.Z H4 := by
                      funext a
                      unfold mask
                      by_cases ha : a = D
                      · subst ha; rw [zD4]; rfl
                      · rw [upd_ne ha]
                    have hm : Same (mask W4.Z H4) (mask W4.Z (upd H4 D (.lst (acc ++ [yv])))) := by rw [hmk]; exact Same.refl _
                    refine ⟨W4, S4, acc ++ [yv], accW ++ [yy], zs', ⟨fun a o hi' h => ?_, fun a h => ?_, l14.gro, l14.kee, l14.pre⟩, ⟨st4.len, fun k a o h1 h2 h3 => ?_, st4.nd, fun a h => ?_, fun a h => ?_⟩, zD4, nD4, upd_same, RWs.mv hm (fun _ _ h => h) _ _ (RWs.append ra4 (.cons ry .nil)), by rw [List.length_append]; simp; omega, by rw [er, eS], by rw [← eys, ← ez]; simp⟩
                    · rw [upd_ne (ne_of_none h hD)]; exact l14.ext a o hi' h
                    · by_cases ha : a = D
                      · subst ha; rw [upd_same] at h; cases h
                      · rw [upd_ne ha] at h; exact l14.dom a h
                    · obtain ⟨z, u, hu, m⟩ := st4.here k a o h1 h2 h3
                      have ha : a ≠ D := fun e => nD4 (e ▸ List.mem_of_getElem? h1)
                      exact ⟨z, u, by rw [upd_ne ha]; exact hu, MoR.mv hm (fun _ _ h => h) m⟩
                    · by_cases ha : a = D
                      · subst ha; rw [upd_same]; exact Option.some_ne_none _
                      · rw [upd_ne ha]; exact st4.dom a h
                    · by_cases ha : a = D
                      · subst ha; rw [upd_same]; exact Option.some_ne_none _
                      · rw [upd_ne ha]; exact st4.edom a h
      · have e0 : i = ws.length := by omega
        subst e0
        rw [List.drop_length, compL] at ec
        have ec' : Res.ok [] S2' = .ok zs S2 := ec
        injection ec' with ez eS
        subst ez eS
        rw [List.append_nil] at eys
        subst eys
        refine .inl ⟨wk.stops W2 S2' H2 l2 ⟨st2.len, st2.here, st2.nd, st2.dom, st2.edom⟩, ?_⟩
        -- D is shown
        let W4 : Wd := ⟨W2.η, fun a => W2.Z a && !(a == D)⟩
        have hm : Same (mask W2.Z H2) (mask W4.Z H2) := fun a o h => by
          obtain ⟨z, e⟩ := mask_some h
          exact mask_of (by show (W2.Z a && !(a == D)) = false; rw [z, Bool.false_and]) e
        have l14 : Le W1 H1 W4 H2 := by
          refine ⟨l2.ext, l2.dom, fun a h => l2.gro a ?_, fun a h hn hs => ?_, l2.pre⟩
          · have h' : (W2.Z a && !(a == D)) = true := h
            exact (Bool.and_eq_true_iff.mp h').1
          · have ha : a ≠ D := fun e => hs (e ▸ hD)
            show (W2.Z a && !(a == D)) = true
            rw [l2.kee a h hn hs, beq_eq_false_iff_ne.mpr ha]; rfl
        have st4 : StOk (CC X ct ex) W4 S2' H2 := by
          refine ⟨st2.len, fun k a o h1 h2 h3 => ?_, st2.nd, fun a h => st2.dom a ?_, st2.edom⟩
          · obtain ⟨z, u, hu, m⟩ := st2.here k a o h1 h2 h3
            have ha : a ≠ D := fun e => nD (e ▸ List.mem_of_getElem? h1)
            exact ⟨by show (W2.Z a && !(a == D)) = true; rw [z, beq_eq_false_iff_ne.mpr ha]; rfl, u, hu, MoR.mv (C := CC X ct ex) hm (fun _ _ h => h) m⟩
          · have h' : (W2.Z a && !(a == D)) = true := h
            exact (Bool.and_eq_true_iff.mp h').1
        refine p1 _ W4 H2 l14 st4 ?_
        have ra' := RWs.mv (W1 := W4) hm (fun _ _ h => h) _ _ ra
        have hmD : mask W4.Z H2 D = some (.lst acc) := mask_of (by show (W2.Z D && !(D == D)) = false; rw [beq_self_eq_true]; simp) hHD
        unfold mkSq
        cases ea : allD accW with
        | none => exact .sl hmD ra'
        | some ds =>
          rw [allD_eq ea] at ra'
          exact .d (.lst (SqL.of hmD) ra'.toD)
end
end PL

/-! # PL, part H: the store's changes, calls, defs -/
namespace PL
open PySem PySem.Spec PyProof.Rows L2

/-! ### comprehensions as expressions -/
section
variable {X : Cx} {ct : Str → Addr} {ex : WX}
theorem ee_lc {elt tg iter : Expr} {ifs : List Expr} {scope : Scope} {own : List (Str × Nat)} {pos : Pos} {it : If} {g : Tg} {t : Bf} {f : Ef} (hc : X.calm = true) (hN : X.N.Nodup) (ok : BlkOk X.N X.env.scope scope own) (hi : PI X tg iter (tI (CC X ct ex) it))
    (hg : ∀ (s : Shared) (H : Hp) (C : Addr) (cl : List (Str × Addr)) (fp : List Addr), PG (X.blk s H scope (compEnvC scope cl C X.env) fp) tg (tGw (CC (X.blk s H scope (compEnvC scope cl C X.env) fp) ct exF) g (own.map (·.2))))
    (ht : ∀ (s : Shared) (H : Hp) (C : Addr) (cl : List (Str × Addr)) (fp : List Addr), PTs (X.blk s H scope (compEnvC scope cl C X.env) fp) ifs (tB (CC (X.blk s H scope (compEnvC scope cl C X.env) fp) ct exF) t))
    (he : ∀ (s : Shared) (H : Hp) (C : Addr) (cl : List (Str × Addr)) (fp : List Addr), PE (X.blk s H scope (compEnvC scope cl C X.env) fp) elt (tE (CC (X.blk s H scope (compEnvC scope cl C X.env) fp) ct exF) f))
    (hs : ∀ x, foldedSetIterable iter X.env x = pure x := by intro _; rfl) : PE X (.ListComp elt [⟨tg, iter, ifs, 0⟩] scope pos) (tE (CC X ct ex) (eComp it g t f (own.map (·.2)))) :=
  PE.imp (pe_lc hc hN hi ok hg ht he hs) fun _ _ _ q => comp_read q
/-- name = [..] on one line -/
theorem ss_setLc {i : Nat} {y : Str} {py : Pos} {elt tg iter : Expr} {ifs : List Expr} {scope : Scope} {own : List (Str × Nat)} {pos spos : Pos} {it : If} {g : Tg} {t : Bf} {f : Ef} (hc : X.calm = true) (hN : X.N.Nodup) (ok : BlkOk X.N X.env.scope scope own) (hi : PI X tg iter (tI (CC X ct ex) it))
    (hg : ∀ (s : Shared) (H : Hp) (C : Addr) (cl : List (Str × Addr)) (fp : List Addr), PG (X.blk s H scope (compEnvC scope cl C X.env) fp) tg (tGw (CC (X.blk s H scope (compEnvC scope cl C X.env) fp) ct exF) g (own.map (·.2))))
    (ht : ∀ (s : Shared) (H : Hp) (C : Addr) (cl : List (Str × Addr)) (fp : List Addr), PTs (X.blk s H scope (compEnvC scope cl C X.env) fp) ifs (tB (CC (X.blk s H scope (compEnvC scope cl C X.env) fp) ct exF) t))
    (he : ∀ (s : Shared) (H : Hp) (C : Addr) (cl : List (Str × Addr)) (fp : List Addr), PE (X.blk s H scope (compEnvC scope cl C X.env) fp) elt (tE (CC (X.blk s H scope (compEnvC scope cl C X.env) fp) ct exF) f))
    (hy : X.N[i]? = some y := by rfl) (hyl : X.env.scope.names.lookup y = some .local := by rfl)
    (hsw : swapsWith (.ListComp elt [⟨tg, iter, ifs, 0⟩] scope pos) (some (.Name y py)) spos.line X.env = pure true := by exact sw_true rfl rfl rfl (by decide +kernel)) (hs : ∀ x, foldedSetIterable iter X.env x = pure x := by intro _; rfl) :
    PS X (.Assign [.Name y py] (.ListComp elt [⟨tg, iter, ifs, 0⟩] scope pos) spos) (tS (CC X ct ex) (sAsg (.nm i) (eComp it g t f (own.map (·.2))))) := by
  refine PS.imp (ps_setLc (g := tGw (CC X ct exF) g (own.map (·.2))) (tt := tB (CC X ct exF) t) (te := tE (CC X ct exF) f) hc hN hy hyl hsw hi ok hg ht he hs) fun D σ H ⟨W, ρ, S, k, p⟩ => ?_
  have q : tE (CC X ct ex) (eComp it g t f (own.map (·.2))) σ H fun x H1 => gName i x σ H1 D.nx :=
    tE_S k p fun v w W1 S1 H1 k1 r1 p1 => p1 W1 _ H1 (Le.refl _ _) (k1.set r1 i)
  exact comp_read q
end

/-! ### the store -/
section
variable {C : Cn} {W : Wd} {S : Store} {H : Hp}
/-- an object's address differs from another one's -/
theorem StOk.ne (st : StOk C W S H) {k j : Nat} {a b : Addr} (h1 : W.η[k]? = some a) (h2 : W.η[j]? = some b) (h : k ≠ j) : a ≠ b := fun e => h (by
  subst e
  obtain ⟨l1, e1⟩ := List.getElem?_eq_some_iff.mp h1
  obtain ⟨l2, e2⟩ := List.getElem?_eq_some_iff.mp h2
  exact (List.getElem_inj st.nd).mp (e1.trans e2.symm))
theorem StOk.mput (st : StOk C W S H) {a : Addr} {u : HO} (hz : W.Z a = true) : mask W.Z (upd H a u) = mask W.Z H := by
  funext b
  unfold mask
  by_cases hb : b = a
  · subst hb; rw [hz]; rfl
  · rw [upd_ne hb]
/-- an object is changed -/
theorem StOk.put (st : StOk C W S H) {k : Nat} {a : Addr} {o o' : MO} {u' : HO} (h1 : W.η[k]? = some a) (h2 : S[k]? = some o) (h3 : o ≠ .dead) (m : MoR C W H u' o') : StOk C W (S.set k o') (upd H a u') ∧ Le W H W (upd H a u') := by
  obtain ⟨hz, u, hu, _⟩ := st.here k a o h1 h2 h3
  have hm : Same (mask W.Z H) (mask W.Z (upd H a u')) := by rw [st.mput hz]; exact Same.refl _
  refine ⟨⟨by rw [List.length_set]; exact st.len, fun j b x g1 g2 g3 => ?_, st.nd, fun b hb => ?_, fun b hb => ?_⟩, ⟨fun b x hi hx => ?_, fun b hb => ?_, fun b hb => .inl hb, fun b hb _ _ => hb, ⟨[], by simp, by simp⟩⟩⟩
  · by_cases hj : j = k
    · subst hj
      rw [h1] at g1; cases g1
      rw [List.getElem?_set_self (List.getElem?_eq_some_iff.mp h2).1] at g2; cases g2
      exact ⟨hz, u', upd_same, MoR.mv hm (fun _ _ h => h) m⟩
    · rw [List.getElem?_set_ne (Ne.symm hj)] at g2
      obtain ⟨z, y, hy, my⟩ := st.here j b x g1 g2 g3
      exact ⟨z, y, by rw [upd_ne (st.ne g1 h1 hj)]; exact hy, MoR.mv hm (fun _ _ h => h) my⟩
  · by_cases e : b = a
    · subst e; rw [upd_same]; exact Option.some_ne_none _
    · rw [upd_ne e]; exact st.dom b hb
  · by_cases e : b = a
    · subst e; rw [upd_same]; exact Option.some_ne_none _
    · rw [upd_ne e]; exact st.edom b hb
  · have e : b ≠ a := fun e => by
      subst e
      rcases hi with hi | hi
      · exact hi (List.mem_of_getElem? h1)
      · rw [hz] at hi; cases hi
    rw [upd_ne e]; exact hx
  · by_cases e : b = a
    · subst e; rw [upd_same] at hb; cases hb
    · rw [upd_ne e] at hb; exact hb
/-- a new object -/
theorem StOk.new (st : StOk C W S H) {p : Addr} {o : MO} {u : HO} (hp : H p = none) (m : MoR C W H u o) :
    StOk C ⟨W.η ++ [p], fun a => (a == p) || W.Z a⟩ (S ++ [o]) (upd H p u) ∧ Le W H ⟨W.η ++ [p], fun a => (a == p) || W.Z a⟩ (upd H p u) := by
  have sm := same_upd hp u
  have le : Le W H ⟨W.η ++ [p], fun a => (a == p) || W.Z a⟩ (upd H p u) := by
    refine ⟨fun a o _ h => sm a o h, fun a h => sm.free h, fun a h => ?_, fun a h _ _ => ?_, ⟨[p], rfl, fun a ha => by rw [List.mem_singleton.mp ha]; exact hp⟩⟩
    · have h' : ((a == p) || W.Z a) = true := h
      rcases Bool.or_eq_true_iff.mp h' with z | z
      · rw [beq_iff_eq.mp z]; exact .inr hp
      · exact .inl z
    · show ((a == p) || W.Z a) = true
      rw [h, Bool.or_true]
  refine ⟨⟨by rw [List.length_append, List.length_append, st.len]; rfl, fun k a x h1 h2 h3 => ?_, ?_, fun a h => ?_, fun a h => ?_⟩, le⟩
  · have h1' : (W.η ++ [p])[k]? = some a := h1
    by_cases hk : k < W.η.length
    · rw [List.getElem?_append_left hk] at h1'
      rw [List.getElem?_append_left (by rw [st.len]; exact hk)] at h2
      obtain ⟨z, y, hy, my⟩ := st.here k a x h1' h2 h3
      exact ⟨by show ((a == p) || W.Z a) = true; rw [z, Bool.or_true], y, sm _ _ hy, MoR.le le my⟩
    · rw [List.getElem?_append_right (by omega)] at h1'
      rw [List.getElem?_append_right (by rw [st.len]; omega), st.len] at h2
      cases e : k - W.η.length with
      | zero =>
        rw [e] at h1' h2
        have e1 : p = a := Option.some.inj h1'
        have e2 : o = x := Option.some.inj h2
        subst e1 e2
        exact ⟨by show ((p == p) || W.Z p) = true; rw [beq_self_eq_true, Bool.true_or], u, upd_same, MoR.le le m⟩
      | succ n => rw [e] at h1'; cases h1'
  · show (W.η ++ [p]).Nodup
    rw [List.nodup_append]
    exact ⟨st.nd, by simp, fun a ha b hb => by rw [List.mem_singleton.mp hb]; intro e; subst e; exact st.edom a ha hp⟩
  · have h' : ((a == p) || W.Z a) = true := h
    rcases Bool.or_eq_true_iff.mp h' with z | z
    · rw [beq_iff_eq.mp z, upd_same]; exact Option.some_ne_none _
    · exact fun n => st.dom a z (sm.free n)
  · rcases List.mem_append.mp h with z | z
    · exact fun n => st.edom a z (sm.free n)
    · rw [List.mem_singleton.mp z, upd_same]; exact Option.some_ne_none _
theorem new_ref (p : Addr) : RW C.K ⟨W.η ++ [p], fun a => (a == p) || W.Z a⟩ H (.ref p) (.o W.η.length) := .o (by show (W.η ++ [p])[W.η.length]? = some p; simp)
end
section
variable {X : Cx} {ct : Str → Addr} {ex : WX} {e o : Expr} {es : List Expr} {f g : Ef} {fl : Lf} {pos apos : Pos}
/-- a list display that will be changed -/
def eNewL (f : Lf) : Ef := fun ρ S => (f ρ S).bind fun ws S1 => if ws.length ≤ LINE then .ok (.o S1.length) (S1 ++ [.lst ws]) else .bad
theorem ee_newL (h : PA X es (tL (CC X ct ex) fl)) : PE X (.List es pos) (tE (CC X ct ex) (eNewL fl)) := by
  refine PE.imp (pe_lst h) fun σ H Q ⟨W, ρ, S, k, p⟩ => ?_
  refine tL_E k p fun vs ws W1 S1 H1 k1 r1 p1 => ?_
  by_cases hz : ws.length ≤ LINE
  · rw [if_pos hz] at p1
    refine ⟨by rw [r1.length, line_eq]; exact hz, fun q hq => ?_⟩
    obtain ⟨st, le⟩ := k1.st.new (o := .lst ws) (u := .lst vs) hq r1
    have r := new_ref (C := CC X ct ex) (W := W1) (H := upd H1 q (.lst vs)) q
    rw [← k1.st.len] at r
    exact p1 _ _ _ le st r
  · rw [if_neg hz] at p1; exact p1.elim
/-- x.append(e) of a mutable list -/
def lstAt (S : Store) (x : Wv) : Option (Nat × List Wv) := match x with
  | .o k => match S[k]? with
    | some (.lst l) => some (k, l)
    | _ => none
  | _ => none
theorem lstAt_eq {S : Store} {x : Wv} {k : Nat} {l : List Wv} (h : lstAt S x = some (k, l)) : x = .o k ∧ S[k]? = some (.lst l) := by
  unfold lstAt at h
  split at h
  · rename_i j
    split at h
    · rename_i m e; cases h; exact ⟨rfl, e⟩
    · cases h
  · cases h
theorem lstAt_at {W : Wd} {S : Store} {H : Hp} {v : V} {x : Wv} {k : Nat} {l : List Wv} (st : StOk (CC X ct ex) W S H) (r : RW X.K W H v x) (h : lstAt S x = some (k, l)) : ∃ a vs, v = .ref a ∧ W.η[k]? = some a ∧ S[k]? = some (.lst l) ∧ H a = some (.lst vs) ∧ RWs X.K W H vs l := by
  obtain ⟨rfl, e⟩ := lstAt_eq h
  cases r with
  | @o k a q =>
    obtain ⟨_, u, hu, m⟩ := st.here k a _ q e (by intro z; cases z)
    cases u with
    | lst vs => exact ⟨a, vs, rfl, q, e, hu, m⟩
    | _ => exact False.elim m
def appW (x : Wv) (ws : List Wv) (S : Store) : Res Wv := match ws with
  | [w] => match lstAt S x with
    | some (k, l) => if l.length < LINE then .ok (.d .none) (S.set k (.lst (l ++ [w]))) else .bad
    | none => .bad
  | _ => .bad
def eApp (f : Ef) (g : Lf) : Ef := fun ρ S => (f ρ S).bind fun x S1 => match lstAt S1 x with
  | none => .bad
  | some _ => (g ρ S1).bind fun ws S2 => appW x ws S2
theorem ee_app (ho : PE X o (tE (CC X ct ex) f)) (ha : PA X (e :: es) (tL (CC X ct ex) fl)) (hbase : attributeBase o "append" X.env (eval o X.env) = eval o X.env := by rfl)
    (hfew : ((backTo pos (starEach (e :: es) X.env)).all (fun x => !x.1) && (backToKw pos (keywordEach [] X.env)).all (fun x => x.1.isSome)
      && decide ((e :: es).length + ([] : List Keyword).length + (if ([] : List Keyword).isEmpty then 0 else 1) < 30)) = true := by rfl)
    (hline : (apos.endLine == pos.line) = true := by rfl) (hs : starEach (e :: es) X.env = (false, eval e X.env) :: starEach es X.env := by rfl) (hplain : (backTo pos (starEach es X.env)).any (·.1) = false := by rfl) :
    PE X (.Call (.Attribute o "append" apos) (e :: es) [] pos) (tE (CC X ct ex) (eApp f fl)) := by
  refine PE.imp (pe_bm PySem.F.plainAttrs_list PySem.F.slot_list_append PySem.F.type_list_append mt_append ho ha hbase hfew hline hs hplain) fun σ H Q ⟨W, ρ, S, k, p⟩ => ?_
  refine tE_E k p fun v x W1 S1 H1 k1 r1 p1 => ?_
  cases e1 : lstAt S1 x with
  | none => rw [e1] at p1; exact p1.elim
  | some kl =>
    rw [e1] at p1
    dsimp only at p1
    obtain ⟨a, vs, rfl, h1, h2, h3, h4⟩ := lstAt_at k1.st r1 (k := kl.1) (l := kl.2) e1
    refine ⟨.inl ⟨rfl, _, SqL.of h3⟩, W1, ρ, S1, k1, ?_⟩
    cases e2 : fl ρ S1 with
    | exc c S2 => rw [e2] at p1; exact p1
    | bad => rw [e2] at p1; exact p1
    | ok ws S2 =>
      rw [e2] at p1
      intro us W2 H2 l2 st2 r2
      have p2 : PostR (CC X ct ex) W1 σ H1 (appW x ws S2) Q := p1
      unfold appW at p2
      cases r2 with
      | nil => exact p2.elim
      | @cons u1 us' w ws' rw' rs =>
        cases rs with
        | cons _ _ => exact p2.elim
        | nil =>
          dsimp only at p2
          cases e3 : lstAt S2 x with
          | none => rw [e3] at p2; exact p2.elim
          | some kl2 =>
            obtain ⟨k2, l⟩ := kl2
            rw [e3] at p2
            dsimp only at p2
            obtain ⟨b, ys, eb, g1, g2, g3, g4⟩ := lstAt_at st2 (RW.le l2 _ _ r1) e3
            cases eb
            by_cases hz : l.length < LINE
            · rw [if_pos hz] at p2
              refine ⟨_, _, _, rfl, rfl, g3, by rw [g4.length, line_eq]; exact hz, ?_⟩
              obtain ⟨st3, l3⟩ := st2.put (u' := .lst (ys ++ [u1])) (o' := .lst (l ++ [w])) g1 g2 (by intro z; cases z) (RWs.append g4 (.cons rw' .nil))
              exact p2 _ W2 _ (l2.trans l3) st3 (.d .non)
            · rw [if_neg hz] at p2; exact p2.elim
end
/-! ### a mutable list is not changed any more -/
def frz (i : Nat) (g : Sf) : Sf := fun ρ S => match ρ[i]? with
  | some (some x) => match lstAt S x with
    | some (k, l) => g (ρ.set i (some (mkSq false l))) (S.set k .dead)
    | none => .bad
  | _ => .bad
section
variable {X : Cx} {ct : Str → Addr} {ex : WX}
theorem ss_frz (i : Nat) {sts : List Stmt} {g : Sf} (h : PSs X sts (tS (CC X ct ex) g)) : PSs X sts (tS (CC X ct ex) (frz i g)) := by
  refine PSs.imp h fun D σ H ⟨W, ρ, S, k, p⟩ => ?_
  unfold frz at p
  cases e0 : ρ[i]? with
  | none => rw [e0] at p; exact p.elim
  | some ox =>
    rw [e0] at p
    cases ox with
    | none => exact p.elim
    | some x =>
      dsimp only at p
      cases e1 : lstAt S x with
      | none => rw [e1] at p; exact p.elim
      | some kl =>
        obtain ⟨kk, l⟩ := kl
        rw [e1] at p
        dsimp only at p
        obtain ⟨v, ev, r⟩ := k.env i x e0
        obtain ⟨a, vs, rfl, h1, h2, h3, h4⟩ := lstAt_at k.st r e1
        obtain ⟨hz, -, -, -⟩ := k.st.here kk a _ h1 h2 (by intro z; cases z)
        let W' : Wd := ⟨W.η, fun b => W.Z b && !(b == a)⟩
        have hm : Same (mask W.Z H) (mask W'.Z H) := fun b o hb => by
          obtain ⟨z, e⟩ := mask_some hb
          exact mask_of (by show (W.Z b && !(b == a)) = false; rw [z, Bool.false_and]) e
        have le : Le W H W' H := by
          refine ⟨fun _ _ _ h => h, fun _ h => h, fun b hb => .inl ?_, fun b hb hn _ => ?_, ⟨[], by simp [W'], by simp⟩⟩
          · have h' : (W.Z b && !(b == a)) = true := hb
            exact (Bool.and_eq_true_iff.mp h').1
          · have ne : b ≠ a := fun e => hn (e ▸ List.mem_of_getElem? h1)
            show (W.Z b && !(b == a)) = true
            rw [hb, beq_eq_false_iff_ne.mpr ne]; rfl
        have st' : StOk (CC X ct ex) W' (S.set kk .dead) H := by
          refine ⟨by rw [List.length_set]; exact k.st.len, fun j b o g1 g2 g3 => ?_, k.st.nd, fun b hb => k.st.dom b ?_, k.st.edom⟩
          · by_cases hj : j = kk
            · subst hj
              rw [List.getElem?_set_self (List.getElem?_eq_some_iff.mp h2).1] at g2
              cases g2
              exact absurd rfl g3
            · rw [List.getElem?_set_ne (Ne.symm hj)] at g2
              obtain ⟨z, y, hy, my⟩ := k.st.here j b o g1 g2 g3
              have ne : b ≠ a := k.st.ne g1 h1 hj
              exact ⟨by show (W.Z b && !(b == a)) = true; rw [z, beq_eq_false_iff_ne.mpr ne]; rfl, y, hy, MoR.mv hm (fun _ _ h => h) my⟩
          · have h' : (W.Z b && !(b == a)) = true := hb
            exact (Bool.and_eq_true_iff.mp h').1
        have r' : RW X.K W' H (.ref a) (mkSq false l) := by
          have h4' := RWs.mv (W1 := W') hm (fun _ _ h => h) _ _ h4
          have hmD : mask W'.Z H a = some (.lst vs) := mask_of (by show (W.Z a && !(a == a)) = false; rw [beq_self_eq_true]; simp) h3
          unfold mkSq
          cases ea : allD l with
          | none => exact .sl hmD h4'
          | some ds =>
            rw [allD_eq ea] at h4'
            exact .d (.lst (SqL.of hmD) h4'.toD)
        refine ⟨W', _, _, ⟨st', by rw [List.length_set]; exact k.len, fun j w e => ?_⟩, PostS.le le p⟩
        by_cases hj : i = j
        · subst hj
          rw [List.getElem?_set_self (List.getElem?_eq_some_iff.mp e0).1] at e
          cases e
          exact ⟨_, ev, r'⟩
        · rw [List.getElem?_set_ne hj] at e
          obtain ⟨u, e1, ru⟩ := k.env j w e
          exact ⟨u, e1, RW.mv hm (fun _ _ h => h) _ _ ru⟩
end

/-! ### promises -/
/-- a def of data alone -/
def spP (K : PySem.W.Frag) (ct : Str → Addr) (n : Nat) (F : List PyData → PRes) : Sp := fun vs H Q E => vs.length = n ∧ ∃ (Z : Addr → Bool) (ds : List PyData), (∀ a, Z a = true → H a ≠ none) ∧ DpAll K (mask Z H) vs ds ∧
  match F ds with
  | .ok d => ∀ v H', Same H H' → Dp K (mask Z H') v d → Q v H'
  | .exc c => ∀ H', Same H H' → E (.ref (ct c)) none H'
  | .bad => False
/-- a def that is handed mutable objects -/
def spG (K : PySem.W.Frag) (ct : Str → Addr) (n : Nat) (F : List Wv → Store → Res Wv) : Sp := fun vs H Q E => vs.length = n ∧ ∃ (W : Wd) (S : Store) (ws : List Wv), StOk ⟨K, ct, exF⟩ W S H ∧ RWs K W H vs ws ∧
  match F ws S with
  | .ok w S' => ∀ v W' H', Le W H W' H' → StOk ⟨K, ct, exF⟩ W' S' H' → RW K W' H' v w → Q v H'
  | .exc c S' => ∀ W' H', Le W H W' H' → StOk ⟨K, ct, exF⟩ W' S' H' → E (.ref (ct c)) none H'
  | .bad => False
theorem StOk.cx {K : PySem.W.Frag} {ct : Str → Addr} {ex ex' : WX} {W : Wd} {S : Store} {H : Hp} (st : StOk ⟨K, ct, ex⟩ W S H) : StOk ⟨K, ct, ex'⟩ W S H := ⟨st.len, st.here, st.nd, st.dom, st.edom⟩
def callP (F : List PyData → PRes) (ws : List Wv) (S : Store) : Res Wv := match allD ws with
  | some ds => match F ds with
    | .ok d => .ok (.d d) S
    | .exc c => .exc c S
    | .bad => .bad
  | none => .bad
def eCallP (F : List PyData → PRes) (f : Lf) : Ef := fun ρ S => (f ρ S).bind fun ws S1 => callP F ws S1
def eCallG (F : List Wv → Store → Res Wv) (f : Lf) : Ef := fun ρ S => (f ρ S).bind fun ws S1 => F ws S1
section
variable {X : Cx} {ct : Str → Addr} {ex : WX} {e : Expr} {es : List Expr} {fl : Lf} {p pos : Pos} {k n : Nat} {f : Addr} {fd : FuncData} {ps : List Str} {x : Str}
theorem callP_read {F : List PyData → PRes} {σ : L2.St} {H : Hp} {Q : VK} {vs : List V} {ws : List Wv} {W : Wd} {ρ : En} {S : Store} (hl : vs.length = n) (k : Ok (CC X ct ex) W ρ S σ H) (r : RWs X.K W H vs ws) (q : PostR (CC X ct ex) W σ H (callP F ws S) Q) : spP X.K ct n F vs H Q (WE ex σ) := by
  unfold callP at q
  cases e : allD ws with
  | none => rw [e] at q; exact q.elim
  | some ds =>
    rw [e] at q
    dsimp only at q
    refine ⟨hl, W.Z, ds, k.st.dom, ?_, ?_⟩
    · rw [allD_eq e] at r; exact r.toD
    · cases e2 : F ds with
      | ok d => rw [e2] at q; exact fun v H' s h => q v W H' (Le.grow s) (k.st.grow s) (.d h)
      | exc c => rw [e2] at q; exact fun H' s => q W H' (Le.grow s) (k.st.grow s)
      | bad => rw [e2] at q; exact q
theorem callG_read {F : List Wv → Store → Res Wv} {σ : L2.St} {H : Hp} {Q : VK} {vs : List V} {ws : List Wv} {W : Wd} {ρ : En} {S : Store} (hl : vs.length = n) (k : Ok (CC X ct ex) W ρ S σ H) (r : RWs X.K W H vs ws) (q : PostR (CC X ct ex) W σ H (F ws S) Q) : spG X.K ct n F vs H Q (WE ex σ) := by
  refine ⟨hl, W, S, ws, k.st.cx, r, ?_⟩
  cases e2 : F ws S with
  | ok d S' => rw [e2] at q; exact fun v W' H' l st h => q v W' H' l st.cx h
  | exc c S' => rw [e2] at q; exact fun W' H' l st => q W' H' l st.cx
  | bad => rw [e2] at q; exact q
/-- how many arguments -/
def lenL (f : Lf) (n : Nat) : Prop := ∀ ρ S ws S', f ρ S = .ok ws S' → ws.length = n
theorem lenL_nil : lenL aNil 0 := fun _ _ _ _ e => by cases e; rfl
theorem lenL_cons {f : Ef} {g : Lf} {n : Nat} (h : lenL g n) : lenL (aCons f g) (n + 1) := fun ρ S ws S' e => by
  unfold aCons at e
  cases e1 : f ρ S with
  | exc c S1 => rw [e1] at e; cases e
  | bad => rw [e1] at e; cases e
  | ok w S1 =>
    rw [e1] at e
    have e' : ((g ρ S1).bind fun ws S2 => Res.ok (w :: ws) S2) = .ok ws S' := e
    cases e2 : g ρ S1 with
    | exc c S2 => rw [e2] at e'; cases e'
    | bad => rw [e2] at e'; cases e'
    | ok us S2 =>
      rw [e2] at e'
      have e3 : Res.ok (w :: us) S2 = .ok ws S' := e'
      injection e3 with e4 e5
      rw [← e4, List.length_cons, h ρ S1 us S2 e2]
theorem ee_callP {F : List PyData → PRes} (G : FnOk X.prog X.w X.K X.mg X.base (L2.CX X.prog X.w) k f fd ps (spP X.K ct n F)) (hr : Room k X.A) (hm : X.mg x = some (.ref f)) (hk : PySem.W.keepIn X.K (.ref f) = true) (hb : Binds X.K fd ps []) (tk : Takes X ex) (ha : PA X (e :: es) (tL (CC X ct ex) fl)) (hl : lenL fl n)
    (hg : Gl X x := by rfl) (hdb : (x == ("__debug__" : Str)) = false := by decide) (he : starEach (e :: es) X.env = (false, eval e X.env) :: starEach es X.env := by rfl) (hpl : (backTo pos (starEach es X.env)).any (·.1) = false := by rfl) :
    PE X (.Call (.Name x p) (e :: es) [] pos) (tE (CC X ct ex) (eCallP F fl)) := by
  refine PE.imp (pe_callS G hr hg hm hk hb (fun σ => passAt tk σ) ha hdb he hpl) fun σ H Q ⟨W, ρ, S, k, p⟩ => ?_
  refine ⟨W, ρ, S, k, ?_⟩
  unfold eCallP at p
  cases e0 : fl ρ S with
  | exc c S1 => rw [e0] at p; exact p
  | bad => rw [e0] at p; exact p
  | ok ws S1 =>
    rw [e0] at p
    exact fun vs W1 H1 l st r => callP_read (by rw [r.length]; exact hl _ _ _ _ e0) (k.le l st) r (PostR.le l p)
theorem ee_callG {F : List Wv → Store → Res Wv} (G : FnOk X.prog X.w X.K X.mg X.base (L2.CX X.prog X.w) k f fd ps (spG X.K ct n F)) (hr : Room k X.A) (hm : X.mg x = some (.ref f)) (hk : PySem.W.keepIn X.K (.ref f) = true) (hb : Binds X.K fd ps []) (tk : Takes X ex) (ha : PA X (e :: es) (tL (CC X ct ex) fl)) (hl : lenL fl n)
    (hg : Gl X x := by rfl) (hdb : (x == ("__debug__" : Str)) = false := by decide) (he : starEach (e :: es) X.env = (false, eval e X.env) :: starEach es X.env := by rfl) (hpl : (backTo pos (starEach es X.env)).any (·.1) = false := by rfl) :
    PE X (.Call (.Name x p) (e :: es) [] pos) (tE (CC X ct ex) (eCallG F fl)) := by
  refine PE.imp (pe_callS G hr hg hm hk hb (fun σ => passAt tk σ) ha hdb he hpl) fun σ H Q ⟨W, ρ, S, k, p⟩ => ?_
  refine ⟨W, ρ, S, k, ?_⟩
  unfold eCallG at p
  cases e0 : fl ρ S with
  | exc c S1 => rw [e0] at p; exact p
  | bad => rw [e0] at p; exact p
  | ok ws S1 =>
    rw [e0] at p
    exact fun vs W1 H1 l st r => callG_read (by rw [r.length]; exact hl _ _ _ _ e0) (k.le l st) r (PostR.le l p)
end

/-! ### defs -/
def startE (n : Nat) (ws : List Wv) : En := ws.map some ++ List.replicate (n - ws.length) none
def runG (n : Nat) (body : Sf) (ws : List Wv) (S : Store) : Res Wv := match body (startE n ws) S with
  | .rt w S' => .ok w S'
  | .nx _ S' => .ok (.d .none) S'
  | .exc c _ S' => .exc c S'
  | _ => .bad
def runP (n : Nat) (body : Sf) (ds : List PyData) : PRes := match body (startE n (ds.map .d)) [] with
  | .rt (.d d) _ => .ok d
  | .nx _ _ => .ok .none
  | .exc c _ _ => .exc c
  | _ => .bad
theorem start_get {N : List Str} {vs : List V} {i : Nat} {v : V} (h : vs[i]? = some v) : (L2.start N vs)[i]? = some (some v) := by
  unfold L2.start
  rw [List.getElem?_append_left (by rw [List.length_map]; exact (List.getElem?_eq_some_iff.mp h).1), List.getElem?_map, h]; rfl
theorem startE_get {n : Nat} {ws : List Wv} {i : Nat} {w : Wv} (h : (startE n ws)[i]? = some (some w)) : ws[i]? = some w := by
  unfold startE at h
  by_cases hi : i < ws.length
  · rw [List.getElem?_append_left (by rw [List.length_map]; exact hi), List.getElem?_map] at h
    cases e : ws[i]? with
    | none => rw [e] at h; cases h
    | some x => rw [e] at h; cases h; rfl
  · rw [List.getElem?_append_right (by rw [List.length_map]; omega), List.getElem?_replicate] at h
    split at h <;> cases h
theorem start_ok {C : Cn} {W : Wd} {S : Store} {H : Hp} {N : List Str} {vs : List V} {ws : List Wv} (st : StOk C W S H) (r : RWs C.K W H vs ws) : Ok C W (startE N.length ws) S (L2.start N vs) H := by
  refine ⟨st, by simp [startE, L2.start, r.length], fun i w e => ?_⟩
  obtain ⟨v, e1, r1⟩ := r.get (startE_get e)
  exact ⟨v, start_get e1, r1⟩
section
variable {P : Program} {w : World} {K : PySem.W.Frag} {mg : Str → Option Value} {base : Heap} {ct : Str → Addr} {x qual : Str} {st : Stmt} {f : Addr} {fd : FuncData} {N ps : List Str} {k : Nat}
abbrev cxD (P : Program) (w : World) (K : PySem.W.Frag) (mg : Str → Option Value) (base : Heap) (N : List Str) (qual : Str) (st : Stmt) (f : Addr) (cdv : Value) (A : Around) (outer : List Env) (s : Shared) (H : Hp) (E : XK) : Cx := cxOf (L2.CX P w) P w K mg base N qual (defScope st) f cdv A outer s H E
abbrev exD (E : XK) : WX := fun cls d _ H => E cls d H
theorem defG (F : Fun K x qual st f fd) (S : FnScope N ps (defScope st)) (body : Sf)
    (hb : ∀ (cdv : Value) (A : Around) (outer : List Env) (s : Shared) (H : Hp) (E : XK), Room k (A.deeper (envOfC qual (defScope st) s.heap.objs.size f cdv)) → PSs (cxD P w K mg base N qual st f cdv A outer s H E) (defBody st) (tS (CC (cxD P w K mg base N qual st f cdv A outer s H E) ct (exD E)) body)) :
    FnOk P w K mg base (L2.CX P w) (k + 1) f fd ps (spG K ct ps.length (runG N.length body)) := by
  refine F.okX S (fun vs H Q E h => h.1) fun cdv A outer s H vs Q E hr h => ⟨_, hb cdv A outer s H E hr, ?_⟩
  obtain ⟨hl, W, St, ws, so, r, m⟩ := h
  refine ⟨W, startE N.length ws, St, start_ok (C := CC (cxD P w K mg base N qual st f cdv A outer s H E) ct (exD E)) so.cx r, ?_⟩
  unfold runG at m
  cases e : body (startE N.length ws) St with
  | nx ρ S' => rw [e] at m; exact fun W' σ' H' l k' => m .non W' H' l k'.st.cx (.d .non)
  | rt u S' => rw [e] at m; exact fun v W' H' l st' r' => m v W' H' l st'.cx r'
  | bk ρ S' => rw [e] at m; exact m.elim
  | ct ρ S' => rw [e] at m; exact m.elim
  | exc c ρ S' => rw [e] at m; exact fun W' σ' H' l k' => m W' H' l k'.st.cx
  | bad => rw [e] at m; exact m.elim
theorem defP (F : Fun K x qual st f fd) (S : FnScope N ps (defScope st)) (body : Sf)
    (hb : ∀ (cdv : Value) (A : Around) (outer : List Env) (s : Shared) (H : Hp) (E : XK), Room k (A.deeper (envOfC qual (defScope st) s.heap.objs.size f cdv)) → PSs (cxD P w K mg base N qual st f cdv A outer s H E) (defBody st) (tS (CC (cxD P w K mg base N qual st f cdv A outer s H E) ct (exD E)) body)) :
    FnOk P w K mg base (L2.CX P w) (k + 1) f fd ps (spP K ct ps.length (runP N.length body)) := by
  refine F.okX S (fun vs H Q E h => h.1) fun cdv A outer s H vs Q E hr h => ⟨_, hb cdv A outer s H E hr, ?_⟩
  obtain ⟨hl, Z, ds, dom, dp, m⟩ := h
  let W : Wd := ⟨[], Z⟩
  have so : StOk (CC (cxD P w K mg base N qual st f cdv A outer s H E) ct (exD E)) W [] H := ⟨rfl, fun k a o h1 _ _ => (by cases h1), List.nodup_nil, dom, fun a h => (by cases h)⟩
  have r : RWs K W H vs (ds.map .d) := RWs.ofD dp
  have sm : ∀ {W' : Wd} {H' : Hp}, Le W H W' H' → Same H H' := fun l a o h => l.ext a o (.inl (by intro z; cases z)) h
  have hm : ∀ {W' : Wd} {H' : Hp}, Le W H W' H' → Same (mask W'.Z H') (mask Z H') := fun {W' H'} l a o h => by
    obtain ⟨z, e⟩ := mask_some h
    refine mask_of ?_ e
    cases q : Z a with
    | false => rfl
    | true =>
      have := l.kee a q (by intro z; cases z) (dom a q)
      rw [z] at this; cases this
  refine ⟨W, startE N.length (ds.map .d), [], start_ok (C := CC (cxD P w K mg base N qual st f cdv A outer s H E) ct (exD E)) so r, ?_⟩
  unfold runP at m
  cases e : body (startE N.length (ds.map .d)) [] with
  | nx ρ S' => rw [e] at m; exact fun W' σ' H' l k' => m .non H' (sm l) .non
  | rt u S' =>
    rw [e] at m
    intro v W' H' l st' r'
    cases r' with
    | d q => exact m v H' (sm l) (Dp.same (hm l) _ _ q)
    | _ => exact m.elim
  | bk ρ S' => rw [e] at m; exact m.elim
  | ct ρ S' => rw [e] at m; exact m.elim
  | exc c ρ S' => rw [e] at m; exact fun W' σ' H' l k' => m H' (sm l)
  | bad => rw [e] at m; exact m.elim
end
end PL

/-! # PL, part I: callees by name, raise, small built-ins -/
namespace PL
open PySem PySem.Spec PyProof.Rows L2

/-- the classes by their names -/
def ctOf (mg : Str → Option Value) (c : Str) : Addr := match mg c with
  | some (.ref a) => a
  | _ => 0
theorem ctOf_eq {mg : Str → Option Value} {c : Str} {a : Addr} (h : mg c = some (.ref a)) : ctOf mg c = a := by
  unfold ctOf
  rw [h]
/-- a def that stands in the text -/
def DefAt (K : PySem.W.Frag) (mg : Str → Option Value) (x : Str) (st : Stmt) (ps : List Str) : Prop := ∃ (f : Addr) (fd : FuncData), mg x = some (.ref f) ∧ Fun K x x st f fd ∧ Binds K fd ps []
/-- .. and what it promises -/
def Callee (P : Program) (w : World) (K : PySem.W.Frag) (mg : Str → Option Value) (base : Heap) (k : Nat) (x : Str) (ps : List Str) (sp : Sp) : Prop := ∃ (f : Addr) (fd : FuncData), mg x = some (.ref f) ∧ PySem.W.keepIn K (.ref f) = true ∧ Binds K fd ps [] ∧ FnOk P w K mg base (L2.CX P w) k f fd ps sp
theorem Callee.mono {P : Program} {w : World} {K : PySem.W.Frag} {mg : Str → Option Value} {base : Heap} {j k : Nat} {x : Str} {ps : List Str} {sp : Sp} (c : Callee P w K mg base j x ps sp) (h : j ≤ k) : Callee P w K mg base k x ps sp := by
  obtain ⟨f, fd, a, b, c, F⟩ := c
  exact ⟨f, fd, a, b, c, F.mono h⟩
/-- an own exception class -/
structure ExcOk (K : PySem.W.Frag) (mg : Str → Option Value) (c : Str) : Prop where
  g : mg c = some (.ref (ctOf mg c))
  x : PySem.W.excIn K (ctOf mg c) [.type "ValueError", .type "Exception", .type "BaseException", .type "object"] "ValueError.__new__" = true
  k : PySem.W.keepIn K (.ref (ctOf mg c)) = true
  b : PySem.W.subIn K (.ref (ctOf mg c)) (.type "BaseException") = some true
  t : PySem.W.typeIn K (.ref (ctOf mg c)) = some (.type "type")
section
variable {P : Program} {w : World} {K : PySem.W.Frag} {mg : Str → Option Value} {base : Heap} {x qual : Str} {st : Stmt} {f : Addr} {fd : FuncData} {N ps : List Str} {k : Nat}
theorem tkD {cdv : Value} {A : Around} {outer : List Env} {s : Shared} {H : Hp} {E : XK} : Takes (cxD P w K mg base N qual st f cdv A outer s H E) (exD E) := takes_of rfl rfl rfl rfl
theorem mkP (ct : Str → Addr) (D : DefAt K mg x st ps) (S : FnScope N ps (defScope st)) (body : Sf)
    (hb : ∀ (f : Addr) (cdv : Value) (A : Around) (outer : List Env) (s : Shared) (H : Hp) (E : XK), Room k (A.deeper (envOfC x (defScope st) s.heap.objs.size f cdv)) → PSs (cxD P w K mg base N x st f cdv A outer s H E) (defBody st) (tS (CC (cxD P w K mg base N x st f cdv A outer s H E) ct (exD E)) body)) :
    Callee P w K mg base (k + 1) x ps (spP K ct ps.length (runP N.length body)) := by
  obtain ⟨f, fd, hm, F, b⟩ := D
  exact ⟨f, fd, hm, F.kp, b, defP F S body (hb f)⟩
theorem mkG (ct : Str → Addr) (D : DefAt K mg x st ps) (S : FnScope N ps (defScope st)) (body : Sf)
    (hb : ∀ (f : Addr) (cdv : Value) (A : Around) (outer : List Env) (s : Shared) (H : Hp) (E : XK), Room k (A.deeper (envOfC x (defScope st) s.heap.objs.size f cdv)) → PSs (cxD P w K mg base N x st f cdv A outer s H E) (defBody st) (tS (CC (cxD P w K mg base N x st f cdv A outer s H E) ct (exD E)) body)) :
    Callee P w K mg base (k + 1) x ps (spG K ct ps.length (runG N.length body)) := by
  obtain ⟨f, fd, hm, F, b⟩ := D
  exact ⟨f, fd, hm, F.kp, b, defG F S body (hb f)⟩
end
section
variable {X : Cx} {ct : Str → Addr} {ex : WX} {e : Expr} {es : List Expr} {fl : Lf} {p pos pos2 : Pos} {k n : Nat} {ps : List Str} {x : Str}
theorem ee_cP {F : List PyData → PRes} (G : Callee X.prog X.w X.K X.mg X.base k x ps (spP X.K ct n F)) (hr : Room k X.A) (tk : Takes X ex) (ha : PA X (e :: es) (tL (CC X ct ex) fl)) (hl : lenL fl n)
    (hg : Gl X x := by rfl) (hdb : (x == ("__debug__" : Str)) = false := by decide) (he : starEach (e :: es) X.env = (false, eval e X.env) :: starEach es X.env := by rfl) (hpl : (backTo pos (starEach es X.env)).any (·.1) = false := by rfl) :
    PE X (.Call (.Name x p) (e :: es) [] pos) (tE (CC X ct ex) (eCallP F fl)) := by
  obtain ⟨f, fd, hm, hk, hb, FF⟩ := G
  exact ee_callP FF hr hm hk hb tk ha hl hg hdb he hpl
theorem ee_cG {F : List Wv → Store → Res Wv} (G : Callee X.prog X.w X.K X.mg X.base k x ps (spG X.K ct n F)) (hr : Room k X.A) (tk : Takes X ex) (ha : PA X (e :: es) (tL (CC X ct ex) fl)) (hl : lenL fl n)
    (hg : Gl X x := by rfl) (hdb : (x == ("__debug__" : Str)) = false := by decide) (he : starEach (e :: es) X.env = (false, eval e X.env) :: starEach es X.env := by rfl) (hpl : (backTo pos (starEach es X.env)).any (·.1) = false := by rfl) :
    PE X (.Call (.Name x p) (e :: es) [] pos) (tE (CC X ct ex) (eCallG F fl)) := by
  obtain ⟨f, fd, hm, hk, hb, FF⟩ := G
  exact ee_callG FF hr hm hk hb tk ha hl hg hdb he hpl
/-- X(), X an own exception class -/
theorem pmk_own0 (q : ExcOk X.K X.mg x) (hg : Gl X x := by rfl) (hdb : (x == ("__debug__" : Str)) = false := by decide) : PMk X (.Call (.Name x p) [] [] pos) (fun _ H Q => Q (.ref (ctOf X.mg x)) none H) := by
  intro pins s σ H Q I h
  refine wpAny_Call_Name_kw (ld_glob I hg q.g ?_ hdb)
  refine PySem.W.callWith_K0 I.kIn q.k ?_
  show wpAny _ _ (call (.ref (ctOf X.mg x)) []) _ _ _
  obtain ⟨bm, N, nm, qn, bs, hdct, sn, sub, ab, col, dd, k0, k1, k2, k3, k5, mN, hC, hN, hni, T⟩ := exc_obj I.kIn q.x
  refine wpAny_call_exc_subT PySem.F.excBase_ValueError T hC hN hni (fun h' e hm => ?_) (by show 0 ≤ sizeLine; exact Nat.zero_le _)
  exact mk_of I hm (raises_own q.b q.t) h (I.hok.gone hm.new)
theorem ss_raise (hc : X.calm = true) (tk : Takes X ex) (q : ExcOk X.K X.mg x) (hg : Gl X x := by rfl) (hdb : (x == ("__debug__" : Str)) = false := by decide) : PS X (.Raise (some (.Call (.Name x p) [] [] pos)) none pos2) (tS (CC X (ctOf X.mg) ex) (sRaise x)) :=
  PS.imp (ps_raise hc tk (pmk_own0 q hg hdb)) fun D σ H ⟨W, ρ, S, k, p⟩ => p W σ H (Le.refl _ _) k
/-- min, max of two ints -/
def oMin2 : PyData → PyData → Option PyData
  | .int i, .int j => some (.int (min i j))
  | _, _ => none
def oMax2 : PyData → PyData → Option PyData
  | .int i, .int j => some (.int (max i j))
  | _, _ => none
theorem ok_min2 : OpN (CC X ct ex) (fun xs H Q => ∃ i j, xs = [.int i, .int j] ∧ Q (.int (if j < i then j else i)) H) (o2 oMin2) := opN_two fun W S H v u x x' y Q st hx hy e q => by
  cases x <;> first | (cases e; done) | skip
  cases x' <;> first | (cases e; done) | skip
  rename_i i j
  cases hx; cases hy; cases e
  refine ⟨i, j, rfl, ?_⟩
  have : (if j < i then j else i) = min i j := by split <;> omega
  rw [this]
  exact q.flat fun _ => .int _
theorem ok_max2 : OpN (CC X ct ex) (fun xs H Q => ∃ i j, xs = [.int i, .int j] ∧ Q (.int (if j > i then j else i)) H) (o2 oMax2) := opN_two fun W S H v u x x' y Q st hx hy e q => by
  cases x <;> first | (cases e; done) | skip
  cases x' <;> first | (cases e; done) | skip
  rename_i i j
  cases hx; cases hy; cases e
  refine ⟨i, j, rfl, ?_⟩
  have : (if j > i then j else i) = max i j := by split <;> omega
  rw [this]
  exact q.flat fun _ => .int _
theorem ee_min2 {e2 : Expr} (hm : X.mg "min" = none) (hc : X.calm = true) (ha : PA X [e, e2] (tL (CC X ct ex) fl)) (hg : Gl X "min" := by rfl) (he : starEach (e :: [e2]) X.env = (false, eval e X.env) :: starEach [e2] X.env := by rfl) (hpl : (backTo pos (starEach [e2] X.env)).any (·.1) = false := by rfl) :
    PE X (.Call (.Name "min" p) [e, e2] [] pos) (tE (CC X ct ex) (eDN (o2 oMin2) fl)) := ee_callB (call_min2 hc) ok_min2 hm (by decide +kernel) ha hg (by decide) (by decide) he hpl
theorem ee_max2 {e2 : Expr} (hm : X.mg "max" = none) (hc : X.calm = true) (ha : PA X [e, e2] (tL (CC X ct ex) fl)) (hg : Gl X "max" := by rfl) (he : starEach (e :: [e2]) X.env = (false, eval e X.env) :: starEach [e2] X.env := by rfl) (hpl : (backTo pos (starEach [e2] X.env)).any (·.1) = false := by rfl) :
    PE X (.Call (.Name "max" p) [e, e2] [] pos) (tE (CC X ct ex) (eDN (o2 oMax2) fl)) := ee_callB (call_max2 hc) ok_max2 hm (by decide +kernel) ha hg (by decide) (by decide) he hpl
/-- int of a bool, of an int -/
def oInt : PyData → Option PyData
  | .int i => some (.int i)
  | .bool b => some (.int (if b then 1 else 0))
  | _ => none
theorem ok_int1 : OpN (CC X ct ex) (fun xs H Q => (∃ i, xs = [.int i] ∧ Q (.int i) H) ∨ ∃ k, xs = [.bl k] ∧ Q (.int (if k then 1 else 0)) H) (o1 oInt) := opN_one fun W S H v x y Q st hx e q => by
  cases x with
  | int i => cases hx; cases e; exact .inl ⟨_, rfl, q.flat fun _ => .int _⟩
  | bool b => cases hx; cases e; exact .inr ⟨_, rfl, q.flat fun _ => .int _⟩
  | _ => cases e
theorem ee_int1 (hm : X.mg "int" = none) (ha : PA X (e :: es) (tL (CC X ct ex) fl)) (hg : Gl X "int" := by rfl) (he : starEach (e :: es) X.env = (false, eval e X.env) :: starEach es X.env := by rfl) (hpl : (backTo pos (starEach es X.env)).any (·.1) = false := by rfl) :
    PE X (.Call (.Name "int" p) (e :: es) [] pos) (tE (CC X ct ex) (eDN (o1 oInt) fl)) := ee_callTy call_int1 ok_int1 hm (by decide +kernel) ha hg (by decide) (by decide) he hpl
/-- a * b -/
def oMul : PyData → PyData → Option PyData := fun x y => match x, y with | .int i, .int j => if (-(2 ^ 64) < i ∧ i < 2 ^ 64) ∨ (-(2 ^ 64) < j ∧ j < 2 ^ 64) then some (.int (i * j)) else none | _, _ => none
theorem ok_mul : Op2 (CC X ct ex) (rI CMul fun i j => .int (i * j)) oMul := ok_int (C0 := fun i j => (-(2 ^ 64) < i ∧ i < 2 ^ 64) ∨ (-(2 ^ 64) < j ∧ j < 2 ^ 64)) fun i j H Q hc q => ⟨i, j, rfl, rfl, hc, q⟩
end
end PL

/-! # PL, part J: lists or tuples or texts, rooms, more operators -/
namespace PL
open PySem PySem.Spec PyProof.Rows L2

theorem huA {A : Around} {k : Nat} (hr : Room k A) : A.units + 64 < cLine := by have := hr.un; omega
theorem huB {A : Around} {k : Nat} (hr : Room k A) : A.units + 65 < cLine := by have := hr.un; omega
theorem PI.or {X : Cx} {tg iter : Expr} {t u : TI} (h1 : PI X tg iter t) (h2 : PI X tg iter u) : PI X tg iter (fun σ H R => t σ H R ∨ u σ H R) :=
  ⟨fun pins s σ H R I h => h.elim (h1.run pins s σ H R I) (h2.run pins s σ H R I)⟩
/-- the letters of a text -/
def chs (x : Str) : List Wv := x.cps.toList.map fun c => .d (.str ⟨#[c]⟩)
def itA (w : Wv) : Option (List Wv) := match itL w with
  | some l => some l
  | none => match unpk w with
    | some l => some l
    | none => match w with
      | .d (.str x) => some (chs x)
      | _ => none
def iAny (f : Ef) : If := fun ρ S => (f ρ S).bind fun w S1 => match itA w with
  | some l => .ok l S1
  | none => .bad
def iChs (f : Ef) : If := fun ρ S => (f ρ S).bind fun w S1 => match w with
  | .d (.str x) => .ok (chs x) S1
  | _ => .bad
theorem walkStr {C : Cn} {W : Wd} {H : Hp} {x : Str} : WalkD C W H (Its x) (chs x) where
  goes := fun i W2 S2 H2 le st hi => by
    have : (chs x).length = x.cps.size := by simp [chs]
    show i < x.cps.size
    omega
  stops := fun W2 S2 H2 le st => by
    have : (chs x).length = x.cps.size := by simp [chs]
    show x.cps.size ≤ (chs x).length
    omega
  yields := fun i W2 S2 H2 y H' le st hi q => by
    obtain ⟨e, c, hc, rfl⟩ := q
    subst e
    refine ⟨Same.refl _, .d (.str ⟨#[c]⟩), ?_, .d (.str _)⟩
    unfold chs
    rw [List.getElem?_map, Array.getElem?_toList, hc]
    rfl
section
variable {X : Cx} {ct : Str → Addr} {ex : WX} {tg : Expr} {l a b : Expr} {f : Ef} {fl : Lf} {p pos : Pos}
theorem ii_chs (hl : PE X l (tE (CC X ct ex) f)) : PI X tg l (tI (CC X ct ex) (iChs f)) := by
  refine PI.imp (pi_str hl) fun σ H R ⟨W, ρ, S, k, q⟩ => ?_
  refine tE_I k q fun v w W1 S1 H1 k1 r1 p1 => ?_
  match w, r1, p1 with
  | .d (.str x), .d (.str _), p1 => exact ⟨x, rfl, p1 _ W1 H1 (Le.refl _ _) k1.st walkStr⟩
theorem ii_any (hl : PE X l (tE (CC X ct ex) f)) : PI X tg l (tI (CC X ct ex) (iAny f)) := by
  refine PI.imp (PI.or (ii_lst hl) (PI.or (ii_tup hl) (ii_chs hl))) fun σ H R ⟨W, ρ, S, k, q⟩ => ?_
  unfold iAny at q
  cases e : f ρ S with
  | exc c S1 => rw [e] at q; exact .inl ⟨W, ρ, S, k, by unfold iLst; rw [e]; exact q⟩
  | bad => rw [e] at q; exact q.elim
  | ok w S1 =>
    rw [e] at q
    have q' : PostI (CC X ct ex) W σ H (match itA w with | some l => .ok l S1 | none => .bad) R := q
    unfold itA at q'
    cases e1 : itL w with
    | some m => rw [e1] at q'; exact .inl ⟨W, ρ, S, k, by unfold iLst; rw [e]; show PostI _ _ _ _ (match itL w with | some l => .ok l S1 | none => .bad) _; rw [e1]; exact q'⟩
    | none =>
      rw [e1] at q'
      dsimp only at q'
      refine .inr ?_
      cases e2 : unpk w with
      | some m => rw [e2] at q'; exact .inl ⟨W, ρ, S, k, by unfold iTup; rw [e]; show PostI _ _ _ _ (match unpk w with | some l => .ok l S1 | none => .bad) _; rw [e2]; exact q'⟩
      | none =>
        rw [e2] at q'
        refine .inr ?_
        match w, e, q' with
        | .d (.str x), e, q' => exact ⟨W, ρ, S, k, by unfold iChs; rw [e]; exact q'⟩
        | .d .none, e, q' => exact q'.elim
        | .d (.int _), e, q' => exact q'.elim
        | .d (.bool _), e, q' => exact q'.elim
        | .d (.list _), e, q' => exact q'.elim
        | .d (.tuple _), e, q' => exact q'.elim
        | .d (.dict _), e, q' => exact q'.elim
        | .o _, e, q' => exact q'.elim
        | .sq _ _, e, q' => exact q'.elim
end

end PL

/-! # PL, part K: the end -/
namespace PL
open PySem PySem.Spec PyProof.Rows L2

section
variable {K : PySem.W.Frag} {h : Heap} {mg : Str → Option Value}
theorem defAt_mk {x : Str} {st : Stmt} {ps : List Str} {f : Addr} {od an : Option Addr} {sl : Array (Option Value)} {oc kV dc pm cd ct : Value} (KX : K.In h) (G : h.Ns mainGlobals mg) (a : PySem.W.nsIn K mainGlobals x = some (some (.ref f)))
    (l : K.lookup f = some ⟨oc, od, .func (PySem.W.fnOf x x (defArgs st) (defBody st) (defScope st) .none kV dc pm an cd ct), sl⟩) (c : PySem.W.codeIn K cd x = true) (k : PySem.W.keepIn K (.ref f) = true)
    (hb : ∀ (kV doc pm : Value) (an : Option Addr) (cdv ct : Value) (us : List Value), us.length = ps.length → bindArgs (PySem.W.fnOf x x (defArgs st) (defBody st) (defScope st) .none kV doc pm an cdv ct) ⟨us, []⟩ = pure (ps.zip us)) : DefAt K mg x st ps :=
  have F := fun_mk (st := st) l c k
  ⟨f, _, PySem.W.mg_of KX G a, F, F.binds hb⟩
theorem none_mk {x : Str} (KX : K.In h) (G : h.Ns mainGlobals mg) (a : PySem.W.nsIn K mainGlobals x = some none) : mg x = none := PySem.W.mg_none_of KX G a
theorem exc_mk {c : Str} {C : Addr} (KX : K.In h) (G : h.Ns mainGlobals mg) (a : PySem.W.nsIn K mainGlobals c = some (some (.ref C)))
    (x : PySem.W.excIn K C [.type "ValueError", .type "Exception", .type "BaseException", .type "object"] "ValueError.__new__" = true) (k : PySem.W.keepIn K (.ref C) = true) (b : PySem.W.subIn K (.ref C) (.type "BaseException") = some true) (t : PySem.W.typeIn K (.ref C) = some (.type "type")) : ExcOk K mg c := by
  have e := PySem.W.mg_of KX G a
  have e2 := ctOf_eq e
  refine ⟨by rw [e2]; exact e, by rw [e2]; exact x, by rw [e2]; exact k, by rw [e2]; exact b, by rw [e2]; exact t⟩
theorem intK_mk {x : Str} {i : Int} {t : Tok} (KX : K.In h) (G : h.Ns mainGlobals mg) (a : PySem.W.nsIn K mainGlobals x = some (some (.int i t))) : ∃ t, mg x = some (.int i t) := ⟨t, PySem.W.mg_of KX G a⟩
theorem strK_mk {x : Str} {i : Str} {t : Tok} (KX : K.In h) (G : h.Ns mainGlobals mg) (a : PySem.W.nsIn K mainGlobals x = some (some (.str i t))) : ∃ t, mg x = some (.str i t) := ⟨t, PySem.W.mg_of KX G a⟩
end
/-- the whole -/
theorem walkEnd {l : PySem.W.OpenLaw} {k : Nat} {q : Program} {loose : List Str} {XP : (Str → Option Value) → Heap → Prop} {YP : World → Heap → Prop} {d : DefRec} {K : Params → PySem.W.Frag} {x : Str} {st : Stmt} {G : List PyData → PRes}
    (hn : l.most = some 63) (hdf : d.params.defaults = []) (hr : Room k callerA) (hd : d.name = ("law" : Str))
    (hY : ∀ (w : World) (h : Heap), YP w h → (K w.params).In h)
    (hb : ∀ (kV doc pm : Value) (an : Option Addr) (cdv ct : Value) (us : List Value), us.length = ([x] : List Str).length → bindArgs (PySem.W.fnOf "law" "law" (defArgs st) (defBody st) (defScope st) .none kV doc pm an cdv ct) ⟨us, []⟩ = pure (([x] : List Str).zip us))
    (F : ∀ (w : World) (mg : Str → Option Value) (h : Heap), (K w.params).In h → h.Ns mainGlobals mg →
      DefAt (K w.params) mg "law" st [x] ∧ ∀ (base : Heap) (f : Addr) (fd : FuncData), Fun (K w.params) "law" "law" st f fd → FnOk l.prog w (K w.params) mg base (L2.CX l.prog w) k f fd [x] (spP (K w.params) (ctOf mg) 1 G))
    (hG : ∀ ns : List Int, ns.length ≤ 63 → G [.list (ns.map .int)] = .ok (.bool true)) :
    PySem.W.WalkO q loose XP YP l.row.toRowW d [] (fun f vs => PySem.call f vs) := by
  refine L2.walk_of (n := 63) (k := k) (x := x) (CX := fun w => L2.CX l.prog w) (sp := fun w vs H Q _ => ∃ (a : Addr) (ns : List Int), vs = [.ref a] ∧ SqL (K w.params) H a (ns.map V.int) ∧ ns.length ≤ 63 ∧ ∀ H', Q (.bl true) H') hn (by decide) hdf hr hY ?_ (fun _ _ a ns hl _ hS => ⟨a, ns, rfl, hS, hl, fun _ => rfl⟩) ?_
  · intro w mg fa h KX N hmg
    rw [hd] at hmg
    obtain ⟨⟨f, fd, hm, FF, bb⟩, go⟩ := F w mg h KX N
    have e := hmg.symm.trans hm
    cases e
    obtain ⟨oc, od, kV, doc, pm, an, cdv, ct, osl, hfd, hlk, hc⟩ := FF.ex
    refine ⟨fd, fun s u => .of_eq ?_, fun base _ _ => (go base fa fd FF).imp ?_⟩
    · rw [hfd]; exact hb kV doc pm an cdv ct [u] rfl
    · rintro vs H Q E ⟨a, ns, rfl, hS, hl, hq⟩
      refine ⟨rfl, fun _ => false, [.list (ns.map .int)], fun a h => (by cases h), ?_, ?_⟩
      · have hm : ∀ H : Hp, mask (fun _ => false) H = H := fun H => by funext a; unfold mask; rw [if_neg Bool.false_ne_true]
        rw [hm]
        have hall : ∀ ms : List Int, DpAll (K w.params) H (ms.map V.int) (ms.map PyData.int) := fun ms => by
          induction ms with
          | nil => exact .nil
          | cons m r ih => exact .cons (.int m) ih
        exact .cons (.lst hS (hall ns)) .nil
      · rw [hG ns hl]
        intro v H' _ hv
        cases hv
        exact hq H'
  · rintro w H s e s' ⟨_, _, _, _, _, _, _, _, _, _, _, _, z⟩
    exact z
end PL

/-! # PL, part R: isinstance, least and most, join, count, zip -/
namespace PL
open PySem PySem.Spec PyProof.Rows L2 PySem.SeqAt PySem.W

/-! ### isinstance -/
def tyN : PyData → String
  | .none => "NoneType"
  | .bool _ => "bool"
  | .int _ => "int"
  | .str _ => "str"
  | .list _ => "list"
  | .tuple _ => "tuple"
  | .dict _ => "dict"
def oIsi (T : String) (x : PyData) : Option PyData := if tyN x = "dict" then none else match kitB (tyN x) T with
  | some b => some (.bool b)
  | none => none
section
variable {X : Cx} {ct : Str → Addr} {ex : WX} {e o : Expr} {es : List Expr} {f g : Ef} {fl : Lf} {p pos apos : Pos}
theorem tyx_of {W : Wd} {H : Hp} {v : V} {x : PyData} (h : Dp X.K H v x) (hd : tyN x ≠ "dict") : TyX X.K H v (.type (tyN x)) := by
  cases h with
  | non => exact .base .non
  | bl b => exact .base (.bl b)
  | int i => exact .base (.int i)
  | str y => exact .base (.str y)
  | lst hs ha =>
    rcases hs with h | ⟨o, its, n, hk, hc, hd, hs, hz, r⟩
    · rcases h with h | ⟨o, h⟩
      · exact .base (.lst h)
      · exact .base (.frz h)
    · exact .kList hk hc
  | tup hs ha =>
    rcases hs with h | ⟨o, its, n, hk, hc, hs, hz, r⟩
    · rcases h with h | ⟨o, h⟩
      · exact .base (.tup h)
      · exact .fTuple h
    · exact .kTuple hk hc
theorem ee_isi {T : String} {x : Str} {p2 : Pos} (hm : X.mg "isinstance" = none) (hT : X.mg x = none) (hv : bootBuiltins x = some (.type T)) (ha : PE X e (tE (CC X ct ex) f)) (hg : Gl X "isinstance" := by rfl) (hgT : Gl X x := by rfl)
    (hn : x ≠ "__name__" := by decide) (hd : (x == ("__debug__" : Str)) = false := by decide)
    (he : starEach (e :: [.Name x p2]) X.env = (false, eval e X.env) :: starEach [.Name x p2] X.env := by rfl) (he2 : starEach [.Name x p2] X.env = (false, eval (.Name x p2) X.env) :: starEach [] X.env := by rfl) (hpl : (backTo pos (starEach [.Name x p2] X.env)).any (·.1) = false := by rfl) :
    PE X (.Call (.Name "isinstance" p) [e, .Name x p2] [] pos) (tE (CC X ct ex) (eD1 (oIsi T) f)) := by
  refine PE.imp (pe_callB call_isi hg hm (by decide +kernel) (pa_cons ha (pa_cons (pe_bltn hgT hT hv (v := .ty T) rfl hn hd) pa_nil he2) he) (by decide) (by decide) he hpl) fun σ H Q ⟨W, ρ, S, k, q⟩ => ?_
  refine tE_E k q fun v w W1 S1 H1 k1 r1 p1 => ?_
  obtain ⟨y, e1, q1⟩ := rOf_post k1.st p1
  obtain ⟨d, e2, e3⟩ := bindO e1
  have D := asD_dt k1.st r1 e2
  unfold oIsi at e3
  by_cases hdic : tyN d = "dict"
  · rw [if_pos hdic] at e3; cases e3
  · rw [if_neg hdic] at e3
    cases e4 : kitB (tyN d) T with
    | none => rw [e4] at e3; cases e3
    | some b =>
      rw [e4] at e3
      cases e3
      exact ⟨v, .ty T, .type (tyN d), .type T, b, rfl, .ty T, tyx_of (W := W1) D.dp hdic, kit_ty e4, q1.flat fun _ => .bl b⟩
end

/-! ### min, max of data -/
def isNo : PyData → Bool
  | .none => true
  | _ => false
def alikeB (xs : List PyData) : Bool := xs.all (fun x => xs.all fun y => alike x y) && xs.all (fun x => !isNo x) && decide (PyData.depthAll xs ≤ 60)
theorem alikeB_of {xs : List PyData} (h : alikeB xs = true) : AlikeAll xs ∧ PyData.depthAll xs ≤ 60 := by
  unfold alikeB at h
  simp only [Bool.and_eq_true, List.all_eq_true, decide_eq_true_eq] at h
  refine ⟨⟨fun x hx y hy => h.1.1 x hx y hy, fun x hx e => ?_⟩, h.2⟩
  have := h.1.2 x hx
  rw [e] at this
  cases this
def oMin1 : PyData → Option PyData
  | .list (x :: ds) => if alikeB (x :: ds) = true then some (minD x ds) else none
  | .tuple (x :: ds) => if alikeB (x :: ds) = true then some (minD x ds) else none
  | _ => none
def oMax1 : PyData → Option PyData
  | .list (x :: ds) => if alikeB (x :: ds) = true then some (maxD x ds) else none
  | .tuple (x :: ds) => if alikeB (x :: ds) = true then some (maxD x ds) else none
  | _ => none
theorem fold_mem (c : PyData → PyData → Bool) : ∀ (xs : List PyData) (x : PyData), xs.foldl (fun a y => if c a y = true then y else a) x ∈ x :: xs
  | [], x => List.mem_singleton.mpr rfl
  | y :: r, x => by
    rw [List.foldl_cons]
    have := fold_mem c r (if c x y = true then y else x)
    rcases List.mem_cons.mp this with h | h
    · rw [h]
      split
      · simp
      · simp
    · simp [h]
def rMM (K : PySem.W.Frag) (F : PyData → List PyData → PyData) : List V → Hp → VK → Prop := fun vs H Q => ∃ (a : Addr) (xs : List V) (x : PyData) (ds : List PyData), vs = [.ref a] ∧ (SqL K H a xs ∨ SqT K H a xs) ∧ DpAll K H xs (x :: ds) ∧ AlikeAll (x :: ds) ∧ PyData.depthAll (x :: ds) ≤ 60 ∧
  ∀ (i : Nat) v, xs[i]? = some v → (x :: ds)[i]? = some (F x ds) → Q v H
section
variable {X : Cx} {ct : Str → Addr} {ex : WX} {e o : Expr} {es : List Expr} {f g : Ef} {fl : Lf} {p pos apos : Pos}
theorem vals_get {xs : List V} {us : List Value} (r : Vals xs us) : ∀ {i : Nat} {u : Value}, us[i]? = some u → ∃ v, xs[i]? = some v ∧ RelV v u := by
  induction r with
  | nil => intro i u h; simp at h
  | cons r t ih =>
    intro i u h
    cases i with
    | zero => simp at h; subst h; exact ⟨_, rfl, r⟩
    | succ j => simp at h; obtain ⟨v, h1, h2⟩ := ih h; exact ⟨v, by simpa using h1, h2⟩
theorem pick_end {pins : List (Addr × Obj)} {σ : L2.St} {H : Hp} {s : Shared} (I : Inv X pins σ H s) {xs : List V} {its : List Value} {x : PyData} {ds : List PyData} {M : PyData} {Q : VK} (rv : Vals xs its) (hd : DpAll X.K H xs (x :: ds)) (ha : AlikeAll (x :: ds)) (hM : M ∈ x :: ds)
    (q : ∀ (i : Nat) v, xs[i]? = some v → (x :: ds)[i]? = some M → Q v H) {i : Nat} {u : Value} {h' : Heap} {tk : Nat} {bs : List Addr} (hi : its[i]? = some u) (hr : Reads h' u M bs) (hk : ∀ b o, s.heap.get? b = some o → h'.get? b = some o) : EP X pins σ Q u { s with heap := h', toks := tk } := by
  obtain ⟨v, hv, r⟩ := vals_get rv hi
  have hlen := DpAll.length hd
  have hil : i < (x :: ds).length := by rw [← hlen]; exact (List.getElem?_eq_some_iff.mp hv).1
  obtain ⟨v2, hv2, hdp⟩ := DpAll.get hd (List.getElem?_eq_getElem hil)
  rw [hv] at hv2
  cases hv2
  obtain ⟨as, hr2⟩ := Dp.reads I _ _ _ hdp r
  have hr3 := PyProof.Rows.Reads.keeps hk hr2
  have hmem : (x :: ds)[i] ∈ x :: ds := List.getElem_mem hil
  have e := alike_unique _ _ _ _ _ (ha.1 _ hmem _ hM) hr3 hr
  exact ⟨v, H, I.kept hk, r, q i v hv (by rw [List.getElem?_eq_getElem hil, e])⟩
theorem cr_min1 (hc : X.calm = true) (hu : X.A.units + 65 < cLine) : CallR X (.builtin "min") (rMM X.K minD) := by
  intro pins s σ H vs us Q I r h
  obtain ⟨a, xs, x, ds, rfl, hs, hd, ha, hz, q⟩ := h
  rw [Vals.ref1 r]
  rcases hs with hs | hs
  · obtain ⟨its, rv, hl, _⟩ := I.list hs
    obtain ⟨as, hr⟩ := Dp.readsAll I _ _ _ hd rv
    exact min_list_data (vs := its.toArray) (I.ok.hd hc) hl.isList hr ha (by omega) fun i v h' tk bs hi hr' hk => pick_end I rv hd ha (fold_mem _ _ _) q (by simpa using hi) hr' hk
  · obtain ⟨its, rv, hl, _⟩ := I.tuple hs
    obtain ⟨as, hr⟩ := Dp.readsAll I _ _ _ hd rv
    exact min_tuple_data (vs := its.toArray) (I.ok.hd hc) hl hr ha (by omega) fun i v h' tk bs hi hr' hk => pick_end I rv hd ha (fold_mem _ _ _) q (by simpa using hi) hr' hk
theorem cr_max1 (hc : X.calm = true) (hu : X.A.units + 65 < cLine) : CallR X (.builtin "max") (rMM X.K maxD) := by
  intro pins s σ H vs us Q I r h
  obtain ⟨a, xs, x, ds, rfl, hs, hd, ha, hz, q⟩ := h
  rw [Vals.ref1 r]
  rcases hs with hs | hs
  · obtain ⟨its, rv, hl, _⟩ := I.list hs
    obtain ⟨as, hr⟩ := Dp.readsAll I _ _ _ hd rv
    exact max_list_data (vs := its.toArray) (I.ok.hd hc) hl.isList hr ha (by omega) fun i v h' tk bs hi hr' hk => pick_end I rv hd ha (fold_mem _ _ _) q (by simpa using hi) hr' hk
  · obtain ⟨its, rv, hl, _⟩ := I.tuple hs
    obtain ⟨as, hr⟩ := Dp.readsAll I _ _ _ hd rv
    exact max_tuple_data (vs := its.toArray) (I.ok.hd hc) hl hr ha (by omega) fun i v h' tk bs hi hr' hk => pick_end I rv hd ha (fold_mem _ _ _) q (by simpa using hi) hr' hk
theorem mm_ok {F : PyData → List PyData → PyData} {W : Wd} {H : Hp} {v : V} {y : PyData} {Q : VK} {a : Addr} {xs : List V} {x : PyData} {ds : List PyData} (hv : v = .ref a) (hs : SqL X.K H a xs ∨ SqT X.K H a xs) (hd : DpAll X.K (mask W.Z H) xs (x :: ds)) (hal : alikeB (x :: ds) = true) (e : F x ds = y) (q : DQ (CC X ct ex) W H y Q) : rMM X.K F [v] H Q := by
  obtain ⟨h1, h2⟩ := alikeB_of hal
  subst hv
  refine ⟨a, xs, x, ds, rfl, hs, DpAll.same (mask_same _ _) _ _ hd, h1, h2, fun i u hu hM => ?_⟩
  obtain ⟨u2, hu2, hdp⟩ := DpAll.get hd hM
  rw [hu] at hu2
  cases hu2
  rw [e] at hdp
  exact q.here hdp
theorem ok_min1 : OpN (CC X ct ex) (rMM X.K minD) (o1 oMin1) := opN_one fun W S H v x y Q st hx e q => by
  cases x with
  | list xs =>
    cases xs with
    | nil => cases e
    | cons x ds =>
      have e' : (if alikeB (x :: ds) = true then some (minD x ds) else none) = some y := e
      by_cases hc : alikeB (x :: ds) = true
      · rw [if_pos hc] at e'
        obtain ⟨a, vs, hv, hs, ha⟩ := hx
        exact mm_ok hv (.inl hs) ha hc (Option.some.inj e') q
      · rw [if_neg hc] at e'; cases e'
  | tuple xs =>
    cases xs with
    | nil => cases e
    | cons x ds =>
      have e' : (if alikeB (x :: ds) = true then some (minD x ds) else none) = some y := e
      by_cases hc : alikeB (x :: ds) = true
      · rw [if_pos hc] at e'
        cases hx with
        | tup hs ha => exact mm_ok rfl (.inr (Same.seqT (mask_same _ _) hs)) ha hc (Option.some.inj e') q
      · rw [if_neg hc] at e'; cases e'
  | _ => cases e
theorem ok_max1 : OpN (CC X ct ex) (rMM X.K maxD) (o1 oMax1) := opN_one fun W S H v x y Q st hx e q => by
  cases x with
  | list xs =>
    cases xs with
    | nil => cases e
    | cons x ds =>
      have e' : (if alikeB (x :: ds) = true then some (maxD x ds) else none) = some y := e
      by_cases hc : alikeB (x :: ds) = true
      · rw [if_pos hc] at e'
        obtain ⟨a, vs, hv, hs, ha⟩ := hx
        exact mm_ok hv (.inl hs) ha hc (Option.some.inj e') q
      · rw [if_neg hc] at e'; cases e'
  | tuple xs =>
    cases xs with
    | nil => cases e
    | cons x ds =>
      have e' : (if alikeB (x :: ds) = true then some (maxD x ds) else none) = some y := e
      by_cases hc : alikeB (x :: ds) = true
      · rw [if_pos hc] at e'
        cases hx with
        | tup hs ha => exact mm_ok rfl (.inr (Same.seqT (mask_same _ _) hs)) ha hc (Option.some.inj e') q
      · rw [if_neg hc] at e'; cases e'
  | _ => cases e
theorem ee_min1 (hm : X.mg "min" = none) (hc : X.calm = true) (hu : X.A.units + 65 < cLine) (ha : PA X (e :: es) (tL (CC X ct ex) fl)) (hg : Gl X "min" := by rfl) (he : starEach (e :: es) X.env = (false, eval e X.env) :: starEach es X.env := by rfl) (hpl : (backTo pos (starEach es X.env)).any (·.1) = false := by rfl) :
    PE X (.Call (.Name "min" p) (e :: es) [] pos) (tE (CC X ct ex) (eDN (o1 oMin1) fl)) := ee_callB (cr_min1 hc hu) ok_min1 hm (by decide +kernel) ha hg (by decide) (by decide) he hpl
theorem ee_max1 (hm : X.mg "max" = none) (hc : X.calm = true) (hu : X.A.units + 65 < cLine) (ha : PA X (e :: es) (tL (CC X ct ex) fl)) (hg : Gl X "max" := by rfl) (he : starEach (e :: es) X.env = (false, eval e X.env) :: starEach es X.env := by rfl) (hpl : (backTo pos (starEach es X.env)).any (·.1) = false := by rfl) :
    PE X (.Call (.Name "max" p) (e :: es) [] pos) (tE (CC X ct ex) (eDN (o1 oMax1) fl)) := ee_callB (cr_max1 hc hu) ok_max1 hm (by decide +kernel) ha hg (by decide) (by decide) he hpl

/-! ### join, count -/
def strsOf : List PyData → Option (List Str)
  | [] => some []
  | .str x :: r => match strsOf r with
    | some xs => some (x :: xs)
    | none => none
  | _ :: _ => none
theorem strsOf_map : ∀ ys : List Str, strsOf (ys.map .str) = some ys
  | [] => rfl
  | y :: r => by simp only [List.map_cons, strsOf, strsOf_map r]
theorem strsOf_eq : ∀ {ds : List PyData} {ys : List Str}, strsOf ds = some ys → ds = ys.map .str
  | [], ys, h => by cases h; rfl
  | d :: r, ys, h => by
    cases d <;> first | (simp [strsOf] at h; done) | skip
    rename_i x
    unfold strsOf at h
    cases e : strsOf r with
    | none => rw [e] at h; cases h
    | some xs => rw [e] at h; cases h; rw [strsOf_eq e]; rfl
theorem dpStrs {K : PySem.W.Frag} {H : Hp} : ∀ {ys : List Str} {vs : List V}, DpAll K H vs (ys.map .str) → vs = ys.map V.str
  | [], _, h => by cases h; rfl
  | y :: r, _, h => by
    cases h with
    | cons h1 h2 =>
      cases h1
      rw [dpStrs h2]; rfl
def oJoin (x y : PyData) : Option PyData := match x, y with
  | .str a, .list ds => match strsOf ds with
    | some ys => if (ys.map (·.length)).sum + ys.length * a.length ≤ LINE then some (.str (Txt.join a ys)) else none
    | none => none
  | _, _ => none
def joinW (a : Str) (ws : List Wv) (S : Store) : Res Wv := match ws with
  | [w] => rOf ((asD S w).bind fun y => oJoin (.str a) y) S
  | _ => .bad
def eJoin (f : Ef) (g : Lf) : Ef := fun ρ S => (f ρ S).bind fun x S1 => match x with
  | .d (.str a) => (g ρ S1).bind fun ws S2 => joinW a ws S2
  | _ => .bad
theorem ee_join (ho : PE X o (tE (CC X ct ex) f)) (ha : PA X [e] (tL (CC X ct ex) fl)) (hbase : attributeBase o "join" X.env (eval o X.env) = eval o X.env := by rfl)
    (hfew : ((backTo pos (starEach [e] X.env)).all (fun x => !x.1) && (backToKw pos (keywordEach [] X.env)).all (fun x => x.1.isSome)
      && decide (([e] : List Expr).length + ([] : List Keyword).length + (if ([] : List Keyword).isEmpty then 0 else 1) < 30)) = true := by rfl)
    (hline : (apos.endLine == pos.line) = true := by rfl) (hs : starEach [e] X.env = (false, eval e X.env) :: starEach [] X.env := by rfl) (hplain : (backTo pos (starEach [] X.env)).any (·.1) = false := by rfl) :
    PE X (.Call (.Attribute o "join" apos) [e] [] pos) (tE (CC X ct ex) (eJoin f fl)) := by
  refine PE.imp (pe_bm PySem.F.plainAttrs_str PySem.F.slot_str_join PySem.F.type_str_join mt_join ho ha hbase hfew hline hs hplain) fun σ H Q ⟨W, ρ, S, k, p⟩ => ?_
  refine tE_E k p fun v x W1 S1 H1 k1 r1 p1 => ?_
  cases r1 with
  | d q =>
    cases q with
    | str a =>
      refine ⟨rfl, W1, ρ, S1, k1, ?_⟩
      have p1' : PostR (CC X ct ex) W1 σ H1 ((fl ρ S1).bind fun ws S2 => joinW a ws S2) Q := p1
      cases e2 : fl ρ S1 with
      | exc c S2 => rw [e2] at p1'; exact p1'
      | bad => rw [e2] at p1'; exact p1'
      | ok ws S2 =>
        rw [e2] at p1'
        intro us W2 H2 l2 st2 r2
        have p2 : PostR (CC X ct ex) W1 σ H1 (joinW a ws S2) Q := p1'
        unfold joinW at p2
        cases r2 with
        | nil => exact p2.elim
        | @cons u1 us' w ws' rw' rs =>
          cases rs with
          | cons _ _ => exact p2.elim
          | nil =>
            dsimp only at p2
            obtain ⟨y, e3, q3⟩ := rOf_post st2 (PostR.le l2 p2)
            obtain ⟨d, e4, e5⟩ := bindO e3
            have D := asD_dt st2 rw' e4
            cases d <;> first | (cases e5; done) | skip
            rename_i ds
            have e5' : (match strsOf ds with
    | some ys => if (ys.map (·.length)).sum + ys.length * a.length ≤ LINE then some (PyData.str (Txt.join a ys)) else none
    | none => none) = some y := e5
            cases e6 : strsOf ds with
            | none => rw [e6] at e5'; cases e5'
            | some ys =>
              rw [e6] at e5'
              dsimp only at e5'
              by_cases hz : (ys.map (·.length)).sum + ys.length * a.length ≤ LINE
              · rw [if_pos hz] at e5'
                cases e5'
                obtain ⟨b, vs, hv, hs2, ha2⟩ := D
                rw [strsOf_eq e6] at ha2
                have := dpStrs ha2
                subst this
                exact ⟨a, b, ys, rfl, by rw [hv], .inl hs2, hz, q3.flat fun _ => .str _⟩
              · rw [if_neg hz] at e5'; cases e5'
    | _ => exact p1.elim
  | _ => exact p1.elim

/-! ### zip -/
def zipW : List Wv → List Wv → List Wv
  | x :: xs, y :: ys => mkSq true [x, y] :: zipW xs ys
  | _, _ => []
theorem zipW_len : ∀ xs ys : List Wv, (zipW xs ys).length = min xs.length ys.length
  | [], ys => by simp [zipW]
  | x :: xs, [] => by simp [zipW]
  | x :: xs, y :: ys => by simp [zipW, zipW_len xs ys] <;> omega
theorem zipW_get : ∀ (xs ys : List Wv) (i : Nat) (x y : Wv), xs[i]? = some x → ys[i]? = some y → (zipW xs ys)[i]? = some (mkSq true [x, y])
  | [], _, _, _, _, h, _ => by simp at h
  | _ :: _, [], _, _, _, _, h => by simp at h
  | x :: xs, y :: ys, 0, a, b, h, h2 => by simp at h h2; subst h h2; rfl
  | x :: xs, y :: ys, i + 1, a, b, h, h2 => by
    simp at h h2
    simp [zipW, zipW_get xs ys i a b h h2]
def zipI (ws : List Wv) (S : Store) : Res (List Wv) := match ws with
  | [a, b] => match itL a with
    | some xs => match itL b with
      | some ys => .ok (zipW xs ys) S
      | none => .bad
    | none => match unpk a with
      | some xs => match unpk b with
        | some ys => .ok (zipW xs ys) S
        | none => .bad
      | none => .bad
  | _ => .bad
def iZip (f : Lf) : If := fun ρ S => (f ρ S).bind zipI
theorem walkZT {W : Wd} {H : Hp} {a b : Addr} {vs us : List V} {xs ys : List Wv} (hs : SqT X.K (mask W.Z H) a vs) (hr : RWs X.K W H vs xs) (hs2 : SqT X.K (mask W.Z H) b us) (hr2 : RWs X.K W H us ys) : WalkD (CC X ct ex) W H (RZ.ItzT X.K a b) (zipW xs ys) where
  goes := fun i W2 S2 H2 le st hi => by
    rw [zipW_len] at hi
    obtain ⟨v, hv, _⟩ := hr.get (i := i) (d := xs[i]'(by omega)) (by simp <;> omega)
    obtain ⟨u, hu, _⟩ := hr2.get (i := i) (d := ys[i]'(by omega)) (by simp <;> omega)
    exact ⟨vs, us, v, u, Same.seqT (mask_same _ _) (Same.seqT le.msame hs), Same.seqT (mask_same _ _) (Same.seqT le.msame hs2), hv, hu⟩
  stops := fun W2 S2 H2 le st => ⟨vs, us, Same.seqT (mask_same _ _) (Same.seqT le.msame hs), Same.seqT (mask_same _ _) (Same.seqT le.msame hs2), by rw [hr.length, hr2.length, zipW_len]; omega⟩
  yields := fun i W2 S2 H2 x H' le st hi y => by
    obtain ⟨T, v, u, rfl, hT, rfl, h1, h2⟩ := y
    obtain ⟨w1, e1, r1⟩ := hr.get' (h1 vs (Same.seqT (mask_same _ _) (Same.seqT le.msame hs)))
    obtain ⟨w2, e2, r2⟩ := hr2.get' (h2 us (Same.seqT (mask_same _ _) (Same.seqT le.msame hs2)))
    exact ⟨same_upd hT _, _, zipW_get xs ys i w1 w2 e1 e2, mk_tup (ct := ct) (ex := ex) st (.cons (RW.le le _ _ r1) (.cons (RW.le le _ _ r2) .nil)) hT⟩
theorem walkZL {W : Wd} {H : Hp} {a b : Addr} {vs us : List V} {xs ys : List Wv} (hs : SqL X.K (mask W.Z H) a vs) (hr : RWs X.K W H vs xs) (hs2 : SqL X.K (mask W.Z H) b us) (hr2 : RWs X.K W H us ys) : WalkD (CC X ct ex) W H (Itz X.K a b) (zipW xs ys) where
  goes := fun i W2 S2 H2 le st hi => by
    rw [zipW_len] at hi
    obtain ⟨v, hv, _⟩ := hr.get (i := i) (d := xs[i]'(by omega)) (by simp <;> omega)
    obtain ⟨u, hu, _⟩ := hr2.get (i := i) (d := ys[i]'(by omega)) (by simp <;> omega)
    exact ⟨vs, us, v, u, (mask_same _ _).seq (le.msame.seq hs), (mask_same _ _).seq (le.msame.seq hs2), hv, hu⟩
  stops := fun W2 S2 H2 le st => ⟨vs, us, (mask_same _ _).seq (le.msame.seq hs), (mask_same _ _).seq (le.msame.seq hs2), by rw [hr.length, hr2.length, zipW_len]; omega⟩
  yields := fun i W2 S2 H2 x H' le st hi y => by
    obtain ⟨T, v, u, rfl, hT, rfl, h1, h2⟩ := y
    obtain ⟨w1, e1, r1⟩ := hr.get' (h1 vs ((mask_same _ _).seq (le.msame.seq hs)))
    obtain ⟨w2, e2, r2⟩ := hr2.get' (h2 us ((mask_same _ _).seq (le.msame.seq hs2)))
    exact ⟨same_upd hT _, _, zipW_get xs ys i w1 w2 e1 e2, mk_tup (ct := ct) (ex := ex) st (.cons (RW.le le _ _ r1) (.cons (RW.le le _ _ r2) .nil)) hT⟩
theorem ii_zip {a b : Expr} {elts : List Expr} {kk : Nat} {tpos : Pos} (hm : X.mg "zip" = none) (ha : PA X [a, b] (tL (CC X ct ex) fl)) (hg : Gl X "zip" := by rfl)
    (hs : starEach [a, b] X.env = (false, eval a X.env) :: starEach [b] X.env := by rfl) (hpl : (backTo pos (starEach [b] X.env)).any (·.1) = false := by rfl) : PI X (.Tuple elts kk tpos) (.Call (.Name "zip" p) [a, b] [] pos) (tI (CC X ct ex) (iZip fl)) := by
  refine PI.imp (RZ.pi_zipA hg hm ha hs hpl) fun σ H R ⟨W, ρ, S, k, q⟩ => ?_
  refine tL_I k q fun vs ws W1 S1 H1 k1 r1 p1 => ?_
  unfold zipI at p1
  cases r1 with
  | nil => exact p1.elim
  | @cons u1 us' w ws' ra rs =>
    cases rs with
    | nil => exact p1.elim
    | @cons u2 us'' w2 ws'' rb rs2 =>
      cases rs2 with
      | cons _ _ => exact p1.elim
      | nil =>
        dsimp only at p1
        cases e1 : itL w with
        | some xs =>
          rw [e1] at p1
          dsimp only at p1
          cases e2 : itL w2 with
          | none => rw [e2] at p1; exact p1.elim
          | some ys =>
            rw [e2] at p1
            obtain ⟨a1, v1, rfl, h1, g1⟩ := itL_of ra e1
            obtain ⟨a2, v2, rfl, h2, g2⟩ := itL_of rb e2
            exact ⟨a1, a2, v1, v2, rfl, .inl ⟨(mask_same _ _).seq h1, (mask_same _ _).seq h2, p1 _ W1 H1 (Le.refl _ _) k1.st (walkZL h1 g1 h2 g2)⟩⟩
        | none =>
          rw [e1] at p1
          dsimp only at p1
          cases e3 : unpk w with
          | none => rw [e3] at p1; exact p1.elim
          | some xs =>
            rw [e3] at p1
            dsimp only at p1
            cases e2 : unpk w2 with
            | none => rw [e2] at p1; exact p1.elim
            | some ys =>
              rw [e2] at p1
              obtain ⟨a1, v1, rfl, h1, g1⟩ := unpk_of ra e3
              obtain ⟨a2, v2, rfl, h2, g2⟩ := unpk_of rb e2
              exact ⟨a1, a2, v1, v2, rfl, .inr ⟨Same.seqT (mask_same _ _) h1, Same.seqT (mask_same _ _) h2, p1 _ W1 H1 (Le.refl _ _) k1.st (walkZT h1 g1 h2 g2)⟩⟩
end
end PL

/-! # PL, part M: the bodies of the defs that many laws share (printed by gen.py -bodies) -/
namespace PL
open PySem PySem.Spec PyProof.Rows L2
abbrev n_is_whole : List Str := ["thing", "low", "high"]
abbrev p_is_whole : List Str := ["thing", "low", "high"]
def b_is_whole : Sf := (sRet (eAnd (eD1 (oIsi "int") (eVar 0)) (eAnd (eNot (eD1 (oIsi "bool") (eVar 0))) (eChain oLe oLe (eVar 1) (eVar 0) (eVar 2)))))
def f_is_whole : List PyData → PRes := runP 3 b_is_whole
abbrev n_is_line : List Str := ["beats", "thing"]
abbrev p_is_line : List Str := ["beats", "thing"]
def b_is_line : Sf := (sSeq (sIf (bOr (bNot (bTr (eD1 (oIsi "tuple") (eVar 1)))) (bOr (eT (eD2 oNe (eDN (o1 oLen) (aCons (eVar 1) aNil)) (eC (.int 3)))) (bNot (bTr (eD1 (oIsi "str") (eIx (eVar 1) (eC (.int 0)))))))) (sRet (eC (.bool false))) sNext) (sSeq (sIf (bOr (eT (eD2 oNe (eDN (o1 oLen) (aCons (eIx (eVar 1) (eC (.int 0))) aNil)) (eC (.int 1)))) (eT (eD2 oNotIn (eIx (eVar 1) (eC (.int 0))) (eC (.str "abcdefghijklmnopqrstuvwxyz"))))) (sRet (eC (.bool false))) sNext) (sRet (eAnd (eCallP f_is_whole (aCons (eIx (eVar 1) (eC (.int 1))) (aCons (eC (.int 0)) (aCons (eVar 0) aNil)))) (eCallP f_is_whole (aCons (eIx (eVar 1) (eC (.int 2))) (aCons (eC (.int 0)) (aCons (eD2 oSub (eVar 0) (eC (.int 1))) aNil))))))))
def f_is_line : List PyData → PRes := runP 2 b_is_line
abbrev n_is_plan : List Str := ["thing", "one", "two"]
abbrev p_is_plan : List Str := ["thing"]
def e1_is_plan : Ef := (eCallP f_is_line (aCons (eIx (eVar 0) (eC (.int 0))) (aCons (eVar 1) aNil)))
def e2_is_plan : Ef := (eD2 oLt (eIx (eVar 1) (eC (.int 0))) (eIx (eVar 2) (eC (.int 0))))
def b_is_plan : Sf := (sSeq (sIf (bOr (bNot (bTr (eD1 (oIsi "tuple") (eVar 0)))) (bOr (eT (eD2 oNe (eDN (o1 oLen) (aCons (eVar 0) aNil)) (eC (.int 2)))) (bNot (bTr (eCallP f_is_whole (aCons (eIx (eVar 0) (eC (.int 0))) (aCons (eC (.int 4)) (aCons (eC (.int 60)) aNil)))))))) (sRet (eC (.bool false))) sNext) (sSeq (sIf (bOr (bNot (bTr (eD1 (oIsi "tuple") (eIx (eVar 0) (eC (.int 1)))))) (bNot (eT (eChain oLe oLe (eC (.int 1)) (eDN (o1 oLen) (aCons (eIx (eVar 0) (eC (.int 1))) aNil)) (eC (.int 6)))))) (sRet (eC (.bool false))) sNext) (sSeq (sIf (bNot (bTr (eDN (o1 oAll) (aCons (eComp (iAny (eIx (eVar 0) (eC (.int 1)))) (.nm 1) bYes e1_is_plan [1]) aNil)))) (sRet (eC (.bool false))) sNext) (sRet (eDN (o1 oAll) (aCons (eComp (iZip (aCons (eSl (eIx (eVar 0) (eC (.int 1))) oNo (oYes (eD1 oNeg (eC (.int 1))))) (aCons (eSl (eIx (eVar 0) (eC (.int 1))) (oYes (eC (.int 1))) oNo) aNil))) (.tp [(.nm 1), (.nm 2)]) bYes e2_is_plan [1, 2]) aNil))))))
def f_is_plan : List PyData → PRes := runP 3 b_is_plan
abbrev n_line_of : List Str := ["plan", "name", "line"]
abbrev p_line_of : List Str := ["plan", "name"]
def l1_line_of : Sf := (sIf (eT (eD2 oEq (eIx (eVar 2) (eC (.int 0))) (eVar 1))) (sRet (eVar 2)) sNext)
def b_line_of : Sf := (sSeq (sFor (iAny (eIx (eVar 0) (eC (.int 1)))) (.nm 2) l1_line_of) (sRaise "NoLine"))
def f_line_of : List PyData → PRes := runP 3 b_line_of
abbrev n_is_on : List Str := ["plan", "name", "beat", "line"]
abbrev p_is_on : List Str := ["plan", "name", "beat"]
def b_is_on : Sf := (sSeq (sAsg (.nm 3) (eCallP f_line_of (aCons (eVar 0) (aCons (eVar 1) aNil)))) (sRet (eD2 oLt (eD2 oMod (eD2 oSub (eVar 2) (eIx (eVar 3) (eC (.int 2)))) (eIx (eVar 0) (eC (.int 0)))) (eIx (eVar 3) (eC (.int 1))))))
def f_is_on : List PyData → PRes := runP 4 b_is_on
abbrev n_on_at : List Str := ["plan", "beat", "line"]
abbrev p_on_at : List Str := ["plan", "beat"]
def e1_on_at : Ef := (eIx (eVar 2) (eC (.int 0)))
def t1_on_at : Bf := (bTr (eCallP f_is_on (aCons (eVar 0) (aCons (eIx (eVar 2) (eC (.int 0))) (aCons (eVar 1) aNil)))))
def b_on_at : Sf := (sRet (eDN (o1 oTuple) (aCons (eComp (iAny (eIx (eVar 0) (eC (.int 1)))) (.nm 2) t1_on_at e1_on_at [2]) aNil)))
def f_on_at : List PyData → PRes := runP 3 b_on_at
abbrev n_counts : List Str := ["plan", "beat"]
abbrev p_counts : List Str := ["plan"]
def e1_counts : Ef := (eDN (o1 oLen) (aCons (eCallP f_on_at (aCons (eVar 0) (aCons (eVar 1) aNil))) aNil))
def b_counts : Sf := (sRet (eDN (o1 oTuple) (aCons (eComp (iR1 (aCons (eIx (eVar 0) (eC (.int 0))) aNil)) (.nm 1) bYes e1_counts [1]) aNil)))
def f_counts : List PyData → PRes := runP 2 b_counts
abbrev n_most_on : List Str := ["plan"]
abbrev p_most_on : List Str := ["plan"]
def b_most_on : Sf := (sRet (eDN (o1 oMax1) (aCons (eCallP f_counts (aCons (eVar 0) aNil)) aNil)))
def f_most_on : List PyData → PRes := runP 1 b_most_on
abbrev n_picture : List Str := ["plan", "found", "line", "beat"]
abbrev p_picture : List Str := ["plan"]
def e1_picture : Ef := (eIx (eC (.str ".#")) (eDN (o1 oInt) (aCons (eCallP f_is_on (aCons (eVar 0) (aCons (eIx (eVar 2) (eC (.int 0))) (aCons (eVar 3) aNil)))) aNil)))
def l1_picture : Sf := (sAsg (.nm 1) (eD2 oAdd (eVar 1) (eTup (aCons (eJoin (eC (.str "")) (aCons (eComp (iR1 (aCons (eIx (eVar 0) (eC (.int 0))) aNil)) (.nm 3) bYes e1_picture [3]) aNil)) aNil))))
def b_picture : Sf := (sSeq (sAsg (.nm 1) (eTup aNil)) (sSeq (sFor (iAny (eIx (eVar 0) (eC (.int 1)))) (.nm 2) l1_picture) (sRet (eVar 1))))
def f_picture : List PyData → PRes := runP 4 b_picture
abbrev n__law_draw : List Str := ["_law_script", "_law_town", "_law_many", "_law_k", "_law_cell", "_law_number", "_law_more"]
abbrev p__law_draw : List Str := ["_law_script", "_law_town", "_law_many"]
def b__law_draw : Sf := (sSeq (sExpr (eApp (eVar 1) (aCons (eC (.int 0)) aNil))) (sSeq (sAsg (.nm 3) (eDN (o1 oLen) (aCons (eVar 1) aNil))) (sSeq (sAsg (.nm 4) (eC (.int 0))) (sSeq (sIf (bTr (eVar 0)) (sAsg (.nm 4) (eIx (eVar 0) (eD2 oMod (eVar 3) (eDN (o1 oLen) (aCons (eVar 0) aNil))))) sNext) (sSeq (sAsg (.nm 5) (eD2 oMod (eD2 oAdd (eVar 4) (eD2 oMul (eC (.int 104729)) (eVar 3))) (eC (.int 4294967291)))) (sSeq (sAsg (.nm 5) (eD2 oMod (eD2 oMul (eD2 oMod (eD2 oMul (eVar 5) (eVar 5)) (eC (.int 4294967279))) (eC (.int 48271))) (eC (.int 4294967291)))) (sSeq (sAsg (.nm 6) (eD2 oMod (eD2 oMul (eD2 oMod (eD2 oMul (eVar 5) (eVar 5)) (eC (.int 4294967279))) (eC (.int 69621))) (eC (.int 4294967291)))) (sRet (eD2 oMod (eD2 oAdd (eD2 oMul (eD2 oDiv (eVar 5) (eC (.int 64))) (eC (.int 67108864))) (eD2 oDiv (eVar 6) (eC (.int 64)))) (eVar 2))))))))))
def g__law_draw : List Wv → Store → Res Wv := runG 7 b__law_draw
abbrev n__law_pick : List Str := ["_law_script", "_law_town", "_law_some"]
abbrev p__law_pick : List Str := ["_law_script", "_law_town", "_law_some"]
def b__law_pick : Sf := (sRet (eIx (eVar 2) (eCallG g__law_draw (aCons (eVar 0) (aCons (eVar 1) (aCons (eDN (o1 oLen) (aCons (eVar 2) aNil)) aNil))))))
def g__law_pick : List Wv → Store → Res Wv := runG 3 b__law_pick
abbrev n__law_plan : List Str := ["_law_script", "_law_town", "_law_high", "_law_beats", "_law_lines", "_law_begin", "_law_k", "_law_some", "_law_width", "_law_name", "_law_j"]
abbrev p__law_plan : List Str := ["_law_script", "_law_town", "_law_high"]
def e1__law_plan : Ef := (eCallG g__law_draw (aCons (eVar 0) (aCons (eVar 1) (aCons (eD2 oAdd (eVar 3) (eC (.int 1))) aNil))))
def l1__law_plan : Sf := (sSeq (sAsg (.nm 7) (eComp (iR1 (aCons (eC (.int 2)) aNil)) (.nm 10) bYes e1__law_plan [10])) (sSeq (sAsg (.nm 8) (eCallG g__law_pick (aCons (eVar 0) (aCons (eVar 1) (aCons (eD2 oAdd (eLst (aCons (eC (.int 0)) (aCons (eVar 3) (aCons (eC (.int 1)) aNil)))) (eVar 7)) aNil))))) (sSeq (sAsg (.nm 9) (eIx (eC (.str "abcdefghijklmnopqrstuvwxyz")) (eD2 oAdd (eVar 5) (eD2 oMul (eC (.int 3)) (eVar 6))))) (sAsg (.nm 4) (eD2 oAdd (eVar 4) (eTup (aCons (eTup (aCons (eVar 9) (aCons (eVar 8) (aCons (eCallG g__law_draw (aCons (eVar 0) (aCons (eVar 1) (aCons (eVar 3) aNil)))) aNil)))) aNil)))))))
def b__law_plan : Sf := (sSeq (sAsg (.nm 3) (eD2 oAdd (eC (.int 4)) (eCallG g__law_draw (aCons (eVar 0) (aCons (eVar 1) (aCons (eD2 oSub (eVar 2) (eC (.int 3))) aNil)))))) (sSeq (sPar 4 5 (aCons (eTup aNil) (aCons (eCallG g__law_draw (aCons (eVar 0) (aCons (eVar 1) (aCons (eC (.int 9)) aNil)))) aNil))) (sSeq (sFor (iR1 (aCons (eD2 oAdd (eC (.int 1)) (eCallG g__law_draw (aCons (eVar 0) (aCons (eVar 1) (aCons (eC (.int 5)) aNil))))) aNil)) (.nm 6) l1__law_plan) (sRet (eTup (aCons (eVar 3) (aCons (eVar 4) aNil)))))))
def g__law_plan : List Wv → Store → Res Wv := runG 11 b__law_plan
abbrev n__law_is_on : List Str := ["_law_plan_here", "_law_line", "_law_beat", "_law_k"]
abbrev p__law_is_on : List Str := ["_law_plan_here", "_law_line", "_law_beat"]
def l1__law_is_on : Sf := (sIf (eT (eD2 oEq (eD2 oMod (eD2 oSub (eD2 oAdd (eIx (eVar 1) (eC (.int 2))) (eVar 3)) (eVar 2)) (eIx (eVar 0) (eC (.int 0)))) (eC (.int 0)))) (sRet (eC (.bool true))) sNext)
def b__law_is_on : Sf := (sSeq (sFor (iR1 (aCons (eIx (eVar 1) (eC (.int 1))) aNil)) (.nm 3) l1__law_is_on) (sRet (eC (.bool false))))
def f__law_is_on : List PyData → PRes := runP 4 b__law_is_on
abbrev n__law_on : List Str := ["_law_plan_here", "_law_beat", "_law_line"]
abbrev p__law_on : List Str := ["_law_plan_here", "_law_beat"]
def e1__law_on : Ef := (eIx (eVar 2) (eC (.int 0)))
def t1__law_on : Bf := (bTr (eCallP f__law_is_on (aCons (eVar 0) (aCons (eVar 2) (aCons (eVar 1) aNil)))))
def b__law_on : Sf := (sRet (eDN (o1 oTuple) (aCons (eComp (iAny (eIx (eVar 0) (eC (.int 1)))) (.nm 2) t1__law_on e1__law_on [2]) aNil)))
def f__law_on : List PyData → PRes := runP 3 b__law_on
abbrev n__law_events : List Str := ["_law_plan_here", "_law_first", "_law_last", "_law_got", "_law_beat", "_law_before", "_law_after", "_law_line"]
abbrev p__law_events : List Str := ["_law_plan_here", "_law_first", "_law_last"]
def l1__law_events : Sf := (sIf (eT (eD2 oNe (eD2 oIn (eIx (eVar 7) (eC (.int 0))) (eVar 5)) (eD2 oIn (eIx (eVar 7) (eC (.int 0))) (eVar 6)))) (sAsg (.nm 3) (eD2 oAdd (eVar 3) (eTup (aCons (eTup (aCons (eVar 4) (aCons (eIx (eVar 7) (eC (.int 0))) (aCons (eD2 oIn (eIx (eVar 7) (eC (.int 0))) (eVar 6)) aNil)))) aNil)))) sNext)
def l2__law_events : Sf := (sSeq (sPar 5 6 (aCons (eCallP f__law_on (aCons (eVar 0) (aCons (eD2 oSub (eVar 4) (eC (.int 1))) aNil))) (aCons (eCallP f__law_on (aCons (eVar 0) (aCons (eVar 4) aNil))) aNil))) (sFor (iAny (eIx (eVar 0) (eC (.int 1)))) (.nm 7) l1__law_events))
def b__law_events : Sf := (sSeq (sAsg (.nm 3) (eTup aNil)) (sSeq (sFor (iR2 (aCons (eVar 1) (aCons (eVar 2) aNil))) (.nm 4) l2__law_events) (sRet (eVar 3))))
def f__law_events : List PyData → PRes := runP 8 b__law_events
abbrev n_line_edges : List Str := ["plan", "name", "line"]
abbrev p_line_edges : List Str := ["plan", "name"]
def b_line_edges : Sf := (sSeq (sAsg (.nm 2) (eCallP f_line_of (aCons (eVar 0) (aCons (eVar 1) aNil)))) (sSeq (sIf (bOr (eT (eD2 oEq (eIx (eVar 2) (eC (.int 1))) (eC (.int 0)))) (eT (eD2 oEq (eIx (eVar 2) (eC (.int 1))) (eIx (eVar 0) (eC (.int 0)))))) (sRet (eC .none)) sNext) (sRet (eTup (aCons (eIx (eVar 2) (eC (.int 2))) (aCons (eD2 oMod (eD2 oAdd (eIx (eVar 2) (eC (.int 2))) (eIx (eVar 2) (eC (.int 1)))) (eIx (eVar 0) (eC (.int 0)))) aNil))))))
def f_line_edges : List PyData → PRes := runP 3 b_line_edges
abbrev n_line_events : List Str := ["plan", "name", "first", "last", "edges", "found", "beat"]
abbrev p_line_events : List Str := ["plan", "name", "first", "last"]
def l1_line_events : Sf := (sIf (eT (eD2 oEq (eD2 oMod (eVar 6) (eIx (eVar 0) (eC (.int 0)))) (eIx (eVar 4) (eC (.int 0))))) (sAsg (.nm 5) (eD2 oAdd (eVar 5) (eTup (aCons (eTup (aCons (eVar 6) (aCons (eVar 1) (aCons (eC (.bool true)) aNil)))) aNil)))) (sIf (eT (eD2 oEq (eD2 oMod (eVar 6) (eIx (eVar 0) (eC (.int 0)))) (eIx (eVar 4) (eC (.int 1))))) (sAsg (.nm 5) (eD2 oAdd (eVar 5) (eTup (aCons (eTup (aCons (eVar 6) (aCons (eVar 1) (aCons (eC (.bool false)) aNil)))) aNil)))) sNext))
def b_line_events : Sf := (sSeq (sAsg (.nm 4) (eCallP f_line_edges (aCons (eVar 0) (aCons (eVar 1) aNil)))) (sSeq (sAsg (.nm 5) (eTup aNil)) (sSeq (sIf (eT (eNotN (eVar 4))) (sFor (iR2 (aCons (eVar 2) (aCons (eVar 3) aNil))) (.nm 6) l1_line_events) sNext) (sRet (eVar 5)))))
def f_line_events : List PyData → PRes := runP 7 b_line_events
abbrev n_apart : List Str := ["beats", "one", "other"]
abbrev p_apart : List Str := ["beats", "one", "other"]
def b_apart : Sf := (sRet (eDN (o2 oMin2) (aCons (eD2 oMod (eD2 oSub (eVar 1) (eVar 2)) (eVar 0)) (aCons (eD2 oMod (eD2 oSub (eVar 2) (eVar 1)) (eVar 0)) aNil))))
def f_apart : List PyData → PRes := runP 3 b_apart
abbrev n_nearest : List Str := ["plan", "some", "edge", "rows", "one"]
abbrev p_nearest : List Str := ["plan", "some", "edge"]
def e1_nearest : Ef := (eTup (aCons (eCallP f_apart (aCons (eIx (eVar 0) (eC (.int 0))) (aCons (eVar 2) (aCons (eVar 4) aNil)))) (aCons (eD2 oMod (eD2 oSub (eVar 2) (eVar 4)) (eIx (eVar 0) (eC (.int 0)))) (aCons (eVar 4) aNil))))
def b_nearest : Sf := (sSeq (sAsg (.nm 3) (eComp (iAny (eVar 1)) (.nm 4) bYes e1_nearest [4])) (sRet (eIx (eDN (o1 oMin1) (aCons (eVar 3) aNil)) (eC (.int 2)))))
def f_nearest : List PyData → PRes := runP 5 b_nearest
abbrev n_bent : List Str := ["plan", "some", "found", "line", "edges"]
abbrev p_bent : List Str := ["plan", "some"]
def l1_bent : Sf := (sSeq (sAsg (.nm 4) (eCallP f_line_edges (aCons (eVar 0) (aCons (eIx (eVar 3) (eC (.int 0))) aNil)))) (sIf (eT (eNotN (eVar 4))) (sAsg (.nm 2) (eD2 oAdd (eVar 2) (eTup (aCons (eTup (aCons (eIx (eVar 3) (eC (.int 0))) (aCons (eCallP f_nearest (aCons (eVar 0) (aCons (eVar 1) (aCons (eIx (eVar 4) (eC (.int 0))) aNil)))) (aCons (eCallP f_nearest (aCons (eVar 0) (aCons (eVar 1) (aCons (eIx (eVar 4) (eC (.int 1))) aNil)))) aNil)))) aNil)))) sNext))
def b_bent : Sf := (sSeq (sAsg (.nm 2) (eTup aNil)) (sSeq (sFor (iAny (eIx (eVar 0) (eC (.int 1)))) (.nm 3) l1_bent) (sRet (eVar 2))))
def f_bent : List PyData → PRes := runP 5 b_bent
abbrev n_lost : List Str := ["plan", "some", "name", "one", "other"]
abbrev p_lost : List Str := ["plan", "some"]
def e1_lost : Ef := (eVar 2)
def t1_lost : Bf := (eT (eD2 oEq (eVar 3) (eVar 4)))
def b_lost : Sf := (sRet (eDN (o1 oTuple) (aCons (eComp (iAny (eCallP f_bent (aCons (eVar 0) (aCons (eVar 1) aNil)))) (.tp [(.nm 2), (.nm 3), (.nm 4)]) t1_lost e1_lost [2, 3, 4]) aNil)))
def f_lost : List PyData → PRes := runP 5 b_lost
abbrev n_staggered : List Str := ["plan", "found", "shift", "name", "width", "old"]
abbrev p_staggered : List Str := ["plan"]
def l1_staggered : Sf := (sSeq (sAsg (.nm 1) (eD2 oAdd (eVar 1) (eTup (aCons (eTup (aCons (eVar 3) (aCons (eVar 4) (aCons (eVar 2) aNil)))) aNil)))) (sAsg (.nm 2) (eD2 oMod (eD2 oAdd (eVar 2) (eVar 4)) (eIx (eVar 0) (eC (.int 0))))))
def b_staggered : Sf := (sSeq (sAsg (.nm 1) (eTup aNil)) (sSeq (sAsg (.nm 2) (eC (.int 0))) (sSeq (sFor (iAny (eIx (eVar 0) (eC (.int 1)))) (.tp [(.nm 3), (.nm 4), (.nm 5)]) l1_staggered) (sRet (eTup (aCons (eIx (eVar 0) (eC (.int 0))) (aCons (eVar 1) aNil)))))))
def f_staggered : List PyData → PRes := runP 6 b_staggered
abbrev n_is_even : List Str := ["plan"]
abbrev p_is_even : List Str := ["plan"]
def b_is_even : Sf := (sRet (eD2 oLe (eD2 oSub (eDN (o1 oMax1) (aCons (eCallP f_counts (aCons (eVar 0) aNil)) aNil)) (eDN (o1 oMin1) (aCons (eCallP f_counts (aCons (eVar 0) aNil)) aNil))) (eC (.int 1))))
def f_is_even : List PyData → PRes := runP 1 b_is_even
abbrev n_turned : List Str := ["plan", "by", "name", "width", "shift"]
abbrev p_turned : List Str := ["plan", "by"]
def e1_turned : Ef := (eTup (aCons (eVar 2) (aCons (eVar 3) (aCons (eD2 oMod (eD2 oAdd (eVar 4) (eVar 1)) (eIx (eVar 0) (eC (.int 0)))) aNil))))
def b_turned : Sf := (sRet (eTup (aCons (eIx (eVar 0) (eC (.int 0))) (aCons (eDN (o1 oTuple) (aCons (eComp (iAny (eIx (eVar 0) (eC (.int 1)))) (.tp [(.nm 2), (.nm 3), (.nm 4)]) bYes e1_turned [2, 3, 4]) aNil)) aNil))))
def f_turned : List PyData → PRes := runP 5 b_turned
abbrev n_with_width : List Str := ["plan", "name", "width", "one", "old", "shift"]
abbrev p_with_width : List Str := ["plan", "name", "width"]
def e1_with_width : Ef := (eTup (aCons (eVar 3) (aCons (eIf (eT (eD2 oEq (eVar 3) (eVar 1))) (eVar 2) (eVar 4)) (aCons (eVar 5) aNil))))
def b_with_width : Sf := (sSeq (sExpr (eCallP f_line_of (aCons (eVar 0) (aCons (eVar 1) aNil)))) (sSeq (sIf (bNot (eT (eChain oLe oLe (eC (.int 0)) (eVar 2) (eIx (eVar 0) (eC (.int 0)))))) (sRaise "BadWidth") sNext) (sRet (eTup (aCons (eIx (eVar 0) (eC (.int 0))) (aCons (eDN (o1 oTuple) (aCons (eComp (iAny (eIx (eVar 0) (eC (.int 1)))) (.tp [(.nm 3), (.nm 4), (.nm 5)]) bYes e1_with_width [3, 4, 5]) aNil)) aNil))))))
def f_with_width : List PyData → PRes := runP 6 b_with_width
abbrev n_against : List Str := ["plan", "found", "name", "width", "shift"]
abbrev p_against : List Str := ["plan"]
def l1_against : Sf := (sAsg (.nm 1) (eD2 oAdd (eVar 1) (eTup (aCons (eTup (aCons (eVar 2) (aCons (eD2 oSub (eIx (eVar 0) (eC (.int 0))) (eVar 3)) (aCons (eD2 oMod (eD2 oAdd (eVar 4) (eVar 3)) (eIx (eVar 0) (eC (.int 0)))) aNil)))) aNil))))
def b_against : Sf := (sSeq (sAsg (.nm 1) (eTup aNil)) (sSeq (sFor (iAny (eIx (eVar 0) (eC (.int 1)))) (.tp [(.nm 2), (.nm 3), (.nm 4)]) l1_against) (sRet (eTup (aCons (eIx (eVar 0) (eC (.int 0))) (aCons (eVar 1) aNil))))))
def f_against : List PyData → PRes := runP 5 b_against
abbrev n_stretched : List Str := ["plan", "times", "name", "width", "shift"]
abbrev p_stretched : List Str := ["plan", "times"]
def e1_stretched : Ef := (eTup (aCons (eVar 2) (aCons (eD2 oMul (eVar 3) (eVar 1)) (aCons (eD2 oMul (eVar 4) (eVar 1)) aNil))))
def b_stretched : Sf := (sRet (eTup (aCons (eD2 oMul (eIx (eVar 0) (eC (.int 0))) (eVar 1)) (aCons (eDN (o1 oTuple) (aCons (eComp (iAny (eIx (eVar 0) (eC (.int 1)))) (.tp [(.nm 2), (.nm 3), (.nm 4)]) bYes e1_stretched [2, 3, 4]) aNil)) aNil))))
def f_stretched : List PyData → PRes := runP 5 b_stretched
abbrev n_ramp : List Str := ["one", "other", "rounds", "number"]
abbrev p_ramp : List Str := ["one", "other", "rounds"]
def e1_ramp : Ef := (eD2 oAdd (eVar 0) (eD2 oDiv (eD2 oMul (eD2 oSub (eVar 1) (eVar 0)) (eD2 oAdd (eVar 3) (eC (.int 1)))) (eVar 2)))
def b_ramp : Sf := (sRet (eDN (o1 oTuple) (aCons (eComp (iR1 (aCons (eVar 2) aNil)) (.nm 3) bYes e1_ramp [3]) aNil)))
def f_ramp : List PyData → PRes := runP 4 b_ramp
abbrev n_least_most : List Str := ["plan", "line"]
abbrev p_least_most : List Str := ["plan"]
def e1_least_most : Ef := (eIx (eVar 1) (eC (.int 1)))
def b_least_most : Sf := (sRet (eD2 oDiv (eD2 oSub (eD2 oAdd (eDN (o1 oSum) (aCons (eComp (iAny (eIx (eVar 0) (eC (.int 1)))) (.nm 1) bYes e1_least_most [1]) aNil)) (eIx (eVar 0) (eC (.int 0)))) (eC (.int 1))) (eIx (eVar 0) (eC (.int 0)))))
def f_least_most : List PyData → PRes := runP 2 b_least_most
abbrev n_beats_on : List Str := ["plan", "name", "first", "last", "beats", "line", "found", "end", "sign", "whole"]
abbrev p_beats_on : List Str := ["plan", "name", "first", "last"]
def l1_beats_on : Sf := (sSeq (sAsg (.nm 9) (eD2 oDiv (eD2 oSub (eVar 7) (eIx (eVar 5) (eC (.int 2)))) (eVar 4))) (sAsg (.nm 6) (eD2 oAdd (eVar 6) (eD2 oMul (eVar 8) (eD2 oAdd (eD2 oMul (eVar 9) (eIx (eVar 5) (eC (.int 1)))) (eDN (o2 oMin2) (aCons (eD2 oMod (eD2 oSub (eVar 7) (eIx (eVar 5) (eC (.int 2)))) (eVar 4)) (aCons (eIx (eVar 5) (eC (.int 1))) aNil))))))))
def b_beats_on : Sf := (sSeq (sPar 4 5 (aCons (eIx (eVar 0) (eC (.int 0))) (aCons (eCallP f_line_of (aCons (eVar 0) (aCons (eVar 1) aNil))) aNil))) (sSeq (sAsg (.nm 6) (eC (.int 0))) (sSeq (sFor (iAny (eTup (aCons (eTup (aCons (eVar 3) (aCons (eC (.int 1)) aNil))) (aCons (eTup (aCons (eVar 2) (aCons (eD1 oNeg (eC (.int 1))) aNil))) aNil)))) (.tp [(.nm 7), (.nm 8)]) l1_beats_on) (sRet (eVar 6)))))
def f_beats_on : List PyData → PRes := runP 10 b_beats_on
abbrev n_load : List Str := ["plan", "first", "last", "line"]
abbrev p_load : List Str := ["plan", "first", "last"]
def e1_load : Ef := (eCallP f_beats_on (aCons (eVar 0) (aCons (eIx (eVar 3) (eC (.int 0))) (aCons (eVar 1) (aCons (eVar 2) aNil)))))
def b_load : Sf := (sRet (eDN (o1 oSum) (aCons (eComp (iAny (eIx (eVar 0) (eC (.int 1)))) (.nm 3) bYes e1_load [3]) aNil)))
def f_load : List PyData → PRes := runP 4 b_load
abbrev n_both_on : List Str := ["plan", "one", "other", "beat"]
abbrev p_both_on : List Str := ["plan", "one", "other"]
def e1_both_on : Ef := (eVar 3)
def t1_both_on : Bf := (bAnd (eT (eD2 oIn (eVar 1) (eCallP f_on_at (aCons (eVar 0) (aCons (eVar 3) aNil))))) (eT (eD2 oIn (eVar 2) (eCallP f_on_at (aCons (eVar 0) (aCons (eVar 3) aNil))))))
def b_both_on : Sf := (sSeq (sExpr (eCallP f_line_of (aCons (eVar 0) (aCons (eVar 1) aNil)))) (sSeq (sExpr (eCallP f_line_of (aCons (eVar 0) (aCons (eVar 2) aNil)))) (sRet (eDN (o1 oLen) (aCons (eComp (iR1 (aCons (eIx (eVar 0) (eC (.int 0))) aNil)) (.nm 3) t1_both_on e1_both_on [3]) aNil)))))
def f_both_on : List PyData → PRes := runP 4 b_both_on
abbrev n_shared : List Str := ["total", "rounds", "number"]
abbrev p_shared : List Str := ["total", "rounds"]
def e1_shared : Ef := (eD2 oSub (eD2 oDiv (eD2 oMul (eVar 0) (eD2 oAdd (eVar 2) (eC (.int 1)))) (eVar 1)) (eD2 oDiv (eD2 oMul (eVar 0) (eVar 2)) (eVar 1)))
def b_shared : Sf := (sRet (eDN (o1 oTuple) (aCons (eComp (iR1 (aCons (eVar 1) aNil)) (.nm 2) bYes e1_shared [2]) aNil)))
def f_shared : List PyData → PRes := runP 3 b_shared
abbrev n_quiet : List Str := ["plan", "dark", "rows", "beat", "many", "longest", "row"]
abbrev p_quiet : List Str := ["plan"]
def fu_quiet_1 : En → Store → Nat := fun _ _ => 100000
def e1_quiet : Ef := (eD2 oEq (eDN (o1 oLen) (aCons (eCallP f_on_at (aCons (eVar 0) (aCons (eVar 3) aNil))) aNil)) (eC (.int 0)))
def l1_quiet : Sf := (sAsg (.nm 4) (eD2 oAdd (eVar 4) (eC (.int 1))))
def t1_quiet : Bf := (bTr (eIx (eVar 1) (eD2 oMod (eD2 oAdd (eVar 3) (eVar 4)) (eIx (eVar 0) (eC (.int 0))))))
def l2_quiet : Sf := (sIf (bAnd (bTr (eIx (eVar 1) (eVar 3))) (bNot (bTr (eIx (eVar 1) (eD2 oSub (eVar 3) (eC (.int 1))))))) (sSeq (sAsg (.nm 4) (eC (.int 0))) (sSeq (sWhile fu_quiet_1 t1_quiet l1_quiet) (sExpr (eApp (eVar 2) (aCons (eTup (aCons (eVar 3) (aCons (eVar 4) aNil))) aNil))))) sNext)
def e2_quiet : Ef := (eVar 4)
def e3_quiet : Ef := (eVar 6)
def t2_quiet : Bf := (eT (eD2 oEq (eIx (eVar 6) (eC (.int 1))) (eVar 5)))
def b_quiet : Sf := (sSeq (sAsg (.nm 1) (eComp (iR1 (aCons (eIx (eVar 0) (eC (.int 0))) aNil)) (.nm 3) bYes e1_quiet [3])) (sSeq (sIf (bTr (eDN (o1 oAll) (aCons (eVar 1) aNil))) (sRet (eTup (aCons (eTup (aCons (eC (.int 0)) (aCons (eIx (eVar 0) (eC (.int 0))) aNil))) aNil))) sNext) (sSeq (sAsg (.nm 2) (eNewL aNil)) (sSeq (sFor (iR1 (aCons (eIx (eVar 0) (eC (.int 0))) aNil)) (.nm 3) l2_quiet) (frz 2 (sSeq (sAsg (.nm 5) (eDN (o1 oMax1) (aCons (eD2 oAdd (eLst (aCons (eC (.int 0)) aNil)) (eComp (iAny (eVar 2)) (.tp [(.nm 3), (.nm 4)]) bYes e2_quiet [3, 4])) aNil))) (sRet (eDN (o1 oTuple) (aCons (eComp (iAny (eVar 2)) (.nm 6) t2_quiet e3_quiet [6]) aNil)))))))))
def f_quiet : List PyData → PRes := runP 7 b_quiet
abbrev n_common : List Str := ["one", "other"]
abbrev p_common : List Str := ["one", "other"]
def fu_common_1 : En → Store → Nat := fun _ _ => 100000
def l1_common : Sf := (sPar 0 1 (aCons (eVar 1) (aCons (eD2 oMod (eVar 0) (eVar 1)) aNil)))
def t1_common : Bf := (eT (eD2 oGt (eVar 1) (eC (.int 0))))
def b_common : Sf := (sSeq (sWhile fu_common_1 t1_common l1_common) (sRet (eVar 0)))
def f_common : List PyData → PRes := runP 2 b_common
abbrev n_whole_round : List Str := ["some", "found", "plan"]
abbrev p_whole_round : List Str := ["some"]
def l1_whole_round : Sf := (sAsg (.nm 1) (eD2 oDiv (eD2 oMul (eVar 1) (eIx (eVar 2) (eC (.int 0)))) (eCallP f_common (aCons (eVar 1) (aCons (eIx (eVar 2) (eC (.int 0))) aNil)))))
def b_whole_round : Sf := (sSeq (sAsg (.nm 1) (eC (.int 1))) (sSeq (sFor (iAny (eVar 0)) (.nm 2) l1_whole_round) (sRet (eVar 1))))
def f_whole_round : List PyData → PRes := runP 3 b_whole_round
abbrev n_plan_with : List Str := ["some", "name", "plan", "line"]
abbrev p_plan_with : List Str := ["some", "name"]
def e1_plan_with : Ef := (eIx (eVar 3) (eC (.int 0)))
def l1_plan_with : Sf := (sIf (eT (eD2 oIn (eVar 1) (eComp (iAny (eIx (eVar 2) (eC (.int 1)))) (.nm 3) bYes e1_plan_with [3]))) (sRet (eVar 2)) sNext)
def b_plan_with : Sf := (sSeq (sFor (iAny (eVar 0)) (.nm 2) l1_plan_with) (sRaise "NoLine"))
def f_plan_with : List PyData → PRes := runP 4 b_plan_with
abbrev n_number_in : List Str := ["word", "sign"]
abbrev p_number_in : List Str := ["word"]
def e1_number_in : Ef := (eD2 oIn (eVar 1) (eC (.str "0123456789")))
def b_number_in : Sf := (sSeq (sIf (bOr (eT (eD2 oEq (eVar 0) (eC (.str "")))) (bOr (eT (eD2 oGt (eDN (o1 oLen) (aCons (eVar 0) aNil)) (eC (.int 2)))) (bNot (bTr (eDN (o1 oAll) (aCons (eComp (iAny (eVar 0)) (.nm 1) bYes e1_number_in [1]) aNil)))))) (sRaise "NoText") sNext) (sRet (eDN (o1 oInt) (aCons (eVar 0) aNil))))
def f_number_in : List PyData → PRes := runP 2 b_number_in
end PL

/-! # PL, part S: how bodies are worked out -/
namespace PL
open PySem PySem.Spec PyProof.Rows L2
section
variable {α β : Type} {a : α} {S S1 : Store} {c : Str} {ρ ρ' : En} {f : α → Store → Res β} {fs : α → Store → SRes} {g h : Sf} {t u : Bf} {e k : Ef} {fl : Lf} {w x y z : Wv} {tg : Tg} {b : Bool} {i j : Int} {m n : Nat} {op : PyData → PyData → Option PyData} {d1 d2 d3 d4 d5 d6 : PyData} {F : List PyData → PRes} {G : List Wv → Store → Res Wv} {o1' : PyData → Option PyData} {oN : List PyData → Option PyData}
theorem rb_ok : (Res.ok a S).bind f = f a S := rfl
theorem rb_exc : (Res.exc c S : Res α).bind f = .exc c S := rfl
theorem rs_ok : (Res.ok a S).bindS ρ fs = fs a S := rfl
theorem rs_exc : (Res.exc c S : Res α).bindS ρ fs = .exc c ρ S := rfl
def SRes.seq (r : SRes) (h : Sf) : SRes := match r with
  | .nx ρ' S' => h ρ' S'
  | .rt w S' => .rt w S'
  | .bk ρ' S' => .bk ρ' S'
  | .ct ρ' S' => .ct ρ' S'
  | .exc c ρ' S' => .exc c ρ' S'
  | .bad => .bad
theorem s_seq : sSeq g h ρ S = (g ρ S).seq h := by unfold sSeq SRes.seq; cases g ρ S <;> rfl
theorem seq_nx : (SRes.nx ρ S).seq h = h ρ S := rfl
theorem seq_rt : (SRes.rt w S).seq h = .rt w S := rfl
theorem seq_bk : (SRes.bk ρ S).seq h = .bk ρ S := rfl
theorem seq_ct : (SRes.ct ρ S).seq h = .ct ρ S := rfl
theorem seq_exc : (SRes.exc c ρ S).seq h = .exc c ρ S := rfl
def nxO (o : Option En) (S : Store) : SRes := match o with
  | some ρ' => .nx ρ' S
  | none => .bad
theorem nxO_s : nxO (some ρ) S = .nx ρ S := rfl
theorem s_asg : sAsg tg e ρ S = (e ρ S).bindS ρ fun w S1 => nxO (bindT tg w ρ) S1 := by unfold sAsg nxO; rfl
theorem s_par {i j : Nat} : sPar i j fl ρ S = (fl ρ S).bindS ρ fun ws S1 => match ws with | [u, v] => .nx ((ρ.set i (some u)).set j (some v)) S1 | _ => .bad := rfl
theorem s_par3 {i j l : Nat} : sPar3 i j l fl ρ S = (fl ρ S).bindS ρ fun ws S1 => match ws with | [u, v, w] => .nx (((ρ.set i (some u)).set j (some v)).set l (some w)) S1 | _ => .bad := rfl
theorem s_ret : sRet e ρ S = (e ρ S).bindS ρ fun w S1 => .rt w S1 := rfl
theorem s_expr : sExpr e ρ S = (e ρ S).bindS ρ fun _ S1 => .nx ρ S1 := rfl
theorem s_next : sNext ρ S = .nx ρ S := rfl
theorem s_bk : sBk ρ S = .bk ρ S := rfl
theorem s_ct : sCt ρ S = .ct ρ S := rfl
theorem s_raise : sRaise c ρ S = .exc c ρ S := rfl
def ifS (r : Res Bool) (ρ : En) (g h : Sf) : SRes := r.bindS ρ fun b S1 => if b = true then g ρ S1 else h ρ S1
theorem s_if : sIf t g h ρ S = ifS (t ρ S) ρ g h := rfl
theorem ifS_t : ifS (.ok true S) ρ g h = g ρ S := rfl
theorem ifS_f : ifS (.ok false S) ρ g h = h ρ S := rfl
theorem ifS_exc : ifS (.exc c S) ρ g h = .exc c ρ S := rfl
theorem s_for {it : If} : sFor it tg g ρ S = (it ρ S).bindS ρ fun ws S1 => loopS tg g ws ρ S1 := rfl
theorem e_var {i : Nat} (h : ρ[i]? = some (some w)) : eVar i ρ S = .ok w S := by unfold eVar; rw [h]
theorem e_c : eC d1 ρ S = .ok (.d d1) S := rfl
theorem wOf_s : wOf (some w) S = .ok w S := rfl
theorem rOf_s : rOf (some d1) S = .ok (.d d1) S := rfl
theorem bOf_s : bOf (some b) S = .ok b S := rfl
theorem e_ix : eIx e k ρ S = (e ρ S).bind fun x S1 => (k ρ S1).bind fun y S2 => wOf (ixW S2 x y) S2 := rfl
theorem asD_d : asD S (.d d1) = some d1 := rfl
theorem ob_s {f : α → Option β} : (some a).bind f = f a := rfl
theorem om_s {f : α → β} : (some a).map f = some (f a) := rfl
theorem e_d1 : eD1 o1' e ρ S = (e ρ S).bind fun w S1 => rOf ((asD S1 w).bind o1') S1 := rfl
theorem e_d2 : eD2 op e k ρ S = (e ρ S).bind fun a S1 => (k ρ S1).bind fun b S2 => rOf ((asD S2 a).bind fun x => (asD S2 b).bind fun y => op x y) S2 := rfl
theorem e_dN : eDN oN fl ρ S = (fl ρ S).bind fun ws S1 => rOf ((asDs S1 ws).bind oN) S1 := rfl
theorem asDs_1 : asDs S [.d d1] = some [d1] := rfl
theorem asDs_2 : asDs S [.d d1, .d d2] = some [d1, d2] := rfl
def bvO (w : Wv) (S : Store) : Res Bool := match w with | .d (.bool b) => .ok b S | _ => .bad
theorem bvO_s : bvO (.d (.bool b)) S = .ok b S := rfl
theorem e_t : eT e ρ S = (e ρ S).bind bvO := by unfold eT; rfl
theorem o1_s : o1 o1' [d1] = o1' d1 := rfl
theorem o2_s : o2 op [d1, d2] = op d1 d2 := rfl
theorem a_nil : aNil ρ S = .ok [] S := rfl
theorem a_cons : aCons e fl ρ S = (e ρ S).bind fun w S1 => (fl ρ S1).bind fun ws S2 => .ok (w :: ws) S2 := rfl
def prO (r : PRes) (S : Store) : Res Wv := match r with | .ok d => .ok (.d d) S | .exc c => .exc c S | .bad => .bad
theorem prO_ok : prO (.ok d1) S = .ok (.d d1) S := rfl
theorem prO_exc : prO (.exc c) S = .exc c S := rfl
theorem e_cp : eCallP F fl ρ S = (fl ρ S).bind fun ws S1 => callP F ws S1 := rfl
theorem e_cg : eCallG G fl ρ S = (fl ρ S).bind fun ws S1 => G ws S1 := rfl
theorem call_1 : callP F [.d d1] S = prO (F [d1]) S := rfl
theorem call_2 : callP F [.d d1, .d d2] S = prO (F [d1, d2]) S := rfl
theorem call_3 : callP F [.d d1, .d d2, .d d3] S = prO (F [d1, d2, d3]) S := rfl
theorem call_4 : callP F [.d d1, .d d2, .d d3, .d d4] S = prO (F [d1, d2, d3, d4]) S := rfl
theorem call_5 : callP F [.d d1, .d d2, .d d3, .d d4, .d d5] S = prO (F [d1, d2, d3, d4, d5]) S := rfl
theorem call_6 : callP F [.d d1, .d d2, .d d3, .d d4, .d d5, .d d6] S = prO (F [d1, d2, d3, d4, d5, d6]) S := rfl
theorem b_not : bNot t ρ S = (t ρ S).bind fun b S1 => .ok (!b) S1 := rfl
def andB (r : Res Bool) (ρ : En) (u : Bf) : Res Bool := r.bind fun b S1 => if b = true then u ρ S1 else .ok false S1
def orB (r : Res Bool) (ρ : En) (u : Bf) : Res Bool := r.bind fun b S1 => if b = true then .ok true S1 else u ρ S1
theorem b_and : bAnd t u ρ S = andB (t ρ S) ρ u := rfl
theorem b_or : bOr t u ρ S = orB (t ρ S) ρ u := rfl
theorem andB_t : andB (.ok true S) ρ u = u ρ S := rfl
theorem andB_f : andB (.ok false S) ρ u = .ok false S := rfl
theorem orB_t : orB (.ok true S) ρ u = .ok true S := rfl
theorem orB_f : orB (.ok false S) ρ u = u ρ S := rfl
/-- both sides of a test known -/
theorem andB_b {c : Bool} (h : b = true → u ρ S = .ok c S) : andB (.ok b S) ρ u = .ok (b && c) S := by
  cases b with
  | true => exact (h rfl).trans rfl
  | false => rfl
theorem orB_b {c : Bool} (h : b = false → u ρ S = .ok c S) : orB (.ok b S) ρ u = .ok (b || c) S := by
  cases b with
  | true => rfl
  | false => exact (h rfl).trans rfl
theorem b_tr : bTr e ρ S = (e ρ S).bind fun w S1 => bOf (truW S1 w) S1 := rfl
theorem truW_b : truW S (.d (.bool b)) = some b := rfl
def ifE (r : Res Bool) (ρ : En) (e k : Ef) : Res Wv := r.bind fun b S1 => if b = true then e ρ S1 else k ρ S1
theorem e_if : eIf t e k ρ S = ifE (t ρ S) ρ e k := rfl
theorem ifE_t : ifE (.ok true S) ρ e k = e ρ S := rfl
theorem ifE_f : ifE (.ok false S) ρ e k = k ρ S := rfl
theorem ifE_d (h1 : b = true → e ρ S = .ok (.d d1) S) (h2 : b = false → k ρ S = .ok (.d d2) S) : ifE (.ok b S) ρ e k = .ok (.d (if b = true then d1 else d2)) S := by
  cases b with
  | true => exact h1 rfl
  | false => exact h2 rfl
theorem e_isN : eIsN e ρ S = (e ρ S).bind fun w S1 => .ok (.d (.bool (isNW w))) S1 := rfl
theorem e_notN : eNotN e ρ S = (e ρ S).bind fun w S1 => .ok (.d (.bool (!isNW w))) S1 := rfl
def notV (o : Option Bool) (S : Store) : Res Wv := match o with
  | some b => .ok (.d (.bool (!b))) S
  | none => .bad
theorem notV_s : notV (some b) S = .ok (.d (.bool (!b))) S := rfl
theorem e_notV : eNot e ρ S = (e ρ S).bind fun w S1 => notV (truW S1 w) S1 := by unfold eNot notV; rfl
def andV (o : Option Bool) (w : Wv) (ρ : En) (k : Ef) (S : Store) : Res Wv := match o with
  | some b => if b = true then k ρ S else .ok w S
  | none => .bad
theorem e_andV : eAnd e k ρ S = (e ρ S).bind fun w S1 => andV (truW S1 w) w ρ k S1 := by unfold eAnd andV; rfl
theorem andV_t : andV (some true) w ρ k S = k ρ S := rfl
theorem andV_f : andV (some false) w ρ k S = .ok w S := rfl
def chO (o : Option PyData) (b : Wv) (op' : PyData → PyData → Option PyData) (h : Ef) (ρ : En) (S : Store) : Res Wv := match o with
  | some (.bool true) => (h ρ S).bind fun c S3 => rOf ((asD S3 b).bind fun y => (asD S3 c).bind fun z => op' y z) S3
  | some (.bool false) => .ok (.d (.bool false)) S
  | _ => .bad
theorem e_ch {op' : PyData → PyData → Option PyData} {h : Ef} : eChain op op' e k h ρ S = (e ρ S).bind fun a S1 => (k ρ S1).bind fun b S2 => chO ((asD S2 a).bind fun x => (asD S2 b).bind fun y => op x y) b op' h ρ S2 := by unfold eChain chO; rfl
theorem chO_t {op' : PyData → PyData → Option PyData} {h : Ef} : chO (some (.bool true)) w op' h ρ S = (h ρ S).bind fun c S3 => rOf ((asD S3 w).bind fun y => (asD S3 c).bind fun z => op' y z) S3 := rfl
theorem chO_f {op' : PyData → PyData → Option PyData} {h : Ef} : chO (some (.bool false)) w op' h ρ S = .ok (.d (.bool false)) S := rfl
def oiO (w : Wv) (S : Store) : Res (Option Int) := match w with | .d (.int i) => .ok (some i) S | _ => .bad
theorem oiO_s : oiO (.d (.int i)) S = .ok (some i) S := rfl
theorem o_no : oNo ρ S = .ok none S := rfl
theorem o_yes : oYes e ρ S = (e ρ S).bind oiO := by unfold oYes; rfl
theorem e_sl {lo hi : Of} : eSl e lo hi ρ S = (e ρ S).bind fun x S1 => (lo ρ S1).bind fun l S2 => (hi ρ S2).bind fun h S3 => rOf ((asD S3 x).bind fun d => oSl d l h) S3 := rfl
theorem sl_t {xs : List PyData} {lo hi : Option Int} : oSl (.tuple xs) lo hi = some (.tuple (cut xs lo hi)) := rfl
theorem sl_l {xs : List PyData} {lo hi : Option Int} : oSl (.list xs) lo hi = some (.list (cut xs lo hi)) := rfl
theorem cut_to {α : Type} (xs : List α) (k : Nat) (h : k ≤ xs.length) : cut xs none (some (k : Int)) = xs.take k := by
  unfold cut
  rw [HT.sIx_none, HT.sIx_nat, List.drop_zero, Nat.sub_zero, Nat.min_eq_left h]
theorem cut_from {α : Type} (xs : List α) (k : Nat) (h : k ≤ xs.length) : cut xs (some (k : Int)) none = xs.drop k := by
  unfold cut
  rw [HT.sIx_none, HT.sIx_nat, Nat.min_eq_left h, List.take_of_length_le (by rw [List.length_drop]; exact Nat.le_refl _)]
theorem i_zip : iZip fl ρ S = (fl ρ S).bind zipI := rfl
theorem zipI_t {xs ys : List PyData} : zipI [.d (.tuple xs), .d (.tuple ys)] S = .ok (zipW (xs.map .d) (ys.map .d)) S := rfl
theorem zipI_l {xs ys : List PyData} : zipI [.d (.list xs), .d (.list ys)] S = .ok (zipW (xs.map .d) (ys.map .d)) S := rfl
theorem all_bls {bs : List Bool} : oAll (.list (bs.map .bool)) = some (.bool (bs.all id)) := by simp only [oAll, blsOf_map]
theorem any_bls {bs : List Bool} : oAny (.list (bs.map .bool)) = some (.bool (bs.any id)) := by simp only [oAny, blsOf_map]
theorem zip_map {α : Type} (f g : α → PyData) : ∀ xs : List α, zipW ((xs.map f).map .d) ((xs.map g).map .d) = xs.map fun x => Wv.d (.tuple [f x, g x])
  | [] => rfl
  | x :: r => by simp only [List.map_cons, zipW, zip_map f g r]; rfl
theorem add_ii : oAdd (.int i) (.int j) = some (.int (i + j)) := rfl
theorem add_tt {xs ys : List PyData} (h : xs.length + ys.length ≤ 16777216) : oAdd (.tuple xs) (.tuple ys) = some (.tuple (xs ++ ys)) := if_pos h
theorem add_ll {xs ys : List PyData} (h : xs.length + ys.length ≤ 16777216) : oAdd (.list xs) (.list ys) = some (.list (xs ++ ys)) := if_pos h
theorem sub_ii : oSub (.int i) (.int j) = some (.int (i - j)) := rfl
theorem mod_ii (h : 0 < j) : oMod (.int i) (.int j) = some (.int (i % j)) := if_pos h
theorem div_ii (h : 0 < j) (h2 : j < 1073741824) : oDiv (.int i) (.int j) = some (.int (i / j)) := if_pos ⟨h, h2⟩
/-- a factor below 2^64 -/
def Fac (i : Int) : Prop := -(2 ^ 64) < i ∧ i < 2 ^ 64
instance (i : Int) : Decidable (Fac i) := inferInstanceAs (Decidable (_ ∧ _))
theorem mul_l (h : Fac i) : oMul (.int i) (.int j) = some (.int (i * j)) := if_pos (.inl h)
theorem mul_r (h : Fac j) : oMul (.int i) (.int j) = some (.int (i * j)) := if_pos (.inr h)
theorem neg_i : oNeg (.int i) = some (.int (-i)) := rfl
theorem lt_ii : oLt (.int i) (.int j) = some (.bool (decide (i < j))) := rfl
theorem le_ii : oLe (.int i) (.int j) = some (.bool (decide (i ≤ j))) := rfl
theorem gt_ii : oGt (.int i) (.int j) = some (.bool (decide (j < i))) := rfl
theorem ge_ii : oGe (.int i) (.int j) = some (.bool (decide (j ≤ i))) := rfl
theorem eq_ii : oEq (.int i) (.int j) = some (.bool (decide (i = j))) := rfl
theorem ne_ii : oNe (.int i) (.int j) = some (.bool (!decide (i = j))) := rfl
theorem eq_ss {x y : Str} : oEq (.str x) (.str y) = some (.bool (decide (x = y))) := rfl
theorem ne_ss {x y : Str} : oNe (.str x) (.str y) = some (.bool (!decide (x = y))) := rfl
theorem eq_bb {x y : Bool} : oEq (.bool x) (.bool y) = some (.bool (decide (x = y))) := rfl
theorem ne_bb {x y : Bool} : oNe (.bool x) (.bool y) = some (.bool (!decide (x = y))) := rfl
theorem len_t {xs : List PyData} : oLen (.tuple xs) = some (.int xs.length) := rfl
theorem len_l {xs : List PyData} : oLen (.list xs) = some (.int xs.length) := rfl
theorem min_ii : oMin2 (.int i) (.int j) = some (.int (min i j)) := rfl
theorem max_ii : oMax2 (.int i) (.int j) = some (.int (max i j)) := rfl
theorem int_i : oInt (.int i) = some (.int i) := rfl
theorem int_b : oInt (.bool b) = some (.int (if b then 1 else 0)) := rfl
theorem tup_l {xs : List PyData} : oTuple (.list xs) = some (.tuple xs) := rfl
theorem tup_t {xs : List PyData} : oTuple (.tuple xs) = some (.tuple xs) := rfl
theorem lst_l {xs : List PyData} : oList (.list xs) = some (.list xs) := rfl
theorem lst_t {xs : List PyData} : oList (.tuple xs) = some (.list xs) := rfl
theorem sum_ints {ns : List Int} : oSum (.list (ns.map .int)) = some (.int ns.sum) := by simp only [oSum, intsOf_map]
theorem atI_in {α : Type} {xs : List α} {i : Int} (h0 : 0 ≤ i) (h1 : i < xs.length) : atI xs i = xs[i.toNat]? := by unfold atI ixN; rw [if_pos h0, if_pos h1]; rfl
theorem ix_list {xs : List PyData} {i : Int} {y : PyData} (h : atI xs i = some y) : ixW S (.d (.list xs)) (.d (.int i)) = some (.d y) := by
  show (match atI xs i with | some z => some (Wv.d z) | none => none) = _
  rw [h]
theorem ix_tuple {xs : List PyData} {i : Int} {y : PyData} (h : atI xs i = some y) : ixW S (.d (.tuple xs)) (.d (.int i)) = some (.d y) := by
  show (match atI xs i with | some z => some (Wv.d z) | none => none) = _
  rw [h]
theorem atI_mapIn {α β : Type} (h : α → β) {xs : List α} {i : Int} (h0 : 0 ≤ i) (h1 : i < xs.length) : ∃ x, x ∈ xs ∧ xs[i.toNat]? = some x ∧ atI (xs.map h) i = some (h x) := by
  have hq : i.toNat < xs.length := by omega
  refine ⟨xs[i.toNat], List.getElem_mem hq, List.getElem?_eq_getElem hq, ?_⟩
  rw [atI_in h0 (by rw [List.length_map]; exact h1), List.getElem?_map, List.getElem?_eq_getElem hq]; rfl
theorem unpk_t {xs : List PyData} : unpk (.d (.tuple xs)) = some (xs.map .d) := rfl
theorem e_tup : eTup fl ρ S = (fl ρ S).bind fun ws S1 => if ws.length ≤ LINE then .ok (mkSq true ws) S1 else .bad := rfl
theorem e_lst : eLst fl ρ S = (fl ρ S).bind fun ws S1 => if ws.length ≤ LINE then .ok (mkSq false ws) S1 else .bad := rfl
def itO (o : Option (List Wv)) (S : Store) : Res (List Wv) := match o with | some l => .ok l S | none => .bad
theorem itO_s {l : List Wv} : itO (some l) S = .ok l S := rfl
theorem i_any : iAny e ρ S = (e ρ S).bind fun w S1 => itO (itA w) S1 := by unfold iAny itO; rfl
theorem itA_t {xs : List PyData} : itA (.d (.tuple xs)) = some (xs.map .d) := rfl
theorem itA_l {xs : List PyData} : itA (.d (.list xs)) = some (xs.map .d) := rfl
def r1O (ws : List Wv) (S : Store) : Res (List Wv) := match ws with | [.d (.int j)] => if small j then .ok (rngW 0 j.toNat) S else .bad | _ => .bad
def r2O (ws : List Wv) (S : Store) : Res (List Wv) := match ws with | [.d (.int i), .d (.int j)] => if small i ∧ small j then .ok (rngW i (j - i).toNat) S else .bad | _ => .bad
theorem i_r1 : iR1 fl ρ S = (fl ρ S).bind r1O := by unfold iR1; rfl
theorem i_r2 : iR2 fl ρ S = (fl ρ S).bind r2O := by unfold iR2; rfl
theorem r1O_s (h : small j) : r1O [.d (.int j)] S = .ok (rngW 0 j.toNat) S := if_pos h
theorem r2O_s (h : small i) (h2 : small j) : r2O [.d (.int i), .d (.int j)] S = .ok (rngW i (j - i).toNat) S := if_pos ⟨h, h2⟩
end
end PL

/-! # PL, part N: what the shared defs compute -/
namespace PL
open PySem PySem.Spec PyProof.Rows L2

theorem runP_rt {n : Nat} {b : Sf} {ds : List PyData} {d : PyData} {S : Store} (h : b (startE n (ds.map .d)) [] = .rt (.d d) S) : runP n b ds = .ok d := by unfold runP; rw [h]
theorem runP_ex {n : Nat} {b : Sf} {ds : List PyData} {d : PyData} (h : ∃ S, b (startE n (ds.map .d)) [] = .rt (.d d) S) : runP n b ds = .ok d := by obtain ⟨S, h⟩ := h; exact runP_rt h
theorem runP_exc {n : Nat} {b : Sf} {ds : List PyData} {c : Str} {ρ : En} {S : Store} (h : b (startE n (ds.map .d)) [] = .exc c ρ S) : runP n b ds = .exc c := by unfold runP; rw [h]
theorem runG_rt {n : Nat} {b : Sf} {ws : List Wv} {w : Wv} {S S' : Store} (h : b (startE n ws) S = .rt w S') : runG n b ws S = .ok w S' := by unfold runG; rw [h]
theorem allD_mapf {α : Type} (h : α → PyData) : ∀ xs : List α, allD (xs.map fun x => .d (h x)) = some (xs.map h)
  | [] => rfl
  | x :: r => by simp only [List.map_cons, allD, allD_mapf h r]
theorem mkSq_map {α : Type} (b : Bool) (h : α → PyData) (xs : List α) : mkSq b (xs.map fun x => .d (h x)) = .d (if b then .tuple (xs.map h) else .list (xs.map h)) := by unfold mkSq; rw [allD_mapf]
theorem compL_map {α : Type} {tg : Tg} {t : Bf} {f : Ef} {ρ : En} {S : Store} (g : α → Wv) (tt : α → Bool) (ff : α → Wv) (ρ1 : α → En) : ∀ (xs : List α),
    (∀ x ∈ xs, bindT tg (g x) ρ = some (ρ1 x)) → (∀ x ∈ xs, t (ρ1 x) S = .ok (tt x) S) → (∀ x ∈ xs, tt x = true → f (ρ1 x) S = .ok (ff x) S) → compL tg t f ρ (xs.map g) S = .ok ((xs.filter tt).map ff) S
  | [], _, _, _ => rfl
  | x :: r, h1, h2, h3 => by
    have ih := compL_map g tt ff ρ1 r (fun y hy => h1 y (List.mem_cons_of_mem _ hy)) (fun y hy => h2 y (List.mem_cons_of_mem _ hy)) (fun y hy => h3 y (List.mem_cons_of_mem _ hy))
    rw [List.map_cons, compL, h1 x List.mem_cons_self]
    dsimp only
    rw [h2 x List.mem_cons_self]
    cases e : tt x with
    | false =>
      dsimp only
      rw [ih, List.filter_cons, e]; rfl
    | true =>
      dsimp only
      rw [h3 x List.mem_cons_self e, List.filter_cons, e]
      dsimp only
      rw [ih]; rfl
theorem eComp_eq {α : Type} {it : If} {tg : Tg} {t : Bf} {f : Ef} {vs : List Nat} {ρ : En} {S : Store} {xs : List α} (g : α → Wv) (tt : α → Bool) (ff : α → PyData) (ρ1 : α → En) (hit : it ρ S = .ok (xs.map g) S) (hl : xs.length ≤ LINE)
    (h1 : ∀ x ∈ xs, bindT tg (g x) (wipeE ρ vs) = some (ρ1 x)) (h2 : ∀ x ∈ xs, t (ρ1 x) S = .ok (tt x) S) (h3 : ∀ x ∈ xs, tt x = true → f (ρ1 x) S = .ok (.d (ff x)) S) : eComp it tg t f vs ρ S = .ok (.d (.list ((xs.filter tt).map ff))) S := by
  unfold eComp
  rw [hit]
  show (if (xs.map g).length ≤ LINE then _ else _) = _
  rw [if_pos (by rw [List.length_map]; exact hl), compL_map g tt (fun x => .d (ff x)) ρ1 xs h1 h2 h3]
  dsimp only
  rw [mkSq_map]; rfl
theorem eComp_all {α : Type} {it : If} {tg : Tg} {f : Ef} {vs : List Nat} {ρ : En} {S : Store} {xs : List α} (g : α → Wv) (ff : α → PyData) (ρ1 : α → En) (hit : it ρ S = .ok (xs.map g) S) (hl : xs.length ≤ LINE)
    (h1 : ∀ x ∈ xs, bindT tg (g x) (wipeE ρ vs) = some (ρ1 x)) (h3 : ∀ x ∈ xs, f (ρ1 x) S = .ok (.d (ff x)) S) : eComp it tg bYes f vs ρ S = .ok (.d (.list (xs.map ff))) S := by
  have := eComp_eq (t := bYes) g (fun _ => true) ff ρ1 hit hl h1 (fun _ _ => rfl) (fun x hx _ => h3 x hx)
  rwa [List.filter_eq_self.mpr (fun _ _ => rfl)] at this
theorem loopS_fold {α σ : Type} {tg : Tg} {body : Sf} (g : α → Wv) (step : σ → α → σ) (E : σ → En → Store → Prop) : ∀ (xs : List α) (a : σ) (ρ : En) (S : Store),
    (∀ x ∈ xs, ∀ a ρ S, E a ρ S → ∃ ρ1, bindT tg (g x) ρ = some ρ1 ∧ ∃ ρ2 S2, body ρ1 S = .nx ρ2 S2 ∧ E (step a x) ρ2 S2) → E a ρ S → ∃ ρ2 S2, loopS tg body (xs.map g) ρ S = .nx ρ2 S2 ∧ E (xs.foldl step a) ρ2 S2
  | [], a, ρ, S, _, h => ⟨ρ, S, rfl, h⟩
  | x :: r, a, ρ, S, hs, h => by
    obtain ⟨ρ1, e1, ρ2, S2, e2, h2⟩ := hs x List.mem_cons_self a ρ S h
    obtain ⟨ρ3, S3, e3, h3⟩ := loopS_fold g step E r (step a x) ρ2 S2 (fun y hy => hs y (List.mem_cons_of_mem _ hy)) h2
    refine ⟨ρ3, S3, ?_, h3⟩
    rw [List.map_cons, loopS, e1]
    dsimp only
    rw [e2]
    exact e3
theorem loopS_idx {tg : Tg} {body : Sf} (g : Nat → Wv) (E : Nat → En → Store → Prop) (n : Nat) {ρ : En} {S : Store}
    (hs : ∀ i < n, ∀ ρ S, E i ρ S → ∃ ρ1, bindT tg (g i) ρ = some ρ1 ∧ ∃ ρ2 S2, body ρ1 S = .nx ρ2 S2 ∧ E (i + 1) ρ2 S2) (h : E 0 ρ S) : ∃ ρ2 S2, loopS tg body ((List.range n).map g) ρ S = .nx ρ2 S2 ∧ E n ρ2 S2 := by
  have gen : ∀ (m k : Nat) (ρ : En) (S : Store), k + m = n → E k ρ S → ∃ ρ2 S2, loopS tg body ((List.range' k m).map g) ρ S = .nx ρ2 S2 ∧ E n ρ2 S2 := by
    intro m
    induction m with
    | zero => intro k ρ S e h; exact ⟨ρ, S, rfl, by rw [← e]; exact h⟩
    | succ m ih =>
      intro k ρ S e h
      obtain ⟨ρ1, e1, ρ2, S2, e2, h2⟩ := hs k (by omega) ρ S h
      obtain ⟨ρ3, S3, e3, h3⟩ := ih (k + 1) ρ2 S2 (by omega) h2
      refine ⟨ρ3, S3, ?_, h3⟩
      rw [List.range'_succ, List.map_cons, loopS, e1]
      dsimp only
      rw [e2]
      exact e3
  rw [List.range_eq_range']
  exact gen n 0 ρ S (by omega) h

/-! ### plans -/
abbrev Ln := Str × Int × Int
abbrev Pl := Int × List Ln
def dL (l : Ln) : PyData := .tuple [.str l.1, .int l.2.1, .int l.2.2]
def dP (p : Pl) : PyData := .tuple [.int p.1, .tuple (p.2.map dL)]
theorem ix_P0 {S : Store} (p : Pl) : ixW S (.d (dP p)) (.d (.int 0)) = some (.d (.int p.1)) := rfl
theorem ix_P1 {S : Store} (p : Pl) : ixW S (.d (dP p)) (.d (.int 1)) = some (.d (.tuple (p.2.map dL))) := rfl
theorem ix_L0 {S : Store} (p : Ln) : ixW S (.d (dL p)) (.d (.int 0)) = some (.d (.str p.1)) := rfl
theorem ix_L1 {S : Store} (p : Ln) : ixW S (.d (dL p)) (.d (.int 1)) = some (.d (.int p.2.1)) := rfl
theorem ix_L2 {S : Store} (p : Ln) : ixW S (.d (dL p)) (.d (.int 2)) = some (.d (.int p.2.2)) := rfl
theorem un_L (l : Ln) : unpk (.d (dL l)) = some [.d (.str l.1), .d (.int l.2.1), .d (.int l.2.2)] := rfl
theorem un_P (p : Pl) : unpk (.d (dP p)) = some [.d (.int p.1), .d (.tuple (p.2.map dL))] := rfl
theorem mapLd (ls : List Ln) : (ls.map dL).map Wv.d = ls.map fun l => Wv.d (dL l) := by rw [List.map_map]; rfl
def lineOf (p : Pl) (n : Str) : Option Ln := p.2.find? fun l => decide (l.1 = n)
theorem line_loop (p n : Wv) (x : Str) (hn : n = .d (.str x)) : ∀ (ls : List Ln) (o : Option Wv), ∃ o', loopS (.nm 2) l1_line_of ((ls.map dL).map .d) [some p, some n, o] [] = match ls.find? (fun l => decide (l.1 = x)) with
    | some l => .rt (.d (dL l)) []
    | none => .nx [some p, some n, o'] [] := by
  intro ls
  subst hn
  induction ls with
  | nil => intro o; exact ⟨o, rfl⟩
  | cons l r ih =>
    intro o
    obtain ⟨o', h⟩ := ih (some (.d (dL l)))
    refine ⟨o', ?_⟩
    by_cases e : l.1 = x
    · rw [List.find?_cons, decide_eq_true e]
      simp only [loopS, l1_line_of, ix_L0, decide_eq_true e, startE, rb_ok, rb_exc, rs_ok, rs_exc, s_seq, seq_nx, seq_rt, seq_bk, seq_ct, seq_exc, nxO_s, s_asg, s_par, s_par3, s_ret, s_expr, s_next, s_bk, s_ct, s_raise, s_if, ifS_t, ifS_f, ifS_exc, s_for, eVar, e_c, wOf_s, rOf_s, bOf_s, e_ix, asD_d, ob_s, om_s, e_d1, e_d2, e_dN, asDs_1, asDs_2, bvO_s, e_t, o1_s, o2_s, a_nil, a_cons, prO_ok, prO_exc, e_cp, e_cg, call_1, call_2, call_3, call_4, call_5, call_6, b_not, b_and, b_or, andB_t, andB_f, orB_t, orB_f, b_tr, truW_b, e_if, ifE_t, ifE_f, e_isN, e_notN, e_notV, notV_s, e_andV, andV_t, andV_f, e_ch, chO_t, chO_f, e_sl, o_no, o_yes, oiO_s, sl_t, sl_l, i_zip, zipI_t, zipI_l, add_ii, sub_ii, neg_i, lt_ii, le_ii, gt_ii, ge_ii, eq_ii, ne_ii, eq_ss, ne_ss, eq_bb, ne_bb, len_t, len_l, min_ii, max_ii, int_i, int_b, tup_l, tup_t, lst_l, lst_t, sum_ints, e_tup, e_lst, itO_s, i_any, itA_t, itA_l, i_r1, i_r2, bindT, bindTs, unpk_t, un_L, un_P, mkSq, allD, wipeE, LINE, List.map_cons, List.map_nil, List.length_cons, List.length_nil, List.replicate, List.cons_append, List.nil_append, Nat.sub_self, Nat.reduceSub, Nat.reduceAdd, List.getElem?_cons_zero, List.getElem?_cons_succ, List.set_cons_zero, List.set_cons_succ, reduceIte, Bool.false_eq_true, Bool.not_true, Bool.not_false, Nat.reduceLeDiff, if_true, if_false, decide_true, decide_false]
    · rw [List.find?_cons, decide_eq_false e, ← h]
      simp only [loopS, l1_line_of, ix_L0, decide_eq_false e, startE, rb_ok, rb_exc, rs_ok, rs_exc, s_seq, seq_nx, seq_rt, seq_bk, seq_ct, seq_exc, nxO_s, s_asg, s_par, s_par3, s_ret, s_expr, s_next, s_bk, s_ct, s_raise, s_if, ifS_t, ifS_f, ifS_exc, s_for, eVar, e_c, wOf_s, rOf_s, bOf_s, e_ix, asD_d, ob_s, om_s, e_d1, e_d2, e_dN, asDs_1, asDs_2, bvO_s, e_t, o1_s, o2_s, a_nil, a_cons, prO_ok, prO_exc, e_cp, e_cg, call_1, call_2, call_3, call_4, call_5, call_6, b_not, b_and, b_or, andB_t, andB_f, orB_t, orB_f, b_tr, truW_b, e_if, ifE_t, ifE_f, e_isN, e_notN, e_notV, notV_s, e_andV, andV_t, andV_f, e_ch, chO_t, chO_f, e_sl, o_no, o_yes, oiO_s, sl_t, sl_l, i_zip, zipI_t, zipI_l, add_ii, sub_ii, neg_i, lt_ii, le_ii, gt_ii, ge_ii, eq_ii, ne_ii, eq_ss, ne_ss, eq_bb, ne_bb, len_t, len_l, min_ii, max_ii, int_i, int_b, tup_l, tup_t, lst_l, lst_t, sum_ints, e_tup, e_lst, itO_s, i_any, itA_t, itA_l, i_r1, i_r2, bindT, bindTs, unpk_t, un_L, un_P, mkSq, allD, wipeE, LINE, List.map_cons, List.map_nil, List.length_cons, List.length_nil, List.replicate, List.cons_append, List.nil_append, Nat.sub_self, Nat.reduceSub, Nat.reduceAdd, List.getElem?_cons_zero, List.getElem?_cons_succ, List.set_cons_zero, List.set_cons_succ, reduceIte, Bool.false_eq_true, Bool.not_true, Bool.not_false, Nat.reduceLeDiff, if_true, if_false, decide_true, decide_false]
theorem line_of_eq (p : Pl) (n : Str) : f_line_of [dP p, .str n] = match lineOf p n with
    | some l => .ok (dL l)
    | none => .exc "NoLine" := by
  obtain ⟨o', h⟩ := line_loop (.d (dP p)) (.d (.str n)) n rfl p.2 none
  unfold lineOf f_line_of b_line_of
  cases e : p.2.find? (fun l => decide (l.1 = n)) with
  | some l => 
    rw [e] at h
    refine runP_rt (S := []) ?_
    simp only [ix_P1, h, startE, rb_ok, rb_exc, rs_ok, rs_exc, s_seq, seq_nx, seq_rt, seq_bk, seq_ct, seq_exc, nxO_s, s_asg, s_par, s_par3, s_ret, s_expr, s_next, s_bk, s_ct, s_raise, s_if, ifS_t, ifS_f, ifS_exc, s_for, eVar, e_c, wOf_s, rOf_s, bOf_s, e_ix, asD_d, ob_s, om_s, e_d1, e_d2, e_dN, asDs_1, asDs_2, bvO_s, e_t, o1_s, o2_s, a_nil, a_cons, prO_ok, prO_exc, e_cp, e_cg, call_1, call_2, call_3, call_4, call_5, call_6, b_not, b_and, b_or, andB_t, andB_f, orB_t, orB_f, b_tr, truW_b, e_if, ifE_t, ifE_f, e_isN, e_notN, e_notV, notV_s, e_andV, andV_t, andV_f, e_ch, chO_t, chO_f, e_sl, o_no, o_yes, oiO_s, sl_t, sl_l, i_zip, zipI_t, zipI_l, add_ii, sub_ii, neg_i, lt_ii, le_ii, gt_ii, ge_ii, eq_ii, ne_ii, eq_ss, ne_ss, eq_bb, ne_bb, len_t, len_l, min_ii, max_ii, int_i, int_b, tup_l, tup_t, lst_l, lst_t, sum_ints, e_tup, e_lst, itO_s, i_any, itA_t, itA_l, i_r1, i_r2, bindT, bindTs, unpk_t, un_L, un_P, mkSq, allD, wipeE, LINE, List.map_cons, List.map_nil, List.length_cons, List.length_nil, List.replicate, List.cons_append, List.nil_append, Nat.sub_self, Nat.reduceSub, Nat.reduceAdd, List.getElem?_cons_zero, List.getElem?_cons_succ, List.set_cons_zero, List.set_cons_succ, reduceIte, Bool.false_eq_true, Bool.not_true, Bool.not_false, Nat.reduceLeDiff, if_true, if_false, decide_true, decide_false]
  | none =>
    rw [e] at h
    refine runP_exc (ρ := [some (.d (dP p)), some (.d (.str n)), o']) (S := []) ?_
    simp only [ix_P1, h, startE, rb_ok, rb_exc, rs_ok, rs_exc, s_seq, seq_nx, seq_rt, seq_bk, seq_ct, seq_exc, nxO_s, s_asg, s_par, s_par3, s_ret, s_expr, s_next, s_bk, s_ct, s_raise, s_if, ifS_t, ifS_f, ifS_exc, s_for, eVar, e_c, wOf_s, rOf_s, bOf_s, e_ix, asD_d, ob_s, om_s, e_d1, e_d2, e_dN, asDs_1, asDs_2, bvO_s, e_t, o1_s, o2_s, a_nil, a_cons, prO_ok, prO_exc, e_cp, e_cg, call_1, call_2, call_3, call_4, call_5, call_6, b_not, b_and, b_or, andB_t, andB_f, orB_t, orB_f, b_tr, truW_b, e_if, ifE_t, ifE_f, e_isN, e_notN, e_notV, notV_s, e_andV, andV_t, andV_f, e_ch, chO_t, chO_f, e_sl, o_no, o_yes, oiO_s, sl_t, sl_l, i_zip, zipI_t, zipI_l, add_ii, sub_ii, neg_i, lt_ii, le_ii, gt_ii, ge_ii, eq_ii, ne_ii, eq_ss, ne_ss, eq_bb, ne_bb, len_t, len_l, min_ii, max_ii, int_i, int_b, tup_l, tup_t, lst_l, lst_t, sum_ints, e_tup, e_lst, itO_s, i_any, itA_t, itA_l, i_r1, i_r2, bindT, bindTs, unpk_t, un_L, un_P, mkSq, allD, wipeE, LINE, List.map_cons, List.map_nil, List.length_cons, List.length_nil, List.replicate, List.cons_append, List.nil_append, Nat.sub_self, Nat.reduceSub, Nat.reduceAdd, List.getElem?_cons_zero, List.getElem?_cons_succ, List.set_cons_zero, List.set_cons_succ, reduceIte, Bool.false_eq_true, Bool.not_true, Bool.not_false, Nat.reduceLeDiff, if_true, if_false, decide_true, decide_false]

structure Good (p : Pl) : Prop where
  b : 0 < p.1 ∧ p.1 < 100000
  len : p.2.length ≤ 100
  w : ∀ l ∈ p.2, 0 ≤ l.2.1 ∧ l.2.1 ≤ p.1 ∧ 0 ≤ l.2.2 ∧ l.2.2 < p.1
  nd : (p.2.map (·.1)).Nodup
theorem find_mem {ls : List Ln} (nd : (ls.map (·.1)).Nodup) {l : Ln} (h : l ∈ ls) : ls.find? (fun k => decide (k.1 = l.1)) = some l := by
  induction ls with
  | nil => cases h
  | cons k r ih =>
    rw [List.map_cons, List.nodup_cons] at nd
    rw [List.find?_cons]
    by_cases e : k.1 = l.1
    · rw [decide_eq_true e]
      rcases List.mem_cons.mp h with e2 | m
      · subst e2; rfl
      · exact absurd (List.mem_map.mpr ⟨l, m, e.symm⟩) nd.1
    · rw [decide_eq_false e]
      rcases List.mem_cons.mp h with e2 | m
      · subst e2; exact absurd rfl e
      · exact ih nd.2 m
theorem Good.line {p : Pl} (g : Good p) {l : Ln} (h : l ∈ p.2) : lineOf p l.1 = some l := find_mem g.nd h
theorem lineOf_mem {p : Pl} {n : Str} {l : Ln} (h : lineOf p n = some l) : l ∈ p.2 ∧ l.1 = n := ⟨List.mem_of_find?_eq_some h, by have := List.find?_some h; simpa using this⟩
def isOn (p : Pl) (l : Ln) (b : Int) : Bool := decide ((b - l.2.2) % p.1 < l.2.1)
theorem line_of_ok {p : Pl} {n : Str} {l : Ln} (h : lineOf p n = some l) : f_line_of [dP p, .str n] = .ok (dL l) := by rw [line_of_eq, h]
theorem is_on_eq {p : Pl} {n : Str} {l : Ln} {b : Int} (hb : 0 < p.1) (h : lineOf p n = some l) : f_is_on [dP p, .str n, .int b] = .ok (.bool (isOn p l b)) := by
  refine runP_rt (S := []) ?_
  simp only [b_is_on, line_of_ok h, ix_L1, ix_L2, ix_P0, startE, rb_ok, rb_exc, rs_ok, rs_exc, s_seq, seq_nx, seq_rt, seq_bk, seq_ct, seq_exc, nxO_s, s_asg, s_par, s_par3, s_ret, s_expr, s_next, s_bk, s_ct, s_raise, s_if, ifS_t, ifS_f, ifS_exc, s_for, eVar, e_c, wOf_s, rOf_s, bOf_s, e_ix, asD_d, ob_s, om_s, e_d1, e_d2, e_dN, asDs_1, asDs_2, bvO_s, e_t, o1_s, o2_s, a_nil, a_cons, prO_ok, prO_exc, e_cp, e_cg, call_1, call_2, call_3, call_4, call_5, call_6, b_not, b_and, b_or, andB_t, andB_f, orB_t, orB_f, b_tr, truW_b, e_if, ifE_t, ifE_f, e_isN, e_notN, e_notV, notV_s, e_andV, andV_t, andV_f, e_ch, chO_t, chO_f, e_sl, o_no, o_yes, oiO_s, sl_t, sl_l, i_zip, zipI_t, zipI_l, add_ii, sub_ii, neg_i, lt_ii, le_ii, gt_ii, ge_ii, eq_ii, ne_ii, eq_ss, ne_ss, eq_bb, ne_bb, len_t, len_l, min_ii, max_ii, int_i, int_b, tup_l, tup_t, lst_l, lst_t, sum_ints, e_tup, e_lst, itO_s, i_any, itA_t, itA_l, i_r1, i_r2, bindT, bindTs, unpk_t, un_L, un_P, mkSq, allD, wipeE, LINE, List.map_cons, List.map_nil, List.length_cons, List.length_nil, List.replicate, List.cons_append, List.nil_append, Nat.sub_self, Nat.reduceSub, Nat.reduceAdd, List.getElem?_cons_zero, List.getElem?_cons_succ, List.set_cons_zero, List.set_cons_succ, reduceIte, Bool.false_eq_true, Bool.not_true, Bool.not_false, Nat.reduceLeDiff, if_true, if_false, decide_true, decide_false, mod_ii hb, isOn]
def onAt (p : Pl) (b : Int) : List Str := (p.2.filter fun l => isOn p l b).map (·.1)
theorem on_at_eq {p : Pl} (g : Good p) (b : Int) : f_on_at [dP p, .int b] = .ok (.tuple ((onAt p b).map .str)) := by
  refine runP_rt (S := []) ?_
  have hc := eComp_eq (it := iAny (eIx (eVar 0) (eC (.int 1)))) (tg := .nm 2) (t := t1_on_at) (f := e1_on_at) (vs := [2]) (ρ := [some (.d (dP p)), some (.d (.int b)), none]) (S := []) (xs := p.2) (fun l => .d (dL l)) (fun l => isOn p l b) (fun l => .str l.1)
    (fun l => [some (.d (dP p)), some (.d (.int b)), some (.d (dL l))]) (by simp only [ix_P1, mapLd, startE, rb_ok, rb_exc, rs_ok, rs_exc, s_seq, seq_nx, seq_rt, seq_bk, seq_ct, seq_exc, nxO_s, s_asg, s_par, s_par3, s_ret, s_expr, s_next, s_bk, s_ct, s_raise, s_if, ifS_t, ifS_f, ifS_exc, s_for, eVar, e_c, wOf_s, rOf_s, bOf_s, e_ix, asD_d, ob_s, om_s, e_d1, e_d2, e_dN, asDs_1, asDs_2, bvO_s, e_t, o1_s, o2_s, a_nil, a_cons, prO_ok, prO_exc, e_cp, e_cg, call_1, call_2, call_3, call_4, call_5, call_6, b_not, b_and, b_or, andB_t, andB_f, orB_t, orB_f, b_tr, truW_b, e_if, ifE_t, ifE_f, e_isN, e_notN, e_notV, notV_s, e_andV, andV_t, andV_f, e_ch, chO_t, chO_f, e_sl, o_no, o_yes, oiO_s, sl_t, sl_l, i_zip, zipI_t, zipI_l, add_ii, sub_ii, neg_i, lt_ii, le_ii, gt_ii, ge_ii, eq_ii, ne_ii, eq_ss, ne_ss, eq_bb, ne_bb, len_t, len_l, min_ii, max_ii, int_i, int_b, tup_l, tup_t, lst_l, lst_t, sum_ints, e_tup, e_lst, itO_s, i_any, itA_t, itA_l, i_r1, i_r2, bindT, bindTs, unpk_t, un_L, un_P, mkSq, allD, wipeE, LINE, List.map_cons, List.map_nil, List.length_cons, List.length_nil, List.replicate, List.cons_append, List.nil_append, Nat.sub_self, Nat.reduceSub, Nat.reduceAdd, List.getElem?_cons_zero, List.getElem?_cons_succ, List.set_cons_zero, List.set_cons_succ, reduceIte, Bool.false_eq_true, Bool.not_true, Bool.not_false, Nat.reduceLeDiff, if_true, if_false, decide_true, decide_false]) (by have := g.len; unfold LINE; omega) (fun l hl => rfl)
    (fun l hl => by simp only [t1_on_at, ix_L0, is_on_eq g.b.1 (g.line hl), startE, rb_ok, rb_exc, rs_ok, rs_exc, s_seq, seq_nx, seq_rt, seq_bk, seq_ct, seq_exc, nxO_s, s_asg, s_par, s_par3, s_ret, s_expr, s_next, s_bk, s_ct, s_raise, s_if, ifS_t, ifS_f, ifS_exc, s_for, eVar, e_c, wOf_s, rOf_s, bOf_s, e_ix, asD_d, ob_s, om_s, e_d1, e_d2, e_dN, asDs_1, asDs_2, bvO_s, e_t, o1_s, o2_s, a_nil, a_cons, prO_ok, prO_exc, e_cp, e_cg, call_1, call_2, call_3, call_4, call_5, call_6, b_not, b_and, b_or, andB_t, andB_f, orB_t, orB_f, b_tr, truW_b, e_if, ifE_t, ifE_f, e_isN, e_notN, e_notV, notV_s, e_andV, andV_t, andV_f, e_ch, chO_t, chO_f, e_sl, o_no, o_yes, oiO_s, sl_t, sl_l, i_zip, zipI_t, zipI_l, add_ii, sub_ii, neg_i, lt_ii, le_ii, gt_ii, ge_ii, eq_ii, ne_ii, eq_ss, ne_ss, eq_bb, ne_bb, len_t, len_l, min_ii, max_ii, int_i, int_b, tup_l, tup_t, lst_l, lst_t, sum_ints, e_tup, e_lst, itO_s, i_any, itA_t, itA_l, i_r1, i_r2, bindT, bindTs, unpk_t, un_L, un_P, mkSq, allD, wipeE, LINE, List.map_cons, List.map_nil, List.length_cons, List.length_nil, List.replicate, List.cons_append, List.nil_append, Nat.sub_self, Nat.reduceSub, Nat.reduceAdd, List.getElem?_cons_zero, List.getElem?_cons_succ, List.set_cons_zero, List.set_cons_succ, reduceIte, Bool.false_eq_true, Bool.not_true, Bool.not_false, Nat.reduceLeDiff, if_true, if_false, decide_true, decide_false]) (fun l hl _ => by simp only [e1_on_at, ix_L0, startE, rb_ok, rb_exc, rs_ok, rs_exc, s_seq, seq_nx, seq_rt, seq_bk, seq_ct, seq_exc, nxO_s, s_asg, s_par, s_par3, s_ret, s_expr, s_next, s_bk, s_ct, s_raise, s_if, ifS_t, ifS_f, ifS_exc, s_for, eVar, e_c, wOf_s, rOf_s, bOf_s, e_ix, asD_d, ob_s, om_s, e_d1, e_d2, e_dN, asDs_1, asDs_2, bvO_s, e_t, o1_s, o2_s, a_nil, a_cons, prO_ok, prO_exc, e_cp, e_cg, call_1, call_2, call_3, call_4, call_5, call_6, b_not, b_and, b_or, andB_t, andB_f, orB_t, orB_f, b_tr, truW_b, e_if, ifE_t, ifE_f, e_isN, e_notN, e_notV, notV_s, e_andV, andV_t, andV_f, e_ch, chO_t, chO_f, e_sl, o_no, o_yes, oiO_s, sl_t, sl_l, i_zip, zipI_t, zipI_l, add_ii, sub_ii, neg_i, lt_ii, le_ii, gt_ii, ge_ii, eq_ii, ne_ii, eq_ss, ne_ss, eq_bb, ne_bb, len_t, len_l, min_ii, max_ii, int_i, int_b, tup_l, tup_t, lst_l, lst_t, sum_ints, e_tup, e_lst, itO_s, i_any, itA_t, itA_l, i_r1, i_r2, bindT, bindTs, unpk_t, un_L, un_P, mkSq, allD, wipeE, LINE, List.map_cons, List.map_nil, List.length_cons, List.length_nil, List.replicate, List.cons_append, List.nil_append, Nat.sub_self, Nat.reduceSub, Nat.reduceAdd, List.getElem?_cons_zero, List.getElem?_cons_succ, List.set_cons_zero, List.set_cons_succ, reduceIte, Bool.false_eq_true, Bool.not_true, Bool.not_false, Nat.reduceLeDiff, if_true, if_false, decide_true, decide_false])
  simp only [b_on_at, hc, startE, rb_ok, rb_exc, rs_ok, rs_exc, s_seq, seq_nx, seq_rt, seq_bk, seq_ct, seq_exc, nxO_s, s_asg, s_par, s_par3, s_ret, s_expr, s_next, s_bk, s_ct, s_raise, s_if, ifS_t, ifS_f, ifS_exc, s_for, eVar, e_c, wOf_s, rOf_s, bOf_s, e_ix, asD_d, ob_s, om_s, e_d1, e_d2, e_dN, asDs_1, asDs_2, bvO_s, e_t, o1_s, o2_s, a_nil, a_cons, prO_ok, prO_exc, e_cp, e_cg, call_1, call_2, call_3, call_4, call_5, call_6, b_not, b_and, b_or, andB_t, andB_f, orB_t, orB_f, b_tr, truW_b, e_if, ifE_t, ifE_f, e_isN, e_notN, e_notV, notV_s, e_andV, andV_t, andV_f, e_ch, chO_t, chO_f, e_sl, o_no, o_yes, oiO_s, sl_t, sl_l, i_zip, zipI_t, zipI_l, add_ii, sub_ii, neg_i, lt_ii, le_ii, gt_ii, ge_ii, eq_ii, ne_ii, eq_ss, ne_ss, eq_bb, ne_bb, len_t, len_l, min_ii, max_ii, int_i, int_b, tup_l, tup_t, lst_l, lst_t, sum_ints, e_tup, e_lst, itO_s, i_any, itA_t, itA_l, i_r1, i_r2, bindT, bindTs, unpk_t, un_L, un_P, mkSq, allD, wipeE, LINE, List.map_cons, List.map_nil, List.length_cons, List.length_nil, List.replicate, List.cons_append, List.nil_append, Nat.sub_self, Nat.reduceSub, Nat.reduceAdd, List.getElem?_cons_zero, List.getElem?_cons_succ, List.set_cons_zero, List.set_cons_succ, reduceIte, Bool.false_eq_true, Bool.not_true, Bool.not_false, Nat.reduceLeDiff, if_true, if_false, decide_true, decide_false, onAt, List.map_map]
  rfl
def cnt (p : Pl) (l : Ln) (e : Int) : Int := (e - l.2.2) / p.1 * l.2.1 + min ((e - l.2.2) % p.1) l.2.1
theorem beats_on_eq {p : Pl} (g : Good p) {l : Ln} {n : Str} (h : lineOf p n = some l) (a b : Int) : f_beats_on [dP p, .str n, .int a, .int b] = .ok (.int (cnt p l b - cnt p l a)) := by
  refine runP_rt (S := []) ?_
  obtain ⟨hm, hn⟩ := lineOf_mem h
  have hb := g.b
  have hw := g.w l hm
  have h1 : Fac l.2.1 := ⟨by omega, by omega⟩
  have h2 : p.1 < 1073741824 := by omega
  have f1 : Fac 1 := by decide
  have f2 : Fac (-1) := by decide
  simp only [b_beats_on, line_of_ok h, ix_L1, ix_L2, ix_P0, loopS, l1_beats_on, startE, rb_ok, rb_exc, rs_ok, rs_exc, s_seq, seq_nx, seq_rt, seq_bk, seq_ct, seq_exc, nxO_s, s_asg, s_par, s_par3, s_ret, s_expr, s_next, s_bk, s_ct, s_raise, s_if, ifS_t, ifS_f, ifS_exc, s_for, eVar, e_c, wOf_s, rOf_s, bOf_s, e_ix, asD_d, ob_s, om_s, e_d1, e_d2, e_dN, asDs_1, asDs_2, bvO_s, e_t, o1_s, o2_s, a_nil, a_cons, prO_ok, prO_exc, e_cp, e_cg, call_1, call_2, call_3, call_4, call_5, call_6, b_not, b_and, b_or, andB_t, andB_f, orB_t, orB_f, b_tr, truW_b, e_if, ifE_t, ifE_f, e_isN, e_notN, e_notV, notV_s, e_andV, andV_t, andV_f, e_ch, chO_t, chO_f, e_sl, o_no, o_yes, oiO_s, sl_t, sl_l, i_zip, zipI_t, zipI_l, add_ii, sub_ii, neg_i, lt_ii, le_ii, gt_ii, ge_ii, eq_ii, ne_ii, eq_ss, ne_ss, eq_bb, ne_bb, len_t, len_l, min_ii, max_ii, int_i, int_b, tup_l, tup_t, lst_l, lst_t, sum_ints, e_tup, e_lst, itO_s, i_any, itA_t, itA_l, i_r1, i_r2, bindT, bindTs, unpk_t, un_L, un_P, mkSq, allD, wipeE, LINE, List.map_cons, List.map_nil, List.length_cons, List.length_nil, List.replicate, List.cons_append, List.nil_append, Nat.sub_self, Nat.reduceSub, Nat.reduceAdd, List.getElem?_cons_zero, List.getElem?_cons_succ, List.set_cons_zero, List.set_cons_succ, reduceIte, Bool.false_eq_true, Bool.not_true, Bool.not_false, Nat.reduceLeDiff, if_true, if_false, decide_true, decide_false, mod_ii hb.1, div_ii hb.1 h2, mul_r h1, mul_l f1, mul_l f2]
  have e : ∀ x y : Int, 0 + 1 * x + -1 * y = x - y := fun x y => by omega
  simp only [cnt, e]
theorem eDN_sum_ints {fl : Lf} {ρ : En} {S S1 : Store} {ns : List Int} (h : fl ρ S = .ok [.d (.list (ns.map .int))] S1) : eDN (o1 oSum) fl ρ S = .ok (.d (.int ns.sum)) S1 := by
  simp only [h, startE, rb_ok, rb_exc, rs_ok, rs_exc, s_seq, seq_nx, seq_rt, seq_bk, seq_ct, seq_exc, nxO_s, s_asg, s_par, s_par3, s_ret, s_expr, s_next, s_bk, s_ct, s_raise, s_if, ifS_t, ifS_f, ifS_exc, s_for, eVar, e_c, wOf_s, rOf_s, bOf_s, e_ix, asD_d, ob_s, om_s, e_d1, e_d2, e_dN, asDs_1, asDs_2, bvO_s, e_t, o1_s, o2_s, a_nil, a_cons, prO_ok, prO_exc, e_cp, e_cg, call_1, call_2, call_3, call_4, call_5, call_6, b_not, b_and, b_or, andB_t, andB_f, orB_t, orB_f, b_tr, truW_b, e_if, ifE_t, ifE_f, e_isN, e_notN, e_notV, notV_s, e_andV, andV_t, andV_f, e_ch, chO_t, chO_f, e_sl, o_no, o_yes, oiO_s, sl_t, sl_l, i_zip, zipI_t, zipI_l, add_ii, sub_ii, neg_i, lt_ii, le_ii, gt_ii, ge_ii, eq_ii, ne_ii, eq_ss, ne_ss, eq_bb, ne_bb, len_t, len_l, min_ii, max_ii, int_i, int_b, tup_l, tup_t, lst_l, lst_t, sum_ints, e_tup, e_lst, itO_s, i_any, itA_t, itA_l, i_r1, i_r2, bindT, bindTs, unpk_t, un_L, un_P, mkSq, allD, wipeE, LINE, List.map_cons, List.map_nil, List.length_cons, List.length_nil, List.replicate, List.cons_append, List.nil_append, Nat.sub_self, Nat.reduceSub, Nat.reduceAdd, List.getElem?_cons_zero, List.getElem?_cons_succ, List.set_cons_zero, List.set_cons_succ, reduceIte, Bool.false_eq_true, Bool.not_true, Bool.not_false, Nat.reduceLeDiff, if_true, if_false, decide_true, decide_false]
def loadOf (p : Pl) (a b : Int) : Int := (p.2.map fun l => cnt p l b - cnt p l a).sum
theorem load_eq {p : Pl} (g : Good p) (a b : Int) : f_load [dP p, .int a, .int b] = .ok (.int (loadOf p a b)) := by
  refine runP_rt (S := []) ?_
  have hc := eComp_all (it := iAny (eIx (eVar 0) (eC (.int 1)))) (tg := .nm 3) (f := e1_load) (vs := [3]) (ρ := [some (.d (dP p)), some (.d (.int a)), some (.d (.int b)), none]) (S := []) (xs := p.2) (fun l => .d (dL l)) (fun l => .int (cnt p l b - cnt p l a))
    (fun l => [some (.d (dP p)), some (.d (.int a)), some (.d (.int b)), some (.d (dL l))]) (by simp only [ix_P1, mapLd, startE, rb_ok, rb_exc, rs_ok, rs_exc, s_seq, seq_nx, seq_rt, seq_bk, seq_ct, seq_exc, nxO_s, s_asg, s_par, s_par3, s_ret, s_expr, s_next, s_bk, s_ct, s_raise, s_if, ifS_t, ifS_f, ifS_exc, s_for, eVar, e_c, wOf_s, rOf_s, bOf_s, e_ix, asD_d, ob_s, om_s, e_d1, e_d2, e_dN, asDs_1, asDs_2, bvO_s, e_t, o1_s, o2_s, a_nil, a_cons, prO_ok, prO_exc, e_cp, e_cg, call_1, call_2, call_3, call_4, call_5, call_6, b_not, b_and, b_or, andB_t, andB_f, orB_t, orB_f, b_tr, truW_b, e_if, ifE_t, ifE_f, e_isN, e_notN, e_notV, notV_s, e_andV, andV_t, andV_f, e_ch, chO_t, chO_f, e_sl, o_no, o_yes, oiO_s, sl_t, sl_l, i_zip, zipI_t, zipI_l, add_ii, sub_ii, neg_i, lt_ii, le_ii, gt_ii, ge_ii, eq_ii, ne_ii, eq_ss, ne_ss, eq_bb, ne_bb, len_t, len_l, min_ii, max_ii, int_i, int_b, tup_l, tup_t, lst_l, lst_t, sum_ints, e_tup, e_lst, itO_s, i_any, itA_t, itA_l, i_r1, i_r2, bindT, bindTs, unpk_t, un_L, un_P, mkSq, allD, wipeE, LINE, List.map_cons, List.map_nil, List.length_cons, List.length_nil, List.replicate, List.cons_append, List.nil_append, Nat.sub_self, Nat.reduceSub, Nat.reduceAdd, List.getElem?_cons_zero, List.getElem?_cons_succ, List.set_cons_zero, List.set_cons_succ, reduceIte, Bool.false_eq_true, Bool.not_true, Bool.not_false, Nat.reduceLeDiff, if_true, if_false, decide_true, decide_false]) (by have := g.len; unfold LINE; omega) (fun l hl => rfl)
    (fun l hl => by simp only [e1_load, ix_L0, beats_on_eq g (g.line hl), startE, rb_ok, rb_exc, rs_ok, rs_exc, s_seq, seq_nx, seq_rt, seq_bk, seq_ct, seq_exc, nxO_s, s_asg, s_par, s_par3, s_ret, s_expr, s_next, s_bk, s_ct, s_raise, s_if, ifS_t, ifS_f, ifS_exc, s_for, eVar, e_c, wOf_s, rOf_s, bOf_s, e_ix, asD_d, ob_s, om_s, e_d1, e_d2, e_dN, asDs_1, asDs_2, bvO_s, e_t, o1_s, o2_s, a_nil, a_cons, prO_ok, prO_exc, e_cp, e_cg, call_1, call_2, call_3, call_4, call_5, call_6, b_not, b_and, b_or, andB_t, andB_f, orB_t, orB_f, b_tr, truW_b, e_if, ifE_t, ifE_f, e_isN, e_notN, e_notV, notV_s, e_andV, andV_t, andV_f, e_ch, chO_t, chO_f, e_sl, o_no, o_yes, oiO_s, sl_t, sl_l, i_zip, zipI_t, zipI_l, add_ii, sub_ii, neg_i, lt_ii, le_ii, gt_ii, ge_ii, eq_ii, ne_ii, eq_ss, ne_ss, eq_bb, ne_bb, len_t, len_l, min_ii, max_ii, int_i, int_b, tup_l, tup_t, lst_l, lst_t, sum_ints, e_tup, e_lst, itO_s, i_any, itA_t, itA_l, i_r1, i_r2, bindT, bindTs, unpk_t, un_L, un_P, mkSq, allD, wipeE, LINE, List.map_cons, List.map_nil, List.length_cons, List.length_nil, List.replicate, List.cons_append, List.nil_append, Nat.sub_self, Nat.reduceSub, Nat.reduceAdd, List.getElem?_cons_zero, List.getElem?_cons_succ, List.set_cons_zero, List.set_cons_succ, reduceIte, Bool.false_eq_true, Bool.not_true, Bool.not_false, Nat.reduceLeDiff, if_true, if_false, decide_true, decide_false])
  have : (p.2.map fun l => PyData.int (cnt p l b - cnt p l a)) = (p.2.map fun l => cnt p l b - cnt p l a).map .int := by rw [List.map_map]; rfl
  rw [this] at hc
  simp only [b_load, hc, startE, rb_ok, rb_exc, rs_ok, rs_exc, s_seq, seq_nx, seq_rt, seq_bk, seq_ct, seq_exc, nxO_s, s_asg, s_par, s_par3, s_ret, s_expr, s_next, s_bk, s_ct, s_raise, s_if, ifS_t, ifS_f, ifS_exc, s_for, eVar, e_c, wOf_s, rOf_s, bOf_s, e_ix, asD_d, ob_s, om_s, e_d1, e_d2, e_dN, asDs_1, asDs_2, bvO_s, e_t, o1_s, o2_s, a_nil, a_cons, prO_ok, prO_exc, e_cp, e_cg, call_1, call_2, call_3, call_4, call_5, call_6, b_not, b_and, b_or, andB_t, andB_f, orB_t, orB_f, b_tr, truW_b, e_if, ifE_t, ifE_f, e_isN, e_notN, e_notV, notV_s, e_andV, andV_t, andV_f, e_ch, chO_t, chO_f, e_sl, o_no, o_yes, oiO_s, sl_t, sl_l, i_zip, zipI_t, zipI_l, add_ii, sub_ii, neg_i, lt_ii, le_ii, gt_ii, ge_ii, eq_ii, ne_ii, eq_ss, ne_ss, eq_bb, ne_bb, len_t, len_l, min_ii, max_ii, int_i, int_b, tup_l, tup_t, lst_l, lst_t, sum_ints, e_tup, e_lst, itO_s, i_any, itA_t, itA_l, i_r1, i_r2, bindT, bindTs, unpk_t, un_L, un_P, mkSq, allD, wipeE, LINE, List.map_cons, List.map_nil, List.length_cons, List.length_nil, List.replicate, List.cons_append, List.nil_append, Nat.sub_self, Nat.reduceSub, Nat.reduceAdd, List.getElem?_cons_zero, List.getElem?_cons_succ, List.set_cons_zero, List.set_cons_succ, reduceIte, Bool.false_eq_true, Bool.not_true, Bool.not_false, Nat.reduceLeDiff, if_true, if_false, decide_true, decide_false, loadOf]

/-! ### turned, against -/
theorem dP_mk (b : Int) (ls : List Ln) (f : Ln → Ln) : dP (b, ls.map f) = .tuple [.int b, .tuple (ls.map fun l => dL (f l))] := by unfold dP; rw [List.map_map]; rfl
def turnedP (p : Pl) (by' : Int) : Pl := (p.1, p.2.map fun l => (l.1, l.2.1, (l.2.2 + by') % p.1))
theorem turned_eq {p : Pl} (g : Good p) (k : Int) : f_turned [dP p, .int k] = .ok (dP (turnedP p k)) := by
  refine runP_rt (S := []) ?_
  have hc := eComp_all (it := iAny (eIx (eVar 0) (eC (.int 1)))) (tg := .tp [(.nm 2), (.nm 3), (.nm 4)]) (f := e1_turned) (vs := [2, 3, 4]) (ρ := [some (.d (dP p)), some (.d (.int k)), none, none, none]) (S := []) (xs := p.2) (fun l => .d (dL l)) (fun l => dL (l.1, l.2.1, (l.2.2 + k) % p.1))
    (fun l => [some (.d (dP p)), some (.d (.int k)), some (.d (.str l.1)), some (.d (.int l.2.1)), some (.d (.int l.2.2))]) (by simp only [ix_P1, mapLd, startE, rb_ok, rb_exc, rs_ok, rs_exc, s_seq, seq_nx, seq_rt, seq_bk, seq_ct, seq_exc, nxO_s, s_asg, s_par, s_par3, s_ret, s_expr, s_next, s_bk, s_ct, s_raise, s_if, ifS_t, ifS_f, ifS_exc, s_for, eVar, e_c, wOf_s, rOf_s, bOf_s, e_ix, asD_d, ob_s, om_s, e_d1, e_d2, e_dN, asDs_1, asDs_2, bvO_s, e_t, o1_s, o2_s, a_nil, a_cons, prO_ok, prO_exc, e_cp, e_cg, call_1, call_2, call_3, call_4, call_5, call_6, b_not, b_and, b_or, andB_t, andB_f, orB_t, orB_f, b_tr, truW_b, e_if, ifE_t, ifE_f, e_isN, e_notN, e_notV, notV_s, e_andV, andV_t, andV_f, e_ch, chO_t, chO_f, e_sl, o_no, o_yes, oiO_s, sl_t, sl_l, i_zip, zipI_t, zipI_l, add_ii, sub_ii, neg_i, lt_ii, le_ii, gt_ii, ge_ii, eq_ii, ne_ii, eq_ss, ne_ss, eq_bb, ne_bb, len_t, len_l, min_ii, max_ii, int_i, int_b, tup_l, tup_t, lst_l, lst_t, sum_ints, e_tup, e_lst, itO_s, i_any, itA_t, itA_l, i_r1, i_r2, bindT, bindTs, unpk_t, un_L, un_P, mkSq, allD, wipeE, LINE, List.map_cons, List.map_nil, List.length_cons, List.length_nil, List.replicate, List.cons_append, List.nil_append, Nat.sub_self, Nat.reduceSub, Nat.reduceAdd, List.getElem?_cons_zero, List.getElem?_cons_succ, List.set_cons_zero, List.set_cons_succ, reduceIte, Bool.false_eq_true, Bool.not_true, Bool.not_false, Nat.reduceLeDiff, if_true, if_false, decide_true, decide_false]) (by have := g.len; unfold LINE; omega) (fun l hl => rfl)
    (fun l hl => by simp only [e1_turned, ix_P0, mod_ii g.b.1, startE, rb_ok, rb_exc, rs_ok, rs_exc, s_seq, seq_nx, seq_rt, seq_bk, seq_ct, seq_exc, nxO_s, s_asg, s_par, s_par3, s_ret, s_expr, s_next, s_bk, s_ct, s_raise, s_if, ifS_t, ifS_f, ifS_exc, s_for, eVar, e_c, wOf_s, rOf_s, bOf_s, e_ix, asD_d, ob_s, om_s, e_d1, e_d2, e_dN, asDs_1, asDs_2, bvO_s, e_t, o1_s, o2_s, a_nil, a_cons, prO_ok, prO_exc, e_cp, e_cg, call_1, call_2, call_3, call_4, call_5, call_6, b_not, b_and, b_or, andB_t, andB_f, orB_t, orB_f, b_tr, truW_b, e_if, ifE_t, ifE_f, e_isN, e_notN, e_notV, notV_s, e_andV, andV_t, andV_f, e_ch, chO_t, chO_f, e_sl, o_no, o_yes, oiO_s, sl_t, sl_l, i_zip, zipI_t, zipI_l, add_ii, sub_ii, neg_i, lt_ii, le_ii, gt_ii, ge_ii, eq_ii, ne_ii, eq_ss, ne_ss, eq_bb, ne_bb, len_t, len_l, min_ii, max_ii, int_i, int_b, tup_l, tup_t, lst_l, lst_t, sum_ints, e_tup, e_lst, itO_s, i_any, itA_t, itA_l, i_r1, i_r2, bindT, bindTs, unpk_t, un_L, un_P, mkSq, allD, wipeE, LINE, List.map_cons, List.map_nil, List.length_cons, List.length_nil, List.replicate, List.cons_append, List.nil_append, Nat.sub_self, Nat.reduceSub, Nat.reduceAdd, List.getElem?_cons_zero, List.getElem?_cons_succ, List.set_cons_zero, List.set_cons_succ, reduceIte, Bool.false_eq_true, Bool.not_true, Bool.not_false, Nat.reduceLeDiff, if_true, if_false, decide_true, decide_false]; rfl)
  simp only [b_turned, hc, ix_P0, startE, rb_ok, rb_exc, rs_ok, rs_exc, s_seq, seq_nx, seq_rt, seq_bk, seq_ct, seq_exc, nxO_s, s_asg, s_par, s_par3, s_ret, s_expr, s_next, s_bk, s_ct, s_raise, s_if, ifS_t, ifS_f, ifS_exc, s_for, eVar, e_c, wOf_s, rOf_s, bOf_s, e_ix, asD_d, ob_s, om_s, e_d1, e_d2, e_dN, asDs_1, asDs_2, bvO_s, e_t, o1_s, o2_s, a_nil, a_cons, prO_ok, prO_exc, e_cp, e_cg, call_1, call_2, call_3, call_4, call_5, call_6, b_not, b_and, b_or, andB_t, andB_f, orB_t, orB_f, b_tr, truW_b, e_if, ifE_t, ifE_f, e_isN, e_notN, e_notV, notV_s, e_andV, andV_t, andV_f, e_ch, chO_t, chO_f, e_sl, o_no, o_yes, oiO_s, sl_t, sl_l, i_zip, zipI_t, zipI_l, add_ii, sub_ii, neg_i, lt_ii, le_ii, gt_ii, ge_ii, eq_ii, ne_ii, eq_ss, ne_ss, eq_bb, ne_bb, len_t, len_l, min_ii, max_ii, int_i, int_b, tup_l, tup_t, lst_l, lst_t, sum_ints, e_tup, e_lst, itO_s, i_any, itA_t, itA_l, i_r1, i_r2, bindT, bindTs, unpk_t, un_L, un_P, mkSq, allD, wipeE, LINE, List.map_cons, List.map_nil, List.length_cons, List.length_nil, List.replicate, List.cons_append, List.nil_append, Nat.sub_self, Nat.reduceSub, Nat.reduceAdd, List.getElem?_cons_zero, List.getElem?_cons_succ, List.set_cons_zero, List.set_cons_succ, reduceIte, Bool.false_eq_true, Bool.not_true, Bool.not_false, Nat.reduceLeDiff, if_true, if_false, decide_true, decide_false, turnedP, dP_mk]
def againstL (p : Pl) (l : Ln) : Ln := (l.1, p.1 - l.2.1, (l.2.2 + l.2.1) % p.1)
def againstP (p : Pl) : Pl := (p.1, p.2.map (againstL p))
theorem foldl_snoc {α β : Type} (h : α → β) : ∀ (xs : List α) (acc : List β), xs.foldl (fun a x => a ++ [h x]) acc = acc ++ xs.map h
  | [], acc => by simp
  | x :: r, acc => by rw [List.foldl_cons, foldl_snoc h r, List.map_cons, List.append_assoc]; rfl
/-- a tuple that grows by one each turn -/
theorem grow_loop {α : Type} {tg : Tg} {body : Sf} (g : α → Wv) (h : α → PyData) (E : List PyData → En → Store → Prop) (xs : List α) {ρ : En} {S : Store} (hl : xs.length < 1000000)
    (hs : ∀ x ∈ xs, ∀ acc ρ S, acc.length < 1000000 → E acc ρ S → ∃ ρ1, bindT tg (g x) ρ = some ρ1 ∧ ∃ ρ2 S2, body ρ1 S = .nx ρ2 S2 ∧ E (acc ++ [h x]) ρ2 S2) (h0 : E [] ρ S) : ∃ ρ2 S2, loopS tg body (xs.map g) ρ S = .nx ρ2 S2 ∧ E (xs.map h) ρ2 S2 := by
  have gen : ∀ (ys : List α) (acc : List PyData) (ρ : En) (S : Store), (∀ y ∈ ys, y ∈ xs) → acc.length + ys.length < 1000000 → E acc ρ S → ∃ ρ2 S2, loopS tg body (ys.map g) ρ S = .nx ρ2 S2 ∧ E (acc ++ ys.map h) ρ2 S2 := by
    intro ys
    induction ys with
    | nil => intro acc ρ S _ _ e; exact ⟨ρ, S, rfl, by simpa using e⟩
    | cons y r ih =>
      intro acc ρ S hm hz e
      rw [List.length_cons] at hz
      obtain ⟨ρ1, e1, ρ2, S2, e2, h2⟩ := hs y (hm y List.mem_cons_self) acc ρ S (by omega) e
      obtain ⟨ρ3, S3, e3, h3⟩ := ih (acc ++ [h y]) ρ2 S2 (fun z hz => hm z (List.mem_cons_of_mem _ hz)) (by rw [List.length_append, List.length_singleton]; omega) h2
      refine ⟨ρ3, S3, ?_, by rw [List.map_cons]; simpa using h3⟩
      rw [List.map_cons, loopS, e1]
      dsimp only
      rw [e2]
      exact e3
  simpa using gen xs [] ρ S (fun y hy => hy) (by simpa using hl) h0
theorem against_eq {p : Pl} (g : Good p) : f_against [dP p] = .ok (dP (againstP p)) := by
  refine runP_rt (S := []) ?_
  obtain ⟨ρ2, S2, hL, o2, o3, o4, rfl, rfl⟩ := grow_loop (tg := .tp [(.nm 2), (.nm 3), (.nm 4)]) (body := l1_against) (fun l : Ln => .d (dL l)) (fun l => dL (againstL p l)) (fun acc ρ S => ∃ o2 o3 o4, ρ = [some (.d (dP p)), some (.d (.tuple acc)), o2, o3, o4] ∧ S = []) p.2 (ρ := [some (.d (dP p)), some (.d (.tuple [])), none, none, none]) (S := [])
    (by have := g.len; omega) (by
      rintro l hl acc ρ S hz ⟨o2, o3, o4, rfl, rfl⟩
      refine ⟨_, rfl, _, [], ?_, some (.d (.str l.1)), some (.d (.int l.2.1)), some (.d (.int l.2.2)), rfl, rfl⟩
      have hz' : acc.length + (0 + 1) ≤ 16777216 := by omega
      simp only [l1_against, ix_P0, mod_ii g.b.1, add_tt (show acc.length + [dL (againstL p l)].length ≤ 16777216 from hz'), startE, rb_ok, rb_exc, rs_ok, rs_exc, s_seq, seq_nx, seq_rt, seq_bk, seq_ct, seq_exc, nxO_s, s_asg, s_par, s_par3, s_ret, s_expr, s_next, s_bk, s_ct, s_raise, s_if, ifS_t, ifS_f, ifS_exc, s_for, eVar, e_c, wOf_s, rOf_s, bOf_s, e_ix, asD_d, ob_s, om_s, e_d1, e_d2, e_dN, asDs_1, asDs_2, bvO_s, e_t, o1_s, o2_s, a_nil, a_cons, prO_ok, prO_exc, e_cp, e_cg, call_1, call_2, call_3, call_4, call_5, call_6, b_not, b_and, b_or, andB_t, andB_f, orB_t, orB_f, b_tr, truW_b, e_if, ifE_t, ifE_f, e_isN, e_notN, e_notV, notV_s, e_andV, andV_t, andV_f, e_ch, chO_t, chO_f, e_sl, o_no, o_yes, oiO_s, sl_t, sl_l, i_zip, zipI_t, zipI_l, add_ii, sub_ii, neg_i, lt_ii, le_ii, gt_ii, ge_ii, eq_ii, ne_ii, eq_ss, ne_ss, eq_bb, ne_bb, len_t, len_l, min_ii, max_ii, int_i, int_b, tup_l, tup_t, lst_l, lst_t, sum_ints, e_tup, e_lst, itO_s, i_any, itA_t, itA_l, i_r1, i_r2, bindT, bindTs, unpk_t, un_L, un_P, mkSq, allD, wipeE, LINE, List.map_cons, List.map_nil, List.length_cons, List.length_nil, List.replicate, List.cons_append, List.nil_append, Nat.sub_self, Nat.reduceSub, Nat.reduceAdd, List.getElem?_cons_zero, List.getElem?_cons_succ, List.set_cons_zero, List.set_cons_succ, reduceIte, Bool.false_eq_true, Bool.not_true, Bool.not_false, Nat.reduceLeDiff, if_true, if_false, decide_true, decide_false]
      rw [add_tt (by show acc.length + 1 ≤ _; omega)]
      rfl) ⟨none, none, none, rfl, rfl⟩
  simp only [b_against, ix_P0, ix_P1, mapLd, hL, startE, rb_ok, rb_exc, rs_ok, rs_exc, s_seq, seq_nx, seq_rt, seq_bk, seq_ct, seq_exc, nxO_s, s_asg, s_par, s_par3, s_ret, s_expr, s_next, s_bk, s_ct, s_raise, s_if, ifS_t, ifS_f, ifS_exc, s_for, eVar, e_c, wOf_s, rOf_s, bOf_s, e_ix, asD_d, ob_s, om_s, e_d1, e_d2, e_dN, asDs_1, asDs_2, bvO_s, e_t, o1_s, o2_s, a_nil, a_cons, prO_ok, prO_exc, e_cp, e_cg, call_1, call_2, call_3, call_4, call_5, call_6, b_not, b_and, b_or, andB_t, andB_f, orB_t, orB_f, b_tr, truW_b, e_if, ifE_t, ifE_f, e_isN, e_notN, e_notV, notV_s, e_andV, andV_t, andV_f, e_ch, chO_t, chO_f, e_sl, o_no, o_yes, oiO_s, sl_t, sl_l, i_zip, zipI_t, zipI_l, add_ii, sub_ii, neg_i, lt_ii, le_ii, gt_ii, ge_ii, eq_ii, ne_ii, eq_ss, ne_ss, eq_bb, ne_bb, len_t, len_l, min_ii, max_ii, int_i, int_b, tup_l, tup_t, lst_l, lst_t, sum_ints, e_tup, e_lst, itO_s, i_any, itA_t, itA_l, i_r1, i_r2, bindT, bindTs, unpk_t, un_L, un_P, mkSq, allD, wipeE, LINE, List.map_cons, List.map_nil, List.length_cons, List.length_nil, List.replicate, List.cons_append, List.nil_append, Nat.sub_self, Nat.reduceSub, Nat.reduceAdd, List.getElem?_cons_zero, List.getElem?_cons_succ, List.set_cons_zero, List.set_cons_succ, reduceIte, Bool.false_eq_true, Bool.not_true, Bool.not_false, Nat.reduceLeDiff, if_true, if_false, decide_true, decide_false, againstP, dP_mk]

/-! ### draws -/
/-- the town holds at most n noughts -/
def Tn (n : Nat) (T : Store) (S : Store) : Prop := ∃ k, k ≤ n ∧ S = .lst (List.replicate k (.d (.int 0))) :: T
theorem Tn.mono {n m : Nat} {T S : Store} (t : Tn n T S) (h : n ≤ m) : Tn m T S := by obtain ⟨k, h1, h2⟩ := t; exact ⟨k, by omega, h2⟩
theorem allD_rep (k : Nat) : allD (List.replicate k (Wv.d (.int 0))) = some (List.replicate k (.int 0)) := by
  induction k with
  | zero => rfl
  | succ k ih => rw [List.replicate_succ, List.replicate_succ]; simp only [allD, ih]
/-- a script -/
def dS (ns : List Int) : PyData := .list (ns.map .int)
theorem draw_ok {ns : List Int} {n : Nat} {T S : Store} {m : Int} (t : Tn n T S) (hs : ns.length ≤ 1000) (hn : n < 1000000) (hm : 0 < m) : ∃ v S', g__law_draw [.d (dS ns), .o 0, .d (.int m)] S = .ok (.d (.int v)) S' ∧ 0 ≤ v ∧ v < m ∧ Tn (n + 1) T S' := by
  obtain ⟨k, hk, rfl⟩ := t
  have hk1 : k < 16777216 := by omega
  have happ : List.replicate k (Wv.d (.int 0)) ++ [Wv.d (.int 0)] = List.replicate (k + 1) (Wv.d (.int 0)) := (List.replicate_succ').symm
  let ρ0 : En := [some (.d (dS ns)), some (.o 0), some (.d (.int m)), some (.d (.int ((k + 1 : Nat) : Int))), some (.d (.int 0)), none, none]
  let S2 : Store := .lst (List.replicate (k + 1) (.d (.int 0))) :: T
  have hcell : ∃ c : Int, (sIf (bTr (eVar 0)) (sAsg (.nm 4) (eIx (eVar 0) (eD2 oMod (eVar 3) (eDN (o1 oLen) (aCons (eVar 0) aNil))))) sNext) ρ0 S2 = .nx (ρ0.set 4 (some (.d (.int c)))) S2 := by
    cases ns with
    | nil => exact ⟨0, rfl⟩
    | cons z r =>
      have hp : (0 : Int) < ((z :: r).map PyData.int).length := by rw [List.length_map, List.length_cons]; omega
      have hj := Int.emod_nonneg ((k + 1 : Nat) : Int) (by omega : (((z :: r).map PyData.int).length : Int) ≠ 0)
      have hj2 := Int.emod_lt_of_pos ((k + 1 : Nat) : Int) hp
      rw [List.length_map] at hp hj hj2
      obtain ⟨c, -, -, hc⟩ := atI_mapIn PyData.int hj hj2
      have ht : truW S2 (.d (dS (z :: r))) = some true := rfl
      have hl : oLen (dS (z :: r)) = some (.int (z :: r).length) := by
        show some (PyData.int ((List.map PyData.int (z :: r)).length : Int)) = _
        rw [List.length_map]
      have hx : ixW S2 (.d (dS (z :: r))) (.d (.int (((k + 1 : Nat) : Int) % ((z :: r).length : Int)))) = some (.d (.int c)) := ix_list hc
      refine ⟨c, ?_⟩
      obtain ⟨L, hL⟩ : ∃ L : Int, L = ((z :: r).length : Int) := ⟨_, rfl⟩
      rw [← hL] at hl hx hp
      simp only [ρ0, ht, hl, hx, mod_ii hp, startE, rb_ok, rb_exc, rs_ok, rs_exc, s_seq, seq_nx, seq_rt, seq_bk, seq_ct, seq_exc, nxO_s, s_asg, s_par, s_par3, s_ret, s_expr, s_next, s_bk, s_ct, s_raise, s_if, ifS_t, ifS_f, ifS_exc, s_for, eVar, e_c, wOf_s, rOf_s, bOf_s, e_ix, asD_d, ob_s, om_s, e_d1, e_d2, e_dN, asDs_1, asDs_2, bvO_s, e_t, o1_s, o2_s, a_nil, a_cons, prO_ok, prO_exc, e_cp, e_cg, call_1, call_2, call_3, call_4, call_5, call_6, b_not, b_and, b_or, andB_t, andB_f, orB_t, orB_f, b_tr, truW_b, e_if, ifE_t, ifE_f, e_isN, e_notN, e_notV, notV_s, e_andV, andV_t, andV_f, e_ch, chO_t, chO_f, e_sl, o_no, o_yes, oiO_s, sl_t, sl_l, i_zip, zipI_t, zipI_l, add_ii, sub_ii, neg_i, lt_ii, le_ii, gt_ii, ge_ii, eq_ii, ne_ii, eq_ss, ne_ss, eq_bb, ne_bb, len_t, len_l, min_ii, max_ii, int_i, int_b, tup_l, tup_t, lst_l, lst_t, sum_ints, e_tup, e_lst, itO_s, i_any, itA_t, itA_l, i_r1, i_r2, bindT, bindTs, unpk_t, un_L, un_P, mkSq, allD, wipeE, LINE, List.map_cons, List.map_nil, List.length_cons, List.length_nil, List.replicate, List.cons_append, List.nil_append, Nat.sub_self, Nat.reduceSub, Nat.reduceAdd, List.getElem?_cons_zero, List.getElem?_cons_succ, List.set_cons_zero, List.set_cons_succ, reduceIte, Bool.false_eq_true, Bool.not_true, Bool.not_false, Nat.reduceLeDiff, if_true, if_false, decide_true, decide_false]
  obtain ⟨c, hc⟩ := hcell
  have m1 : (0 : Int) < 4294967291 := by decide
  have m2 : (0 : Int) < 4294967279 := by decide
  obtain ⟨n1, hn1⟩ : ∃ x : Int, x = (c + 104729 * ((k + 1 : Nat) : Int)) % 4294967291 := ⟨_, rfl⟩
  have b1 : Fac n1 := by unfold Fac; have := Int.emod_nonneg (c + 104729 * ((k + 1 : Nat) : Int)) (by decide : (4294967291 : Int) ≠ 0); have := Int.emod_lt_of_pos (c + 104729 * ((k + 1 : Nat) : Int)) m1; omega
  obtain ⟨n2, hn2⟩ : ∃ x : Int, x = n1 * n1 % 4294967279 * 48271 % 4294967291 := ⟨_, rfl⟩
  have b2 : Fac n2 := by unfold Fac; have := Int.emod_nonneg (n1 * n1 % 4294967279 * 48271) (by decide : (4294967291 : Int) ≠ 0); have := Int.emod_lt_of_pos (n1 * n1 % 4294967279 * 48271) m1; omega
  have f1 : Fac 104729 := by decide
  have f2 : Fac 48271 := by decide
  have f3 : Fac 69621 := by decide
  have f4 : Fac 67108864 := by decide
  have d1 : (0 : Int) < 64 := by decide
  have d2 : (64 : Int) < 1073741824 := by decide
  have app : eApp (eVar 1) (aCons (eC (.int 0)) aNil) [some (.d (dS ns)), some (.o 0), some (.d (.int m)), none, none, none, none] (.lst (List.replicate k (.d (.int 0))) :: T) = .ok (.d .none) S2 := by
    show (if (List.replicate k (Wv.d (.int 0))).length < LINE then _ else _) = _
    rw [if_pos (by rw [List.length_replicate]; exact hk1)]
    show Res.ok _ (MO.lst (List.replicate k (Wv.d (.int 0)) ++ [Wv.d (.int 0)]) :: T) = _
    rw [happ]
  have ln : asDs S2 [.o 0] = some [.list (List.replicate (k + 1) (.int 0))] := by
    show (match (match allD (List.replicate (k + 1) (Wv.d (.int 0))) with | some ds => some (PyData.list ds) | none => none) with | some x => some [x] | none => none) = _
    rw [allD_rep]
  have hval := Int.emod_nonneg (n2 / 64 * 67108864 + n2 * n2 % 4294967279 * 69621 % 4294967291 / 64) (by omega : m ≠ 0)
  have hval2 := Int.emod_lt_of_pos (n2 / 64 * 67108864 + n2 * n2 % 4294967279 * 69621 % 4294967291 / 64) hm
  refine ⟨_, S2, ?_, hval, hval2, k + 1, by omega, rfl⟩
  refine runG_rt ?_
  simp only [ρ0, startE, rb_ok, rb_exc, rs_ok, rs_exc, s_seq, seq_nx, seq_rt, seq_bk, seq_ct, seq_exc, nxO_s, s_asg, s_par, s_par3, s_ret, s_expr, s_next, s_bk, s_ct, s_raise, s_if, ifS_t, ifS_f, ifS_exc, s_for, eVar, e_c, wOf_s, rOf_s, bOf_s, e_ix, asD_d, ob_s, om_s, e_d1, e_d2, e_dN, asDs_1, asDs_2, bvO_s, e_t, o1_s, o2_s, a_nil, a_cons, prO_ok, prO_exc, e_cp, e_cg, call_1, call_2, call_3, call_4, call_5, call_6, b_not, b_and, b_or, andB_t, andB_f, orB_t, orB_f, b_tr, truW_b, e_if, ifE_t, ifE_f, e_isN, e_notN, e_notV, notV_s, e_andV, andV_t, andV_f, e_ch, chO_t, chO_f, e_sl, o_no, o_yes, oiO_s, sl_t, sl_l, i_zip, zipI_t, zipI_l, add_ii, sub_ii, neg_i, lt_ii, le_ii, gt_ii, ge_ii, eq_ii, ne_ii, eq_ss, ne_ss, eq_bb, ne_bb, len_t, len_l, min_ii, max_ii, int_i, int_b, tup_l, tup_t, lst_l, lst_t, sum_ints, e_tup, e_lst, itO_s, i_any, itA_t, itA_l, i_r1, i_r2, bindT, bindTs, unpk_t, un_L, un_P, mkSq, allD, wipeE, LINE, List.map_cons, List.map_nil, List.length_cons, List.length_nil, List.replicate, List.cons_append, List.nil_append, Nat.sub_self, Nat.reduceSub, Nat.reduceAdd, List.getElem?_cons_zero, List.getElem?_cons_succ, List.set_cons_zero, List.set_cons_succ, reduceIte, Bool.false_eq_true, Bool.not_true, Bool.not_false, Nat.reduceLeDiff, if_true, if_false, decide_true, decide_false] at hc
  simp only [b__law_draw, app, ln, List.length_replicate, startE, rb_ok, rb_exc, rs_ok, rs_exc, s_seq, seq_nx, seq_rt, seq_bk, seq_ct, seq_exc, nxO_s, s_asg, s_par, s_par3, s_ret, s_expr, s_next, s_bk, s_ct, s_raise, s_if, ifS_t, ifS_f, ifS_exc, s_for, eVar, e_c, wOf_s, rOf_s, bOf_s, e_ix, asD_d, ob_s, om_s, e_d1, e_d2, e_dN, asDs_1, asDs_2, bvO_s, e_t, o1_s, o2_s, a_nil, a_cons, prO_ok, prO_exc, e_cp, e_cg, call_1, call_2, call_3, call_4, call_5, call_6, b_not, b_and, b_or, andB_t, andB_f, orB_t, orB_f, b_tr, truW_b, e_if, ifE_t, ifE_f, e_isN, e_notN, e_notV, notV_s, e_andV, andV_t, andV_f, e_ch, chO_t, chO_f, e_sl, o_no, o_yes, oiO_s, sl_t, sl_l, i_zip, zipI_t, zipI_l, add_ii, sub_ii, neg_i, lt_ii, le_ii, gt_ii, ge_ii, eq_ii, ne_ii, eq_ss, ne_ss, eq_bb, ne_bb, len_t, len_l, min_ii, max_ii, int_i, int_b, tup_l, tup_t, lst_l, lst_t, sum_ints, e_tup, e_lst, itO_s, i_any, itA_t, itA_l, i_r1, i_r2, bindT, bindTs, unpk_t, un_L, un_P, mkSq, allD, wipeE, LINE, List.map_cons, List.map_nil, List.length_cons, List.length_nil, List.replicate, List.cons_append, List.nil_append, Nat.sub_self, Nat.reduceSub, Nat.reduceAdd, List.getElem?_cons_zero, List.getElem?_cons_succ, List.set_cons_zero, List.set_cons_succ, reduceIte, Bool.false_eq_true, Bool.not_true, Bool.not_false, Nat.reduceLeDiff, if_true, if_false, decide_true, decide_false, hc, mod_ii m1, mod_ii m2, mod_ii hm, mul_l f1, mul_r f2, mul_r f3, mul_r f4, div_ii d1 d2, ← hn1, mul_l b1, ← hn2, mul_l b2]
theorem pick_ok {ns : List Int} {n : Nat} {T S : Store} {xs : List PyData} {w : Wv} (t : Tn n T S) (hs : ns.length ≤ 1000) (hn : n < 1000000) (hx : 0 < xs.length) (hw : w = .d (.list xs) ∨ w = .d (.tuple xs)) : ∃ x S', g__law_pick [.d (dS ns), .o 0, w] S = .ok (.d x) S' ∧ x ∈ xs ∧ Tn (n + 1) T S' := by
  obtain ⟨v, S', e, h0, h1, t'⟩ := draw_ok (m := xs.length) t hs hn (by omega)
  have hq : v.toNat < xs.length := by omega
  have ha : atI xs v = some xs[v.toNat] := by rw [atI_in h0 h1, List.getElem?_eq_getElem hq]
  refine ⟨xs[v.toNat], S', ?_, List.getElem_mem hq, t'⟩
  refine runG_rt ?_
  rcases hw with rfl | rfl
  · simp only [b__law_pick, e, ix_list ha, startE, rb_ok, rb_exc, rs_ok, rs_exc, s_seq, seq_nx, seq_rt, seq_bk, seq_ct, seq_exc, nxO_s, s_asg, s_par, s_par3, s_ret, s_expr, s_next, s_bk, s_ct, s_raise, s_if, ifS_t, ifS_f, ifS_exc, s_for, eVar, e_c, wOf_s, rOf_s, bOf_s, e_ix, asD_d, ob_s, om_s, e_d1, e_d2, e_dN, asDs_1, asDs_2, bvO_s, e_t, o1_s, o2_s, a_nil, a_cons, prO_ok, prO_exc, e_cp, e_cg, call_1, call_2, call_3, call_4, call_5, call_6, b_not, b_and, b_or, andB_t, andB_f, orB_t, orB_f, b_tr, truW_b, e_if, ifE_t, ifE_f, e_isN, e_notN, e_notV, notV_s, e_andV, andV_t, andV_f, e_ch, chO_t, chO_f, e_sl, o_no, o_yes, oiO_s, sl_t, sl_l, i_zip, zipI_t, zipI_l, add_ii, sub_ii, neg_i, lt_ii, le_ii, gt_ii, ge_ii, eq_ii, ne_ii, eq_ss, ne_ss, eq_bb, ne_bb, len_t, len_l, min_ii, max_ii, int_i, int_b, tup_l, tup_t, lst_l, lst_t, sum_ints, e_tup, e_lst, itO_s, i_any, itA_t, itA_l, i_r1, i_r2, bindT, bindTs, unpk_t, un_L, un_P, mkSq, allD, wipeE, LINE, List.map_cons, List.map_nil, List.length_cons, List.length_nil, List.replicate, List.cons_append, List.nil_append, Nat.sub_self, Nat.reduceSub, Nat.reduceAdd, List.getElem?_cons_zero, List.getElem?_cons_succ, List.set_cons_zero, List.set_cons_succ, reduceIte, Bool.false_eq_true, Bool.not_true, Bool.not_false, Nat.reduceLeDiff, if_true, if_false, decide_true, decide_false]
  · simp only [b__law_pick, e, ix_tuple ha, startE, rb_ok, rb_exc, rs_ok, rs_exc, s_seq, seq_nx, seq_rt, seq_bk, seq_ct, seq_exc, nxO_s, s_asg, s_par, s_par3, s_ret, s_expr, s_next, s_bk, s_ct, s_raise, s_if, ifS_t, ifS_f, ifS_exc, s_for, eVar, e_c, wOf_s, rOf_s, bOf_s, e_ix, asD_d, ob_s, om_s, e_d1, e_d2, e_dN, asDs_1, asDs_2, bvO_s, e_t, o1_s, o2_s, a_nil, a_cons, prO_ok, prO_exc, e_cp, e_cg, call_1, call_2, call_3, call_4, call_5, call_6, b_not, b_and, b_or, andB_t, andB_f, orB_t, orB_f, b_tr, truW_b, e_if, ifE_t, ifE_f, e_isN, e_notN, e_notV, notV_s, e_andV, andV_t, andV_f, e_ch, chO_t, chO_f, e_sl, o_no, o_yes, oiO_s, sl_t, sl_l, i_zip, zipI_t, zipI_l, add_ii, sub_ii, neg_i, lt_ii, le_ii, gt_ii, ge_ii, eq_ii, ne_ii, eq_ss, ne_ss, eq_bb, ne_bb, len_t, len_l, min_ii, max_ii, int_i, int_b, tup_l, tup_t, lst_l, lst_t, sum_ints, e_tup, e_lst, itO_s, i_any, itA_t, itA_l, i_r1, i_r2, bindT, bindTs, unpk_t, un_L, un_P, mkSq, allD, wipeE, LINE, List.map_cons, List.map_nil, List.length_cons, List.length_nil, List.replicate, List.cons_append, List.nil_append, Nat.sub_self, Nat.reduceSub, Nat.reduceAdd, List.getElem?_cons_zero, List.getElem?_cons_succ, List.set_cons_zero, List.set_cons_succ, reduceIte, Bool.false_eq_true, Bool.not_true, Bool.not_false, Nat.reduceLeDiff, if_true, if_false, decide_true, decide_false]
def letter (i : Nat) : Str := ⟨#[97 + i]⟩
theorem letter_ix : ∀ i : Fin 26, atI ("abcdefghijklmnopqrstuvwxyz" : Str).cps.toList (i.val : Int) = some (97 + i.val) := by decide +kernel
theorem ix_letter {S : Store} {i : Nat} (h : i < 26) : ixW S (.d (.str "abcdefghijklmnopqrstuvwxyz")) (.d (.int i)) = some (.d (.str (letter i))) := by
  have e := letter_ix ⟨i, h⟩
  have hl : ("abcdefghijklmnopqrstuvwxyz" : Str).length ≤ LINE := by decide +kernel
  show (match (if ("abcdefghijklmnopqrstuvwxyz" : Str).length ≤ LINE then (atI ("abcdefghijklmnopqrstuvwxyz" : Str).cps.toList (i : Int)).map fun c => PyData.str ⟨#[c]⟩ else none) with | some z => some (Wv.d z) | none => none) = _
  rw [if_pos hl, e]
  rfl
theorem letter_inj {i j : Nat} (h : letter i = letter j) : i = j := by
  have : (97 + i) = 97 + j := by
    have h2 := congrArg Str.cps h
    simpa [letter] using h2
  omega
def cmpO (r : Res (List Wv)) : Res Wv := match r with | .ok ys S => .ok (mkSq false ys) S | _ => .bad
theorem cmpO_ok {ys : List Wv} {S : Store} : cmpO (.ok ys S) = .ok (mkSq false ys) S := rfl
theorem e_comp {it : If} {tg : Tg} {t : Bf} {f : Ef} {vs : List Nat} {ρ : En} {S : Store} : eComp it tg t f vs ρ S = (it ρ S).bind fun ws S1 => if ws.length ≤ LINE then cmpO (compL tg t f (wipeE ρ vs) ws S1) else .bad := rfl
theorem nodup_letters (b n : Nat) : ((List.range n).map fun k => letter (b + 3 * k)).Nodup := by
  unfold List.Nodup
  rw [List.pairwise_map]
  refine List.Pairwise.imp ?_ (List.nodup_range (n := n))
  intro i j h e
  have := letter_inj e
  omega
theorem plan_ok {ns : List Int} {n : Nat} {T S : Store} {hi : Int} (t : Tn n T S) (hs : ns.length ≤ 1000) (hn : n < 900000) (h0 : 4 ≤ hi) (h1 : hi < 10000) : ∃ p S', g__law_plan [.d (dS ns), .o 0, .d (.int hi)] S = .ok (.d (dP p)) S' ∧ Good p ∧ 4 ≤ p.1 ∧ p.1 ≤ hi ∧ 1 ≤ p.2.length ∧ p.2.length ≤ 5 ∧ (∃ b, b < 9 ∧ p.2.map (·.1) = (List.range p.2.length).map fun k => letter (b + 3 * k)) ∧ Tn (n + 40) T S' := by
  obtain ⟨v, S1, e1, v0, v1, t1⟩ := draw_ok (m := hi - 3) t hs (by omega) (by omega)
  obtain ⟨b, S2, e2, b0, b1, t2⟩ := draw_ok (m := 9) t1 hs (by omega) (by omega)
  obtain ⟨k, S3, e3, k0, k1, t3⟩ := draw_ok (m := 5) t2 hs (by omega) (by omega)
  obtain ⟨bn, rfl⟩ : ∃ bn : Nat, b = bn := ⟨b.toNat, by omega⟩
  have sk : small (1 + k) := ⟨by omega, by omega⟩
  have hr : rngW 0 (1 + k).toNat = (List.range (1 + k).toNat).map fun i : Nat => Wv.d (.int (0 + (i : Int))) := rfl
  have s2 : small 2 := by decide
  have hr2 : rngW 0 (Int.toNat 2) = [.d (.int 0), .d (.int 1)] := rfl
  obtain ⟨ρ2, S4, hL, ls, o6, o7, o8, o9, o10, rfl, t4, hlen, hw, hnm⟩ := loopS_idx (tg := .nm 6) (body := l1__law_plan) (fun i : Nat => Wv.d (.int (0 + (i : Int)))) (fun i ρ S => ∃ (ls : List Ln) (o6 o7 o8 o9 o10 : Option Wv),
      ρ = [some (.d (dS ns)), some (.o 0), some (.d (.int hi)), some (.d (.int (4 + v))), some (.d (.tuple (ls.map dL))), some (.d (.int bn)), o6, o7, o8, o9, o10] ∧ Tn (n + 3 + 6 * i) T S ∧ ls.length = i ∧ (∀ l ∈ ls, 0 ≤ l.2.1 ∧ l.2.1 ≤ 4 + v ∧ 0 ≤ l.2.2 ∧ l.2.2 < 4 + v) ∧ ls.map (·.1) = (List.range i).map fun k => letter (bn + 3 * k)) (1 + k).toNat
    (ρ := [some (.d (dS ns)), some (.o 0), some (.d (.int hi)), some (.d (.int (4 + v))), some (.d (.tuple [])), some (.d (.int bn)), none, none, none, none, none]) (S := S3) (by
      rintro i hi2 ρ S ⟨ls, o6, o7, o8, o9, o10, rfl, t5, hlen, hw, hnm⟩
      obtain ⟨x1, S5, x1e, x10, x11, t6⟩ := draw_ok (m := 4 + v + 1) t5 hs (by omega) (by omega)
      obtain ⟨x2, S6, x2e, x20, x21, t7⟩ := draw_ok (m := 4 + v + 1) t6 hs (by omega) (by omega)
      obtain ⟨y, S7, ye, yin, t8⟩ := pick_ok (xs := [.int 0, .int (4 + v), .int 1, .int x1, .int x2]) (w := .d (.list [.int 0, .int (4 + v), .int 1, .int x1, .int x2])) t7 hs (by omega) (by simp) (.inl rfl)
      obtain ⟨wd, rfl, w0, w1⟩ : ∃ wd, y = .int wd ∧ 0 ≤ wd ∧ wd ≤ 4 + v := by
        simp only [List.mem_cons, List.not_mem_nil, or_false] at yin
        rcases yin with h | h | h | h | h
        · exact ⟨_, h, by omega, by omega⟩
        · exact ⟨_, h, by omega, by omega⟩
        · exact ⟨_, h, by omega, by omega⟩
        · exact ⟨_, h, by omega, by omega⟩
        · exact ⟨_, h, by omega, by omega⟩
      obtain ⟨sh, S8, she, sh0, sh1, t9⟩ := draw_ok (m := 4 + v) t8 hs (by omega) (by omega)
      have f3 : Fac 3 := by decide
      have hix : ∀ S, ixW S (.d (.str "abcdefghijklmnopqrstuvwxyz")) (.d (.int ((bn : Int) + 3 * (0 + (i : Int))))) = some (.d (.str (letter (bn + 3 * i)))) := fun S => by
        have : ((bn : Int) + 3 * (0 + (i : Int))) = ((bn + 3 * i : Nat) : Int) := by omega
        rw [this]
        exact ix_letter (by omega)
      have hz : (ls.map dL).length + 1 ≤ 16777216 := by rw [List.length_map]; omega
      refine ⟨_, rfl, _, S8, ?_, ls ++ [(letter (bn + 3 * i), wd, sh)], some (.d (.int (0 + (i : Int)))), some (.d (.list [.int x1, .int x2])), some (.d (.int wd)), some (.d (.str (letter (bn + 3 * i)))), o10, rfl, t9.mono (by omega), by rw [List.length_append, hlen]; rfl, ?_, ?_⟩
      · have al : oAdd (.list [.int 0, .int (4 + v), .int 1]) (.list [.int x1, .int x2]) = some (.list [.int 0, .int (4 + v), .int 1, .int x1, .int x2]) := rfl
        simp only [l1__law_plan, e_comp, cmpO_ok, compL, bYes, e1__law_plan, hr2, r1O_s s2, x1e, x2e, al, ye, she, hix, mul_l f3, startE, rb_ok, rb_exc, rs_ok, rs_exc, s_seq, seq_nx, seq_rt, seq_bk, seq_ct, seq_exc, nxO_s, s_asg, s_par, s_par3, s_ret, s_expr, s_next, s_bk, s_ct, s_raise, s_if, ifS_t, ifS_f, ifS_exc, s_for, eVar, e_c, wOf_s, rOf_s, bOf_s, e_ix, asD_d, ob_s, om_s, e_d1, e_d2, e_dN, asDs_1, asDs_2, bvO_s, e_t, o1_s, o2_s, a_nil, a_cons, prO_ok, prO_exc, e_cp, e_cg, call_1, call_2, call_3, call_4, call_5, call_6, b_not, b_and, b_or, andB_t, andB_f, orB_t, orB_f, b_tr, truW_b, e_if, ifE_t, ifE_f, e_isN, e_notN, e_notV, notV_s, e_andV, andV_t, andV_f, e_ch, chO_t, chO_f, e_sl, o_no, o_yes, oiO_s, sl_t, sl_l, i_zip, zipI_t, zipI_l, add_ii, sub_ii, neg_i, lt_ii, le_ii, gt_ii, ge_ii, eq_ii, ne_ii, eq_ss, ne_ss, eq_bb, ne_bb, len_t, len_l, min_ii, max_ii, int_i, int_b, tup_l, tup_t, lst_l, lst_t, sum_ints, e_tup, e_lst, itO_s, i_any, itA_t, itA_l, i_r1, i_r2, bindT, bindTs, unpk_t, un_L, un_P, mkSq, allD, wipeE, LINE, List.map_cons, List.map_nil, List.length_cons, List.length_nil, List.replicate, List.cons_append, List.nil_append, Nat.sub_self, Nat.reduceSub, Nat.reduceAdd, List.getElem?_cons_zero, List.getElem?_cons_succ, List.set_cons_zero, List.set_cons_succ, reduceIte, Bool.false_eq_true, Bool.not_true, Bool.not_false, Nat.reduceLeDiff, if_true, if_false, decide_true, decide_false]
        rw [add_tt (by show (ls.map dL).length + 1 ≤ _; exact hz)]
        simp only [startE, rb_ok, rb_exc, rs_ok, rs_exc, s_seq, seq_nx, seq_rt, seq_bk, seq_ct, seq_exc, nxO_s, s_asg, s_par, s_par3, s_ret, s_expr, s_next, s_bk, s_ct, s_raise, s_if, ifS_t, ifS_f, ifS_exc, s_for, eVar, e_c, wOf_s, rOf_s, bOf_s, e_ix, asD_d, ob_s, om_s, e_d1, e_d2, e_dN, asDs_1, asDs_2, bvO_s, e_t, o1_s, o2_s, a_nil, a_cons, prO_ok, prO_exc, e_cp, e_cg, call_1, call_2, call_3, call_4, call_5, call_6, b_not, b_and, b_or, andB_t, andB_f, orB_t, orB_f, b_tr, truW_b, e_if, ifE_t, ifE_f, e_isN, e_notN, e_notV, notV_s, e_andV, andV_t, andV_f, e_ch, chO_t, chO_f, e_sl, o_no, o_yes, oiO_s, sl_t, sl_l, i_zip, zipI_t, zipI_l, add_ii, sub_ii, neg_i, lt_ii, le_ii, gt_ii, ge_ii, eq_ii, ne_ii, eq_ss, ne_ss, eq_bb, ne_bb, len_t, len_l, min_ii, max_ii, int_i, int_b, tup_l, tup_t, lst_l, lst_t, sum_ints, e_tup, e_lst, itO_s, i_any, itA_t, itA_l, i_r1, i_r2, bindT, bindTs, unpk_t, un_L, un_P, mkSq, allD, wipeE, LINE, List.map_cons, List.map_nil, List.length_cons, List.length_nil, List.replicate, List.cons_append, List.nil_append, Nat.sub_self, Nat.reduceSub, Nat.reduceAdd, List.getElem?_cons_zero, List.getElem?_cons_succ, List.set_cons_zero, List.set_cons_succ, reduceIte, Bool.false_eq_true, Bool.not_true, Bool.not_false, Nat.reduceLeDiff, if_true, if_false, decide_true, decide_false]
        rw [List.map_append]
        rfl
      · intro l hl
        rcases List.mem_append.mp hl with h | h
        · exact hw l h
        · rw [List.mem_singleton.mp h]; exact ⟨w0, w1, sh0, sh1⟩
      · rw [List.map_append, hnm, List.range_succ, List.map_append]; rfl) ⟨[], none, none, none, none, none, rfl, t3, rfl, (fun l h => by cases h), rfl⟩
  refine ⟨(4 + v, ls), S4, ?_, ⟨⟨by omega, by show 4 + v < 100000; omega⟩, by show ls.length ≤ 100; omega, hw, by rw [hnm]; exact nodup_letters bn _⟩, by show 4 ≤ 4 + v; omega, by show 4 + v ≤ hi; omega, by show 1 ≤ ls.length; omega, by show ls.length ≤ 5; omega, ⟨bn, by omega, by show ls.map (·.1) = _; rw [hnm, hlen]⟩, t4.mono (by omega)⟩
  refine runG_rt ?_
  simp only [b__law_plan, e1, e2, e3, hL, hr, r1O_s sk, startE, rb_ok, rb_exc, rs_ok, rs_exc, s_seq, seq_nx, seq_rt, seq_bk, seq_ct, seq_exc, nxO_s, s_asg, s_par, s_par3, s_ret, s_expr, s_next, s_bk, s_ct, s_raise, s_if, ifS_t, ifS_f, ifS_exc, s_for, eVar, e_c, wOf_s, rOf_s, bOf_s, e_ix, asD_d, ob_s, om_s, e_d1, e_d2, e_dN, asDs_1, asDs_2, bvO_s, e_t, o1_s, o2_s, a_nil, a_cons, prO_ok, prO_exc, e_cp, e_cg, call_1, call_2, call_3, call_4, call_5, call_6, b_not, b_and, b_or, andB_t, andB_f, orB_t, orB_f, b_tr, truW_b, e_if, ifE_t, ifE_f, e_isN, e_notN, e_notV, notV_s, e_andV, andV_t, andV_f, e_ch, chO_t, chO_f, e_sl, o_no, o_yes, oiO_s, sl_t, sl_l, i_zip, zipI_t, zipI_l, add_ii, sub_ii, neg_i, lt_ii, le_ii, gt_ii, ge_ii, eq_ii, ne_ii, eq_ss, ne_ss, eq_bb, ne_bb, len_t, len_l, min_ii, max_ii, int_i, int_b, tup_l, tup_t, lst_l, lst_t, sum_ints, e_tup, e_lst, itO_s, i_any, itA_t, itA_l, i_r1, i_r2, bindT, bindTs, unpk_t, un_L, un_P, mkSq, allD, wipeE, LINE, List.map_cons, List.map_nil, List.length_cons, List.length_nil, List.replicate, List.cons_append, List.nil_append, Nat.sub_self, Nat.reduceSub, Nat.reduceAdd, List.getElem?_cons_zero, List.getElem?_cons_succ, List.set_cons_zero, List.set_cons_succ, reduceIte, Bool.false_eq_true, Bool.not_true, Bool.not_false, Nat.reduceLeDiff, if_true, if_false, decide_true, decide_false]
  rfl
end PL

/-! # PL, part T: beats, loops by count -/
namespace PL
open PySem PySem.Spec PyProof.Rows L2

theorem e_newL0 {ρ : En} : eNewL aNil ρ [] = .ok (.o 0) [.lst []] := rfl
theorem tn0 : Tn 0 [] [.lst []] := ⟨0, Nat.le_refl _, rfl⟩
theorem loopS_list {α : Type} {tg : Tg} {body : Sf} (g : α → Wv) (E : Nat → En → Store → Prop) (xs : List α) {ρ : En} {S : Store}
    (hs : ∀ i x, x ∈ xs → i < xs.length → ∀ ρ S, E i ρ S → ∃ ρ1, bindT tg (g x) ρ = some ρ1 ∧ ∃ ρ2 S2, body ρ1 S = .nx ρ2 S2 ∧ E (i + 1) ρ2 S2) (h : E 0 ρ S) : ∃ ρ2 S2, loopS tg body (xs.map g) ρ S = .nx ρ2 S2 ∧ E xs.length ρ2 S2 := by
  have gen : ∀ (ys : List α) (k : Nat) (ρ : En) (S : Store), (∀ y ∈ ys, y ∈ xs) → k + ys.length = xs.length → E k ρ S → ∃ ρ2 S2, loopS tg body (ys.map g) ρ S = .nx ρ2 S2 ∧ E xs.length ρ2 S2 := by
    intro ys
    induction ys with
    | nil => intro k ρ S _ e h; exact ⟨ρ, S, rfl, by rw [← e]; exact h⟩
    | cons y r ih =>
      intro k ρ S hm e h
      rw [List.length_cons] at e
      obtain ⟨ρ1, e1, ρ2, S2, e2, h2⟩ := hs k y (hm y List.mem_cons_self) (by omega) ρ S h
      obtain ⟨ρ3, S3, e3, h3⟩ := ih (k + 1) ρ2 S2 (fun z hz => hm z (List.mem_cons_of_mem _ hz)) (by omega) h2
      refine ⟨ρ3, S3, ?_, h3⟩
      rw [List.map_cons, loopS, e1]
      dsimp only
      rw [e2]
      exact e3
  exact gen xs 0 ρ S (fun _ h => h) (by omega) h

/-! ### beats that are on -/
theorem div_step {a n : Int} (hn : 0 < n) : ((a % n + 1 < n ∧ (a + 1) / n = a / n ∧ (a + 1) % n = a % n + 1) ∨ (a % n + 1 = n ∧ (a + 1) / n = a / n + 1 ∧ (a + 1) % n = 0)) := by
  have h1 := Int.emod_nonneg a (by omega : n ≠ 0)
  have h2 := Int.emod_lt_of_pos a hn
  have h3 := Int.emod_add_mul_ediv a n
  by_cases h : a % n + 1 < n
  · left
    have e : a + 1 = (a % n + 1) + n * (a / n) := by omega
    refine ⟨h, ?_, ?_⟩
    · rw [e, Int.add_mul_ediv_left _ _ (by omega : n ≠ 0), Int.ediv_eq_zero_of_lt (by omega) h]; omega
    · rw [e, Int.add_mul_emod_self_left, Int.emod_eq_of_lt (by omega) h]
  · right
    have e : a + 1 = 0 + n * (a / n + 1) := by rw [Int.mul_add, Int.mul_one]; omega
    refine ⟨by omega, ?_, ?_⟩
    · rw [e, Int.add_mul_ediv_left _ _ (by omega : n ≠ 0)]; simp
    · rw [e, Int.add_mul_emod_self_left]; simp
theorem cnt_step {p : Pl} {l : Ln} (hn : 0 < p.1) (h0 : 0 ≤ l.2.1) (h1 : l.2.1 ≤ p.1) (e : Int) : cnt p l (e + 1) = cnt p l e + (if isOn p l e = true then 1 else 0) := by
  have hs : e + 1 - l.2.2 = (e - l.2.2) + 1 := by omega
  unfold cnt isOn
  rw [hs]
  have r1 := Int.emod_nonneg (e - l.2.2) (by omega : p.1 ≠ 0)
  have r2 := Int.emod_lt_of_pos (e - l.2.2) hn
  rcases div_step (a := e - l.2.2) hn with ⟨c, h2, h3⟩ | ⟨c, h2, h3⟩
  · rw [h2, h3]
    by_cases hc : (e - l.2.2) % p.1 < l.2.1
    · rw [if_pos (decide_eq_true hc)]; omega
    · rw [if_neg (by simpa using hc)]; omega
  · rw [h2, h3, Int.add_mul]
    by_cases hc : (e - l.2.2) % p.1 < l.2.1
    · rw [if_pos (decide_eq_true hc)]; omega
    · rw [if_neg (by simpa using hc)]; omega
/-- by steps: what rises alike is alike -/
theorem steps_eq (f g : Int → Int) (a : Int) (h0 : f a = g a) (hs : ∀ e, a ≤ e → f e = g e → f (e + 1) = g (e + 1)) (b : Int) (hab : a ≤ b) : f b = g b := by
  have gen : ∀ k : Nat, f (a + k) = g (a + k) := by
    intro k
    induction k with
    | zero => simpa using h0
    | succ k ih =>
      have := hs (a + k) (by omega) ih
      have e : a + ((k + 1 : Nat) : Int) = a + k + 1 := by omega
      rw [e]; exact this
  have := gen (b - a).toNat
  have e : a + ((b - a).toNat : Int) = b := by omega
  rwa [e] at this
/-- the numbers of a range -/
def rng (a b : Int) : List Int := (List.range (b - a).toNat).map fun i : Nat => a + (i : Int)
theorem rngW_eq (a b : Int) : rngW a (b - a).toNat = (rng a b).map fun z => Wv.d (.int z) := by unfold rngW rng; rw [List.map_map]; rfl
theorem rngW0_eq (b : Int) : rngW 0 b.toNat = (rng 0 b).map fun z => Wv.d (.int z) := by rw [← rngW_eq]; rw [Int.sub_zero]
theorem rng_len (a b : Int) : (rng a b).length = (b - a).toNat := by unfold rng; rw [List.length_map, List.length_range]
theorem rng_mem {a b z : Int} (h : z ∈ rng a b) : a ≤ z ∧ z < b := by
  unfold rng at h
  obtain ⟨i, hi, rfl⟩ := List.mem_map.mp h
  have := List.mem_range.mp hi
  omega
theorem mem_rng {a b z : Int} (h : a ≤ z) (h2 : z < b) : z ∈ rng a b := by
  unfold rng
  exact List.mem_map.mpr ⟨(z - a).toNat, List.mem_range.mpr (by omega), by omega⟩
theorem rng_self (a : Int) : rng a a = [] := by unfold rng; rw [Int.sub_self]; rfl
theorem rng_succ {a b : Int} (h : a ≤ b) : rng a (b + 1) = rng a b ++ [b] := by
  unfold rng
  have e : (b + 1 - a).toNat = (b - a).toNat + 1 := by omega
  rw [e, List.range_succ, List.map_append, List.map_singleton]
  congr 2
  omega
theorem rng_cons {a b : Int} (h : a < b) : rng a b = a :: rng (a + 1) b := by
  unfold rng
  have e : (b - a).toNat = (b - (a + 1)).toNat + 1 := by omega
  rw [e, List.range_succ_eq_map, List.map_cons, List.map_map]
  congr 1
  · simp
  · apply List.map_congr_left
    intro i _
    show a + ((i + 1 : Nat) : Int) = a + 1 + i
    omega
theorem cnt_len {p : Pl} {l : Ln} (hn : 0 < p.1) (h0 : 0 ≤ l.2.1) (h1 : l.2.1 ≤ p.1) (a b : Int) (hab : a ≤ b) : (((rng a b).filter fun e => isOn p l e).length : Int) = cnt p l b - cnt p l a := by
  refine steps_eq (fun b => (((rng a b).filter fun e => isOn p l e).length : Int)) (fun b => cnt p l b - cnt p l a) a (by rw [rng_self]; simp) (fun e he ih => ?_) b hab
  try dsimp only at ih ⊢
  rw [rng_succ he, List.filter_append, List.length_append, cnt_step hn h0 h1]
  cases hc : isOn p l e with
  | true => simp [hc]; omega
  | false => simp [hc]; omega
theorem cnt_round {p : Pl} {l : Ln} (hn : 0 < p.1) (e t : Int) : cnt p l (e + t * p.1) - cnt p l e = t * l.2.1 := by
  unfold cnt
  have h : e + t * p.1 - l.2.2 = (e - l.2.2) + t * p.1 := by omega
  rw [h, Int.add_mul_ediv_right _ _ (by omega : p.1 ≠ 0), Int.add_mul_emod_self_right, Int.add_mul]
  omega
theorem emod_sub_lt {a n w : Int} (hn : 0 < n) (hw0 : 0 ≤ w) (hw : w ≤ n) : (decide ((a - w) % n < n - w)) = !decide (a % n < w) := by
  have h1 := Int.emod_nonneg a (by omega : n ≠ 0)
  have h2 := Int.emod_lt_of_pos a hn
  have h3 := Int.emod_add_mul_ediv a n
  by_cases hc : a % n < w
  · rw [decide_eq_true hc]
    have e : a - w = (a % n - w + n) + n * (a / n - 1) := by rw [Int.mul_sub]; omega
    rw [e, Int.add_mul_emod_self_left, Int.emod_eq_of_lt (by omega) (by omega)]
    exact decide_eq_false (by omega)
  · rw [decide_eq_false hc]
    have e : a - w = (a % n - w) + n * (a / n) := by omega
    rw [e, Int.add_mul_emod_self_left, Int.emod_eq_of_lt (by omega) (by omega)]
    exact decide_eq_true (by omega)
theorem isOn_against {p : Pl} {l : Ln} (hn : 0 < p.1) (h0 : 0 ≤ l.2.1) (h1 : l.2.1 ≤ p.1) (e : Int) : isOn (againstP p) (againstL p l) e = !isOn p l e := by
  unfold isOn againstP againstL
  dsimp only
  rw [Int.sub_emod, Int.emod_emod_of_dvd _ (Int.dvd_refl _), ← Int.sub_emod]
  have : e - (l.2.2 + l.2.1) = (e - l.2.2) - l.2.1 := by omega
  rw [this]
  exact emod_sub_lt hn h0 h1
theorem cnt_against {p : Pl} {l : Ln} (hn : 0 < p.1) (h0 : 0 ≤ l.2.1) (h1 : l.2.1 ≤ p.1) (a b : Int) (hab : a ≤ b) : cnt (againstP p) (againstL p l) b - cnt (againstP p) (againstL p l) a = b - a - (cnt p l b - cnt p l a) := by
  refine steps_eq (fun b => cnt (againstP p) (againstL p l) b - cnt (againstP p) (againstL p l) a) (fun b => b - a - (cnt p l b - cnt p l a)) a (by omega) (fun e he ih => ?_) b hab
  try dsimp only at ih ⊢
  rw [cnt_step hn h0 h1, cnt_step (p := againstP p) (l := againstL p l) hn (by show 0 ≤ p.1 - l.2.1; omega) (by show p.1 - l.2.1 ≤ p.1; omega), isOn_against hn h0 h1]
  cases isOn p l e with
  | true => simp; omega
  | false => simp; omega
theorem Good.against {p : Pl} (g : Good p) : Good (againstP p) := by
  refine ⟨g.b, by show (p.2.map _).length ≤ _; rw [List.length_map]; exact g.len, fun l hl => ?_, ?_⟩
  · obtain ⟨k, hk, rfl⟩ := List.mem_map.mp hl
    have := g.w k hk
    have hb := g.b
    show 0 ≤ p.1 - k.2.1 ∧ p.1 - k.2.1 ≤ p.1 ∧ 0 ≤ (k.2.2 + k.2.1) % p.1 ∧ (k.2.2 + k.2.1) % p.1 < p.1
    exact ⟨by omega, by omega, Int.emod_nonneg _ (by omega), Int.emod_lt_of_pos _ hb.1⟩
  · show ((p.2.map _).map _).Nodup
    rw [List.map_map]; exact g.nd
def turnedL (p : Pl) (k : Int) (l : Ln) : Ln := (l.1, l.2.1, (l.2.2 + k) % p.1)
theorem turnedP_eq (p : Pl) (k : Int) : turnedP p k = (p.1, p.2.map (turnedL p k)) := rfl
theorem Good.turned {p : Pl} (g : Good p) (k : Int) : Good (turnedP p k) := by
  refine ⟨g.b, by show (p.2.map _).length ≤ _; rw [List.length_map]; exact g.len, fun l hl => ?_, ?_⟩
  · obtain ⟨m, hm, rfl⟩ := List.mem_map.mp hl
    have := g.w m hm
    have hb := g.b
    exact ⟨this.1, this.2.1, Int.emod_nonneg _ (by omega), Int.emod_lt_of_pos _ hb.1⟩
  · show ((p.2.map _).map _).Nodup
    rw [List.map_map]; exact g.nd
theorem lineOf_map {p : Pl} {b : Int} {f : Ln → Ln} (hf : ∀ l, (f l).1 = l.1) {n : Str} {l : Ln} (h : lineOf p n = some l) : lineOf (b, p.2.map f) n = some (f l) := by
  unfold lineOf at h ⊢
  dsimp only
  rw [List.find?_map]
  have : ((fun l : Ln => decide (l.1 = n)) ∘ f) = fun l => decide (l.1 = n) := by funext k; simp [hf]
  rw [this, h]; rfl
theorem isOn_turned {p : Pl} {l : Ln} (hn : 0 < p.1) (k e : Int) : isOn (turnedP p k) (turnedL p k l) (e + k) = isOn p l e := by
  unfold isOn turnedP turnedL
  dsimp only
  rw [Int.sub_emod, Int.emod_emod_of_dvd _ (Int.dvd_refl _), ← Int.sub_emod]
  have : e + k - (l.2.2 + k) = e - l.2.2 := by omega
  rw [this]
theorem cnt_turned {p : Pl} {l : Ln} (hn : 0 < p.1) (h0 : 0 ≤ l.2.1) (h1 : l.2.1 ≤ p.1) (k a b : Int) (hab : a ≤ b) : cnt (turnedP p k) (turnedL p k l) (b + k) - cnt (turnedP p k) (turnedL p k l) (a + k) = cnt p l b - cnt p l a := by
  refine steps_eq (fun b => cnt (turnedP p k) (turnedL p k l) (b + k) - cnt (turnedP p k) (turnedL p k l) (a + k)) (fun b => cnt p l b - cnt p l a) a (by omega) (fun e he ih => ?_) b hab
  try dsimp only at ih ⊢
  have e1 : e + 1 + k = (e + k) + 1 := by omega
  rw [e1, cnt_step hn h0 h1, cnt_step (p := turnedP p k) (l := turnedL p k l) hn h0 h1, isOn_turned hn]
  omega
theorem sum_map_add {α : Type} (f g : α → Int) : ∀ xs : List α, (xs.map fun x => f x + g x).sum = (xs.map f).sum + (xs.map g).sum
  | [] => rfl
  | x :: r => by simp only [List.map_cons, List.sum_cons, sum_map_add f g r]; omega
theorem sum_ite {α : Type} (c : α → Bool) : ∀ xs : List α, (xs.map fun x => if c x = true then (1 : Int) else 0).sum = ((xs.filter c).length : Int)
  | [] => rfl
  | x :: r => by
    rw [List.map_cons, List.sum_cons, sum_ite c r, List.filter_cons]
    cases c x with
    | true => simp; omega
    | false => simp
theorem load_step {p : Pl} (g : Good p) (a e : Int) : loadOf p a (e + 1) = loadOf p a e + ((onAt p e).length : Int) := by
  unfold loadOf onAt
  have hb := g.b
  have : (p.2.map fun l => cnt p l (e + 1) - cnt p l a) = p.2.map fun l => (cnt p l e - cnt p l a) + (if isOn p l e = true then 1 else 0) := by
    apply List.map_congr_left
    intro l hl
    have := g.w l hl
    rw [cnt_step hb.1 this.1 this.2.1]; omega
  rw [this, sum_map_add, sum_ite, List.length_map]
theorem load_self (p : Pl) (a : Int) : loadOf p a a = 0 := by
  unfold loadOf
  induction p.2 with
  | nil => rfl
  | cons l r ih => rw [List.map_cons, List.sum_cons, ih]; omega
theorem load_add (p : Pl) (a b c : Int) : loadOf p a b + loadOf p b c = loadOf p a c := by
  unfold loadOf
  rw [← sum_map_add]
  congr 1
  apply List.map_congr_left
  intro l _
  omega
theorem load_sum {p : Pl} (g : Good p) (a b : Int) (hab : a ≤ b) : ((rng a b).map fun e => ((onAt p e).length : Int)).sum = loadOf p a b := by
  refine steps_eq (fun b => ((rng a b).map fun e => ((onAt p e).length : Int)).sum) (fun b => loadOf p a b) a (by rw [rng_self, load_self]; rfl) (fun e he ih => ?_) b hab
  try dsimp only at ih ⊢
  rw [rng_succ he, List.map_append, List.sum_append, ih, load_step g]
  simp
theorem load_round {p : Pl} (g : Good p) (a : Int) : loadOf p a (a + p.1) = (p.2.map fun l => l.2.1).sum := by
  unfold loadOf
  congr 1
  apply List.map_congr_left
  intro l _
  have := cnt_round (p := p) (l := l) g.b.1 a 1
  rw [Int.one_mul, Int.one_mul] at this
  exact this
end PL

/-! # PL, part U: counts, fullest beats, data that are equal -/
namespace PL
open PySem PySem.Spec PyProof.Rows L2 PySem.SeqAt PySem.W

mutual
theorem eqv_self : ∀ d : PyData, d.canLay0 = true → PyData.eqv d d = true
  | .none, _ => rfl
  | .bool b, _ => by simp [PyData.eqv]
  | .int i, _ => by simp [PyData.eqv]
  | .str x, _ => by simp [PyData.eqv]
  | .list xs, h => by
    have h' : PyData.canLayAll0 xs = true := h
    simp only [PyData.eqv]; exact eqvAll_self xs h'
  | .tuple xs, h => by
    have h' : PyData.canLayAll0 xs = true := h
    simp only [PyData.eqv]; exact eqvAll_self xs h'
  | .dict _, h => by cases h
theorem eqvAll_self : ∀ ds : List PyData, PyData.canLayAll0 ds = true → PyData.eqvAll ds ds = true
  | [], _ => rfl
  | x :: r, h => by
    have h' : (PyData.canLay0 x && PyData.canLayAll0 r) = true := h
    obtain ⟨h1, h2⟩ := Bool.and_eq_true_iff.mp h'
    simp only [PyData.eqvAll, eqv_self x h1, eqvAll_self r h2, Bool.and_self]
end
theorem lay_ints : ∀ xs : List Int, PyData.canLayAll0 (xs.map .int) = true
  | [] => rfl
  | x :: r => by rw [List.map_cons]; exact lay_ints r
theorem dep_ints : ∀ xs : List Int, PyData.depthAll (xs.map .int) = 0
  | [] => rfl
  | x :: r => by rw [List.map_cons]; show max 0 (PyData.depthAll (r.map .int)) = 0; rw [dep_ints r]; rfl
theorem sh_ints (xs : List Int) : shaped (.tuple (xs.map .int)) = true := by
  unfold shaped
  have h1 : PyData.canLay0 (.tuple (xs.map .int)) = true := lay_ints xs
  have h2 : PyData.depth (.tuple (xs.map .int)) = 1 := by show PyData.depthAll _ + 1 = 1; rw [dep_ints]
  rw [h1, h2]; rfl
theorem sh_intsL (xs : List Int) : shaped (.list (xs.map .int)) = true := by
  unfold shaped
  have h1 : PyData.canLay0 (.list (xs.map .int)) = true := lay_ints xs
  have h2 : PyData.depth (.list (xs.map .int)) = 1 := by show PyData.depthAll _ + 1 = 1; rw [dep_ints]
  rw [h1, h2]; rfl
theorem eq_same {xs : List PyData} (h : shaped (.tuple xs) = true) : oEq (.tuple xs) (.tuple xs) = some (.bool true) := by
  show ((if shaped (.tuple xs) = true ∧ shaped (.tuple xs) = true then some (PyData.eqv (.tuple xs) (.tuple xs)) else none).map PyData.bool) = _
  rw [if_pos ⟨h, h⟩, eqv_self _ (canLay_of_shaped h)]; rfl
theorem ne_same {xs : List PyData} (h : shaped (.tuple xs) = true) : oNe (.tuple xs) (.tuple xs) = some (.bool false) := by
  show ((if shaped (.tuple xs) = true ∧ shaped (.tuple xs) = true then some (PyData.eqv (.tuple xs) (.tuple xs)) else none).map fun b => PyData.bool (!b)) = _
  rw [if_pos ⟨h, h⟩, eqv_self _ (canLay_of_shaped h)]; rfl
theorem eq_nil {xs : List PyData} (h : shaped (.tuple xs) = true) : oEq (.tuple xs) (.tuple []) = some (.bool xs.isEmpty) := by
  show ((if shaped (.tuple xs) = true ∧ shaped (.tuple []) = true then some (PyData.eqv (.tuple xs) (.tuple [])) else none).map PyData.bool) = _
  rw [if_pos ⟨h, rfl⟩]
  cases xs <;> rfl
theorem lay_L {ls : List Ln} (h : ∀ l ∈ ls, PyData.canLay0 (.str l.1) = true) : PyData.canLayAll0 (ls.map dL) = true := by
  induction ls with
  | nil => rfl
  | cons l r ih =>
    have h1 := h l List.mem_cons_self
    have h2 := ih fun k hk => h k (List.mem_cons_of_mem _ hk)
    show (PyData.canLay0 (dL l) && PyData.canLayAll0 (r.map dL)) = true
    rw [h2, Bool.and_true]
    show (PyData.canLay0 (.str l.1) && _) = true
    rw [h1]; rfl
theorem dep_L : ∀ ls : List Ln, PyData.depthAll (ls.map dL) ≤ 1
  | [] => by show 0 ≤ 1; omega
  | l :: r => by
    have h := dep_L r
    show max (PyData.depth (dL l)) (PyData.depthAll (r.map dL)) ≤ 1
    have : PyData.depth (dL l) = 1 := rfl
    omega
theorem sh_L {ls : List Ln} (h : ∀ l ∈ ls, PyData.canLay0 (.str l.1) = true) : shaped (.tuple (ls.map dL)) = true := by
  unfold shaped
  have h1 : PyData.canLay0 (.tuple (ls.map dL)) = true := lay_L h
  have h2 : PyData.depth (.tuple (ls.map dL)) ≤ 2 := by have := dep_L ls; show PyData.depthAll _ + 1 ≤ 2; omega
  rw [h1, decide_eq_true (by omega)]; rfl
theorem sh_P {p : Pl} (h : ∀ l ∈ p.2, PyData.canLay0 (.str l.1) = true) : shaped (dP p) = true := by
  unfold shaped
  have h1 : PyData.canLay0 (dP p) = true := by
    show (true && (PyData.canLayAll0 (p.2.map dL) && true)) = true
    rw [lay_L h]; rfl
  have h2 : PyData.depth (dP p) ≤ 3 := by
    have := dep_L p.2
    show max 0 (max (PyData.depthAll (p.2.map dL) + 1) 0) + 1 ≤ 3
    omega
  rw [h1, decide_eq_true (by omega)]; rfl

/-! ### the greatest, the least -/
def mx : List Int → Int
  | [] => 0
  | x :: r => r.foldl max x
def mn : List Int → Int
  | [] => 0
  | x :: r => r.foldl min x
theorem fmax_le : ∀ (r : List Int) (x k : Int), r.foldl max x ≤ k ↔ x ≤ k ∧ ∀ y ∈ r, y ≤ k
  | [], x, k => by simp
  | y :: r, x, k => by
    rw [List.foldl_cons, fmax_le r, Int.max_le]
    simp only [List.mem_cons, forall_eq_or_imp]
    exact and_assoc
theorem fmin_le : ∀ (r : List Int) (x k : Int), k ≤ r.foldl min x ↔ k ≤ x ∧ ∀ y ∈ r, k ≤ y
  | [], x, k => by simp
  | y :: r, x, k => by
    rw [List.foldl_cons, fmin_le r, Int.le_min]
    simp only [List.mem_cons, forall_eq_or_imp]
    exact and_assoc
theorem mx_le {l : List Int} (h : l ≠ []) {k : Int} : mx l ≤ k ↔ ∀ y ∈ l, y ≤ k := by
  cases l with
  | nil => exact absurd rfl h
  | cons x r => unfold mx; rw [fmax_le]; simp
theorem le_mn {l : List Int} (h : l ≠ []) {k : Int} : k ≤ mn l ↔ ∀ y ∈ l, k ≤ y := by
  cases l with
  | nil => exact absurd rfl h
  | cons x r => unfold mn; rw [fmin_le]; simp
theorem le_mx {l : List Int} {y : Int} (h : y ∈ l) : y ≤ mx l := (mx_le (List.ne_nil_of_mem h)).mp (Int.le_refl _) y h
theorem mn_le {l : List Int} {y : Int} (h : y ∈ l) : mn l ≤ y := (le_mn (List.ne_nil_of_mem h)).mp (Int.le_refl _) y h
theorem fmax_mem : ∀ (r : List Int) (x : Int), r.foldl max x ∈ x :: r
  | [], x => by simp
  | y :: r, x => by
    rw [List.foldl_cons]
    have := fmax_mem r (max x y)
    rcases List.mem_cons.mp this with h | h
    · rw [h]
      rcases Int.le_total x y with q | q
      · rw [Int.max_eq_right q]; simp
      · rw [Int.max_eq_left q]; simp
    · simp [h]
theorem fmin_mem : ∀ (r : List Int) (x : Int), r.foldl min x ∈ x :: r
  | [], x => by simp
  | y :: r, x => by
    rw [List.foldl_cons]
    have := fmin_mem r (min x y)
    rcases List.mem_cons.mp this with h | h
    · rw [h]
      rcases Int.le_total x y with q | q
      · rw [Int.min_eq_left q]; simp
      · rw [Int.min_eq_right q]; simp
    · simp [h]
theorem mx_mem {l : List Int} (h : l ≠ []) : mx l ∈ l := by
  cases l with
  | nil => exact absurd rfl h
  | cons x r => exact fmax_mem r x
theorem mn_mem {l : List Int} (h : l ≠ []) : mn l ∈ l := by
  cases l with
  | nil => exact absurd rfl h
  | cons x r => exact fmin_mem r x
theorem alikeB_ints : ∀ xs : List Int, alikeB (xs.map .int) = true := fun xs => by
  unfold alikeB
  rw [dep_ints]
  simp only [Bool.and_eq_true, List.all_eq_true]
  refine ⟨⟨fun x hx y hy => ?_, fun x hx => ?_⟩, rfl⟩
  · obtain ⟨a, _, rfl⟩ := List.mem_map.mp hx
    obtain ⟨b, _, rfl⟩ := List.mem_map.mp hy
    rfl
  · obtain ⟨a, _, rfl⟩ := List.mem_map.mp hx
    rfl
theorem max1_t {xs : List Int} (h : xs ≠ []) : oMax1 (.tuple (xs.map .int)) = some (.int (mx xs)) := by
  cases xs with
  | nil => exact absurd rfl h
  | cons x r =>
    have this : alikeB (.int x :: r.map .int) = true := alikeB_ints (x :: r)
    show (if alikeB (.int x :: r.map .int) = true then some (maxD (.int x) (r.map .int)) else none) = _
    rw [if_pos this, maxD_ints]; rfl
theorem min1_t {xs : List Int} (h : xs ≠ []) : oMin1 (.tuple (xs.map .int)) = some (.int (mn xs)) := by
  cases xs with
  | nil => exact absurd rfl h
  | cons x r =>
    have this : alikeB (.int x :: r.map .int) = true := alikeB_ints (x :: r)
    show (if alikeB (.int x :: r.map .int) = true then some (minD (.int x) (r.map .int)) else none) = _
    rw [if_pos this, minD_ints]; rfl
theorem max1_l {xs : List Int} (h : xs ≠ []) : oMax1 (.list (xs.map .int)) = some (.int (mx xs)) := by
  cases xs with
  | nil => exact absurd rfl h
  | cons x r =>
    have this : alikeB (.int x :: r.map .int) = true := alikeB_ints (x :: r)
    show (if alikeB (.int x :: r.map .int) = true then some (maxD (.int x) (r.map .int)) else none) = _
    rw [if_pos this, maxD_ints]; rfl
theorem min1_l {xs : List Int} (h : xs ≠ []) : oMin1 (.list (xs.map .int)) = some (.int (mn xs)) := by
  cases xs with
  | nil => exact absurd rfl h
  | cons x r =>
    have this : alikeB (.int x :: r.map .int) = true := alikeB_ints (x :: r)
    show (if alikeB (.int x :: r.map .int) = true then some (minD (.int x) (r.map .int)) else none) = _
    rw [if_pos this, minD_ints]; rfl

/-! ### counts -/
def ct (p : Pl) (b : Int) : Int := ((p.2.filter fun l => isOn p l b).length : Int)
def cts (p : Pl) : List Int := (rng 0 p.1).map fun b => ct p b
theorem cts_ne {p : Pl} (g : Good p) : cts p ≠ [] := by
  have := g.b
  intro e
  have h : (cts p).length = 0 := by rw [e]; rfl
  unfold cts at h
  rw [List.length_map, rng_len] at h
  omega
theorem mem_cts {p : Pl} {x : Int} : x ∈ cts p ↔ ∃ b, 0 ≤ b ∧ b < p.1 ∧ ct p b = x := by
  unfold cts
  rw [List.mem_map]
  constructor
  · rintro ⟨b, hb, e⟩; exact ⟨b, (rng_mem hb).1, (rng_mem hb).2, e⟩
  · rintro ⟨b, h0, h1, e⟩; exact ⟨b, mem_rng h0 h1, e⟩
theorem counts_eq {p : Pl} (g : Good p) : f_counts [dP p] = .ok (.tuple ((cts p).map .int)) := by
  refine runP_rt (S := []) ?_
  have hb := g.b
  have s1 : small p.1 := ⟨by omega, by omega⟩
  have hc := eComp_all (it := iR1 (aCons (eIx (eVar 0) (eC (.int 0))) aNil)) (tg := .nm 1) (f := e1_counts) (vs := [1]) (ρ := [some (.d (dP p)), none]) (S := []) (xs := rng 0 p.1) (fun z => .d (.int z)) (fun z => .int (ct p z))
    (fun z => [some (.d (dP p)), some (.d (.int z))]) (by simp only [startE, rb_ok, rb_exc, rs_ok, rs_exc, s_seq, seq_nx, seq_rt, seq_bk, seq_ct, seq_exc, nxO_s, s_asg, s_par, s_par3, s_ret, s_expr, s_next, s_bk, s_ct, s_raise, s_if, ifS_t, ifS_f, ifS_exc, s_for, eVar, e_c, wOf_s, rOf_s, bOf_s, e_ix, asD_d, ob_s, om_s, e_d1, e_d2, e_dN, asDs_1, asDs_2, bvO_s, e_t, o1_s, o2_s, a_nil, a_cons, prO_ok, prO_exc, e_cp, e_cg, call_1, call_2, call_3, call_4, call_5, call_6, b_not, b_and, b_or, andB_t, andB_f, orB_t, orB_f, b_tr, truW_b, e_if, ifE_t, ifE_f, e_isN, e_notN, e_notV, notV_s, e_andV, andV_t, andV_f, e_ch, chO_t, chO_f, e_sl, o_no, o_yes, oiO_s, sl_t, sl_l, i_zip, zipI_t, zipI_l, add_ii, sub_ii, neg_i, lt_ii, le_ii, gt_ii, ge_ii, eq_ii, ne_ii, eq_ss, ne_ss, eq_bb, ne_bb, len_t, len_l, min_ii, max_ii, int_i, int_b, tup_l, tup_t, lst_l, lst_t, sum_ints, e_tup, e_lst, itO_s, i_any, itA_t, itA_l, i_r1, i_r2, bindT, bindTs, unpk_t, un_L, un_P, mkSq, allD, wipeE, LINE, List.map_cons, List.map_nil, List.length_cons, List.length_nil, List.replicate, List.cons_append, List.nil_append, Nat.sub_self, Nat.reduceSub, Nat.reduceAdd, List.getElem?_cons_zero, List.getElem?_cons_succ, List.set_cons_zero, List.set_cons_succ, reduceIte, Bool.false_eq_true, Bool.not_true, Bool.not_false, Nat.reduceLeDiff, if_true, if_false, decide_true, decide_false, ix_P0, r1O_s s1, rngW0_eq]) (by rw [rng_len]; unfold LINE; omega) (fun z hz => rfl)
    (fun z hz => by simp only [e1_counts, on_at_eq g, startE, rb_ok, rb_exc, rs_ok, rs_exc, s_seq, seq_nx, seq_rt, seq_bk, seq_ct, seq_exc, nxO_s, s_asg, s_par, s_par3, s_ret, s_expr, s_next, s_bk, s_ct, s_raise, s_if, ifS_t, ifS_f, ifS_exc, s_for, eVar, e_c, wOf_s, rOf_s, bOf_s, e_ix, asD_d, ob_s, om_s, e_d1, e_d2, e_dN, asDs_1, asDs_2, bvO_s, e_t, o1_s, o2_s, a_nil, a_cons, prO_ok, prO_exc, e_cp, e_cg, call_1, call_2, call_3, call_4, call_5, call_6, b_not, b_and, b_or, andB_t, andB_f, orB_t, orB_f, b_tr, truW_b, e_if, ifE_t, ifE_f, e_isN, e_notN, e_notV, notV_s, e_andV, andV_t, andV_f, e_ch, chO_t, chO_f, e_sl, o_no, o_yes, oiO_s, sl_t, sl_l, i_zip, zipI_t, zipI_l, add_ii, sub_ii, neg_i, lt_ii, le_ii, gt_ii, ge_ii, eq_ii, ne_ii, eq_ss, ne_ss, eq_bb, ne_bb, len_t, len_l, min_ii, max_ii, int_i, int_b, tup_l, tup_t, lst_l, lst_t, sum_ints, e_tup, e_lst, itO_s, i_any, itA_t, itA_l, i_r1, i_r2, bindT, bindTs, unpk_t, un_L, un_P, mkSq, allD, wipeE, LINE, List.map_cons, List.map_nil, List.length_cons, List.length_nil, List.replicate, List.cons_append, List.nil_append, Nat.sub_self, Nat.reduceSub, Nat.reduceAdd, List.getElem?_cons_zero, List.getElem?_cons_succ, List.set_cons_zero, List.set_cons_succ, reduceIte, Bool.false_eq_true, Bool.not_true, Bool.not_false, Nat.reduceLeDiff, if_true, if_false, decide_true, decide_false, List.length_map, ct, onAt])
  have : (rng 0 p.1).map (fun z => PyData.int (ct p z)) = (cts p).map .int := by unfold cts; rw [List.map_map]; rfl
  rw [this] at hc
  simp only [b_counts, hc, startE, rb_ok, rb_exc, rs_ok, rs_exc, s_seq, seq_nx, seq_rt, seq_bk, seq_ct, seq_exc, nxO_s, s_asg, s_par, s_par3, s_ret, s_expr, s_next, s_bk, s_ct, s_raise, s_if, ifS_t, ifS_f, ifS_exc, s_for, eVar, e_c, wOf_s, rOf_s, bOf_s, e_ix, asD_d, ob_s, om_s, e_d1, e_d2, e_dN, asDs_1, asDs_2, bvO_s, e_t, o1_s, o2_s, a_nil, a_cons, prO_ok, prO_exc, e_cp, e_cg, call_1, call_2, call_3, call_4, call_5, call_6, b_not, b_and, b_or, andB_t, andB_f, orB_t, orB_f, b_tr, truW_b, e_if, ifE_t, ifE_f, e_isN, e_notN, e_notV, notV_s, e_andV, andV_t, andV_f, e_ch, chO_t, chO_f, e_sl, o_no, o_yes, oiO_s, sl_t, sl_l, i_zip, zipI_t, zipI_l, add_ii, sub_ii, neg_i, lt_ii, le_ii, gt_ii, ge_ii, eq_ii, ne_ii, eq_ss, ne_ss, eq_bb, ne_bb, len_t, len_l, min_ii, max_ii, int_i, int_b, tup_l, tup_t, lst_l, lst_t, sum_ints, e_tup, e_lst, itO_s, i_any, itA_t, itA_l, i_r1, i_r2, bindT, bindTs, unpk_t, un_L, un_P, mkSq, allD, wipeE, LINE, List.map_cons, List.map_nil, List.length_cons, List.length_nil, List.replicate, List.cons_append, List.nil_append, Nat.sub_self, Nat.reduceSub, Nat.reduceAdd, List.getElem?_cons_zero, List.getElem?_cons_succ, List.set_cons_zero, List.set_cons_succ, reduceIte, Bool.false_eq_true, Bool.not_true, Bool.not_false, Nat.reduceLeDiff, if_true, if_false, decide_true, decide_false]
theorem most_on_eq {p : Pl} (g : Good p) : f_most_on [dP p] = .ok (.int (mx (cts p))) := by
  refine runP_rt (S := []) ?_
  simp only [b_most_on, counts_eq g, max1_t (cts_ne g), startE, rb_ok, rb_exc, rs_ok, rs_exc, s_seq, seq_nx, seq_rt, seq_bk, seq_ct, seq_exc, nxO_s, s_asg, s_par, s_par3, s_ret, s_expr, s_next, s_bk, s_ct, s_raise, s_if, ifS_t, ifS_f, ifS_exc, s_for, eVar, e_c, wOf_s, rOf_s, bOf_s, e_ix, asD_d, ob_s, om_s, e_d1, e_d2, e_dN, asDs_1, asDs_2, bvO_s, e_t, o1_s, o2_s, a_nil, a_cons, prO_ok, prO_exc, e_cp, e_cg, call_1, call_2, call_3, call_4, call_5, call_6, b_not, b_and, b_or, andB_t, andB_f, orB_t, orB_f, b_tr, truW_b, e_if, ifE_t, ifE_f, e_isN, e_notN, e_notV, notV_s, e_andV, andV_t, andV_f, e_ch, chO_t, chO_f, e_sl, o_no, o_yes, oiO_s, sl_t, sl_l, i_zip, zipI_t, zipI_l, add_ii, sub_ii, neg_i, lt_ii, le_ii, gt_ii, ge_ii, eq_ii, ne_ii, eq_ss, ne_ss, eq_bb, ne_bb, len_t, len_l, min_ii, max_ii, int_i, int_b, tup_l, tup_t, lst_l, lst_t, sum_ints, e_tup, e_lst, itO_s, i_any, itA_t, itA_l, i_r1, i_r2, bindT, bindTs, unpk_t, un_L, un_P, mkSq, allD, wipeE, LINE, List.map_cons, List.map_nil, List.length_cons, List.length_nil, List.replicate, List.cons_append, List.nil_append, Nat.sub_self, Nat.reduceSub, Nat.reduceAdd, List.getElem?_cons_zero, List.getElem?_cons_succ, List.set_cons_zero, List.set_cons_succ, reduceIte, Bool.false_eq_true, Bool.not_true, Bool.not_false, Nat.reduceLeDiff, if_true, if_false, decide_true, decide_false]
def evenB (p : Pl) : Bool := decide (mx (cts p) - mn (cts p) ≤ 1)
theorem is_even_eq {p : Pl} (g : Good p) : f_is_even [dP p] = .ok (.bool (evenB p)) := by
  refine runP_rt (S := []) ?_
  simp only [b_is_even, counts_eq g, max1_t (cts_ne g), min1_t (cts_ne g), startE, rb_ok, rb_exc, rs_ok, rs_exc, s_seq, seq_nx, seq_rt, seq_bk, seq_ct, seq_exc, nxO_s, s_asg, s_par, s_par3, s_ret, s_expr, s_next, s_bk, s_ct, s_raise, s_if, ifS_t, ifS_f, ifS_exc, s_for, eVar, e_c, wOf_s, rOf_s, bOf_s, e_ix, asD_d, ob_s, om_s, e_d1, e_d2, e_dN, asDs_1, asDs_2, bvO_s, e_t, o1_s, o2_s, a_nil, a_cons, prO_ok, prO_exc, e_cp, e_cg, call_1, call_2, call_3, call_4, call_5, call_6, b_not, b_and, b_or, andB_t, andB_f, orB_t, orB_f, b_tr, truW_b, e_if, ifE_t, ifE_f, e_isN, e_notN, e_notV, notV_s, e_andV, andV_t, andV_f, e_ch, chO_t, chO_f, e_sl, o_no, o_yes, oiO_s, sl_t, sl_l, i_zip, zipI_t, zipI_l, add_ii, sub_ii, neg_i, lt_ii, le_ii, gt_ii, ge_ii, eq_ii, ne_ii, eq_ss, ne_ss, eq_bb, ne_bb, len_t, len_l, min_ii, max_ii, int_i, int_b, tup_l, tup_t, lst_l, lst_t, sum_ints, e_tup, e_lst, itO_s, i_any, itA_t, itA_l, i_r1, i_r2, bindT, bindTs, unpk_t, un_L, un_P, mkSq, allD, wipeE, LINE, List.map_cons, List.map_nil, List.length_cons, List.length_nil, List.replicate, List.cons_append, List.nil_append, Nat.sub_self, Nat.reduceSub, Nat.reduceAdd, List.getElem?_cons_zero, List.getElem?_cons_succ, List.set_cons_zero, List.set_cons_succ, reduceIte, Bool.false_eq_true, Bool.not_true, Bool.not_false, Nat.reduceLeDiff, if_true, if_false, decide_true, decide_false, evenB]
def wSum (p : Pl) : Int := (p.2.map fun l => l.2.1).sum
def leastM (p : Pl) : Int := (wSum p + p.1 - 1) / p.1
theorem least_eq {p : Pl} (g : Good p) : f_least_most [dP p] = .ok (.int (leastM p)) := by
  refine runP_rt (S := []) ?_
  have hb := g.b
  have hd : p.1 < 1073741824 := by omega
  have hc := eComp_all (it := iAny (eIx (eVar 0) (eC (.int 1)))) (tg := .nm 1) (f := e1_least_most) (vs := [1]) (ρ := [some (.d (dP p)), none]) (S := []) (xs := p.2) (fun l => .d (dL l)) (fun l => .int l.2.1)
    (fun l => [some (.d (dP p)), some (.d (dL l))]) (by simp only [ix_P1, mapLd, startE, rb_ok, rb_exc, rs_ok, rs_exc, s_seq, seq_nx, seq_rt, seq_bk, seq_ct, seq_exc, nxO_s, s_asg, s_par, s_par3, s_ret, s_expr, s_next, s_bk, s_ct, s_raise, s_if, ifS_t, ifS_f, ifS_exc, s_for, eVar, e_c, wOf_s, rOf_s, bOf_s, e_ix, asD_d, ob_s, om_s, e_d1, e_d2, e_dN, asDs_1, asDs_2, bvO_s, e_t, o1_s, o2_s, a_nil, a_cons, prO_ok, prO_exc, e_cp, e_cg, call_1, call_2, call_3, call_4, call_5, call_6, b_not, b_and, b_or, andB_t, andB_f, orB_t, orB_f, b_tr, truW_b, e_if, ifE_t, ifE_f, e_isN, e_notN, e_notV, notV_s, e_andV, andV_t, andV_f, e_ch, chO_t, chO_f, e_sl, o_no, o_yes, oiO_s, sl_t, sl_l, i_zip, zipI_t, zipI_l, add_ii, sub_ii, neg_i, lt_ii, le_ii, gt_ii, ge_ii, eq_ii, ne_ii, eq_ss, ne_ss, eq_bb, ne_bb, len_t, len_l, min_ii, max_ii, int_i, int_b, tup_l, tup_t, lst_l, lst_t, sum_ints, e_tup, e_lst, itO_s, i_any, itA_t, itA_l, i_r1, i_r2, bindT, bindTs, unpk_t, un_L, un_P, mkSq, allD, wipeE, LINE, List.map_cons, List.map_nil, List.length_cons, List.length_nil, List.replicate, List.cons_append, List.nil_append, Nat.sub_self, Nat.reduceSub, Nat.reduceAdd, List.getElem?_cons_zero, List.getElem?_cons_succ, List.set_cons_zero, List.set_cons_succ, reduceIte, Bool.false_eq_true, Bool.not_true, Bool.not_false, Nat.reduceLeDiff, if_true, if_false, decide_true, decide_false]) (by have := g.len; unfold LINE; omega) (fun l hl => rfl)
    (fun l hl => by simp only [e1_least_most, ix_L1, startE, rb_ok, rb_exc, rs_ok, rs_exc, s_seq, seq_nx, seq_rt, seq_bk, seq_ct, seq_exc, nxO_s, s_asg, s_par, s_par3, s_ret, s_expr, s_next, s_bk, s_ct, s_raise, s_if, ifS_t, ifS_f, ifS_exc, s_for, eVar, e_c, wOf_s, rOf_s, bOf_s, e_ix, asD_d, ob_s, om_s, e_d1, e_d2, e_dN, asDs_1, asDs_2, bvO_s, e_t, o1_s, o2_s, a_nil, a_cons, prO_ok, prO_exc, e_cp, e_cg, call_1, call_2, call_3, call_4, call_5, call_6, b_not, b_and, b_or, andB_t, andB_f, orB_t, orB_f, b_tr, truW_b, e_if, ifE_t, ifE_f, e_isN, e_notN, e_notV, notV_s, e_andV, andV_t, andV_f, e_ch, chO_t, chO_f, e_sl, o_no, o_yes, oiO_s, sl_t, sl_l, i_zip, zipI_t, zipI_l, add_ii, sub_ii, neg_i, lt_ii, le_ii, gt_ii, ge_ii, eq_ii, ne_ii, eq_ss, ne_ss, eq_bb, ne_bb, len_t, len_l, min_ii, max_ii, int_i, int_b, tup_l, tup_t, lst_l, lst_t, sum_ints, e_tup, e_lst, itO_s, i_any, itA_t, itA_l, i_r1, i_r2, bindT, bindTs, unpk_t, un_L, un_P, mkSq, allD, wipeE, LINE, List.map_cons, List.map_nil, List.length_cons, List.length_nil, List.replicate, List.cons_append, List.nil_append, Nat.sub_self, Nat.reduceSub, Nat.reduceAdd, List.getElem?_cons_zero, List.getElem?_cons_succ, List.set_cons_zero, List.set_cons_succ, reduceIte, Bool.false_eq_true, Bool.not_true, Bool.not_false, Nat.reduceLeDiff, if_true, if_false, decide_true, decide_false])
  have : (p.2.map fun l => PyData.int l.2.1) = (p.2.map fun l => l.2.1).map .int := by rw [List.map_map]; rfl
  rw [this] at hc
  simp only [b_least_most, hc, ix_P0, div_ii hb.1 hd, startE, rb_ok, rb_exc, rs_ok, rs_exc, s_seq, seq_nx, seq_rt, seq_bk, seq_ct, seq_exc, nxO_s, s_asg, s_par, s_par3, s_ret, s_expr, s_next, s_bk, s_ct, s_raise, s_if, ifS_t, ifS_f, ifS_exc, s_for, eVar, e_c, wOf_s, rOf_s, bOf_s, e_ix, asD_d, ob_s, om_s, e_d1, e_d2, e_dN, asDs_1, asDs_2, bvO_s, e_t, o1_s, o2_s, a_nil, a_cons, prO_ok, prO_exc, e_cp, e_cg, call_1, call_2, call_3, call_4, call_5, call_6, b_not, b_and, b_or, andB_t, andB_f, orB_t, orB_f, b_tr, truW_b, e_if, ifE_t, ifE_f, e_isN, e_notN, e_notV, notV_s, e_andV, andV_t, andV_f, e_ch, chO_t, chO_f, e_sl, o_no, o_yes, oiO_s, sl_t, sl_l, i_zip, zipI_t, zipI_l, add_ii, sub_ii, neg_i, lt_ii, le_ii, gt_ii, ge_ii, eq_ii, ne_ii, eq_ss, ne_ss, eq_bb, ne_bb, len_t, len_l, min_ii, max_ii, int_i, int_b, tup_l, tup_t, lst_l, lst_t, sum_ints, e_tup, e_lst, itO_s, i_any, itA_t, itA_l, i_r1, i_r2, bindT, bindTs, unpk_t, un_L, un_P, mkSq, allD, wipeE, LINE, List.map_cons, List.map_nil, List.length_cons, List.length_nil, List.replicate, List.cons_append, List.nil_append, Nat.sub_self, Nat.reduceSub, Nat.reduceAdd, List.getElem?_cons_zero, List.getElem?_cons_succ, List.set_cons_zero, List.set_cons_succ, reduceIte, Bool.false_eq_true, Bool.not_true, Bool.not_false, Nat.reduceLeDiff, if_true, if_false, decide_true, decide_false, leastM, wSum]
theorem ct_sum {p : Pl} (g : Good p) : (cts p).sum = wSum p := by
  have h := load_sum g 0 p.1 (by have := g.b; omega)
  have h2 := load_round g 0
  rw [Int.zero_add] at h2
  rw [h2] at h
  unfold cts wSum
  rw [← h]
  congr 1
  apply List.map_congr_left
  intro b _
  unfold ct onAt
  rw [List.length_map]
theorem sum_le {k : Int} : ∀ {l : List Int}, (∀ x ∈ l, x ≤ k) → l.sum ≤ k * (l.length : Int)
  | [], _ => by simp
  | x :: r, h => by
    have h1 := h x List.mem_cons_self
    have h2 := sum_le (l := r) fun y hy => h y (List.mem_cons_of_mem _ hy)
    rw [List.sum_cons, List.length_cons]
    have : k * ((r.length + 1 : Nat) : Int) = k * (r.length : Int) + k := by rw [Int.natCast_add, Int.mul_add]; simp
    omega
theorem cts_len {p : Pl} (g : Good p) : ((cts p).length : Int) = p.1 := by
  have := g.b
  unfold cts
  rw [List.length_map, rng_len]
  omega
theorem ceil_le {t n k : Int} (hn : 0 < n) (h : t ≤ k * n) : (t + n - 1) / n ≤ k := by
  have : (t + n - 1) / n < k + 1 := Int.ediv_lt_of_lt_mul hn (by rw [Int.add_mul]; omega)
  omega
theorem least_le_mx {p : Pl} (g : Good p) : leastM p ≤ mx (cts p) := by
  have hb := g.b
  refine ceil_le hb.1 ?_
  have := sum_le (l := cts p) (k := mx (cts p)) fun x hx => le_mx hx
  rw [ct_sum g, cts_len g] at this
  exact this
theorem ct_le (p : Pl) (b : Int) : ct p b ≤ (p.2.length : Int) := by
  unfold ct
  have := List.length_filter_le (fun l => isOn p l b) p.2
  omega
theorem mx_le_len {p : Pl} (g : Good p) : mx (cts p) ≤ (p.2.length : Int) := by
  refine (mx_le (cts_ne g)).mpr fun y hy => ?_
  obtain ⟨b, _, _, rfl⟩ := mem_cts.mp hy
  exact ct_le p b
theorem ceil_neg {t n : Int} (hn : 0 < n) : (t + n - 1) / n = -((-t) / n) := by
  have h1 := Int.emod_add_mul_ediv (t + n - 1) n
  have h2 := Int.emod_nonneg (t + n - 1) (by omega : n ≠ 0)
  have h3 := Int.emod_lt_of_pos (t + n - 1) hn
  have k1 := Int.emod_add_mul_ediv (-t) n
  have k2 := Int.emod_nonneg (-t) (by omega : n ≠ 0)
  have k3 := Int.emod_lt_of_pos (-t) hn
  obtain ⟨a, ha⟩ : ∃ a, a = (t + n - 1) / n := ⟨_, rfl⟩
  obtain ⟨b, hb⟩ : ∃ b, b = (-t) / n := ⟨_, rfl⟩
  rw [← ha] at h1 ⊢
  rw [← hb] at k1 ⊢
  have e : n * (a + b) = n * a + n * b := Int.mul_add _ _ _
  have u1 : n * (a + b) < n * 1 := by omega
  have u2 : n * (-1) < n * (a + b) := by omega
  have v1 := Int.lt_of_mul_lt_mul_left u1 (by omega)
  have v2 := Int.lt_of_mul_lt_mul_left u2 (by omega)
  omega
theorem isOn_round {p : Pl} {l : Ln} (b k : Int) : isOn p l (b + k * p.1) = isOn p l b := by
  unfold isOn
  have : b + k * p.1 - l.2.2 = (b - l.2.2) + k * p.1 := by omega
  rw [this, Int.add_mul_emod_self_right]
theorem ct_round (p : Pl) (b k : Int) : ct p (b + k * p.1) = ct p b := by
  unfold ct
  rw [show (fun l => isOn p l (b + k * p.1)) = fun l => isOn p l b from funext fun l => isOn_round b k]
theorem ct_mod {p : Pl} (b : Int) : ct p (b % p.1) = ct p b := by
  have h := Int.emod_add_mul_ediv b p.1
  have := ct_round p (b % p.1) (b / p.1)
  rw [← this]
  congr 1
  rw [Int.mul_comm]; exact h
theorem ct_mem {p : Pl} (g : Good p) (b : Int) : ct p b ∈ cts p := by
  have hb := g.b
  rw [← ct_mod b]
  exact mem_cts.mpr ⟨_, Int.emod_nonneg _ (by omega), Int.emod_lt_of_pos _ hb.1, rfl⟩
theorem mx_of {p q : Pl} (g : Good p) (h : Good q) (a : ∀ b, ∃ c, ct p b ≤ ct q c) : mx (cts p) ≤ mx (cts q) := by
  refine (mx_le (cts_ne g)).mpr fun y hy => ?_
  obtain ⟨b, _, _, rfl⟩ := mem_cts.mp hy
  obtain ⟨c, hc⟩ := a b
  exact Int.le_trans hc (le_mx (ct_mem h c))
theorem mn_of {p q : Pl} (g : Good p) (h : Good q) (a : ∀ b, ∃ c, ct q c ≤ ct p b) : mn (cts q) ≤ mn (cts p) := by
  refine (le_mn (cts_ne g)).mpr fun y hy => ?_
  obtain ⟨b, _, _, rfl⟩ := mem_cts.mp hy
  obtain ⟨c, hc⟩ := a b
  exact Int.le_trans (mn_le (ct_mem h c)) hc
theorem filter_map_len {α : Type} (f : α → α) (c d : α → Bool) : ∀ ls : List α, (∀ l ∈ ls, c (f l) = d l) → ((ls.map f).filter c).length = (ls.filter d).length
  | [], _ => rfl
  | l :: r, h => by
    have ih := filter_map_len f c d r fun k hk => h k (List.mem_cons_of_mem _ hk)
    rw [List.map_cons, List.filter_cons, List.filter_cons, h l List.mem_cons_self]
    cases d l with
    | true => simp [ih]
    | false => simp [ih]
theorem ct_turned {p : Pl} (g : Good p) (k b : Int) : ct (turnedP p k) (b + k) = ct p b := by
  unfold ct
  rw [turnedP_eq]
  congr 1
  exact filter_map_len (turnedL p k) _ _ p.2 fun l hl => isOn_turned g.b.1 k b
theorem ct_against {p : Pl} (g : Good p) (b : Int) : ct (againstP p) b = (p.2.length : Int) - ct p b := by
  unfold ct
  have h := filter_map_len (againstL p) (fun l => isOn (againstP p) l b) (fun l => !isOn p l b) p.2 fun l hl => isOn_against g.b.1 (g.w l hl).1 (g.w l hl).2.1 b
  have e : (againstP p).2 = p.2.map (againstL p) := rfl
  rw [e, h]
  have : ∀ ls : List Ln, ((ls.filter fun l => !isOn p l b).length : Int) = (ls.length : Int) - ((ls.filter fun l => isOn p l b).length : Int) := by
    intro ls
    induction ls with
    | nil => rfl
    | cons l r ih =>
      rw [List.filter_cons, List.filter_cons]
      cases isOn p l b with
      | true => simp; omega
      | false => simp; omega
  exact this p.2
end PL

/-! # PL, part V: what is a plan -/
namespace PL
open PySem PySem.Spec PyProof.Rows L2 PySem.SeqAt PySem.W

theorem isi_of {x : PyData} {t T : String} {b : Bool} (h : tyN x = t) (hd : t ≠ "dict") (k : kitB t T = some b) : oIsi T x = some (.bool b) := by
  unfold oIsi
  rw [h, if_neg hd, k]
theorem isi_int (i : Int) : oIsi "int" (.int i) = some (.bool true) := isi_of (t := "int") rfl (by decide) (by decide +kernel : kitB "int" "int" = some true)
theorem isi_ib (i : Int) : oIsi "bool" (.int i) = some (.bool false) := isi_of (t := "int") rfl (by decide) (by decide +kernel : kitB "int" "bool" = some false)
theorem isi_tt (xs : List PyData) : oIsi "tuple" (.tuple xs) = some (.bool true) := isi_of (t := "tuple") rfl (by decide) (by decide +kernel : kitB "tuple" "tuple" = some true)
theorem isi_ss (x : Str) : oIsi "str" (.str x) = some (.bool true) := isi_of (t := "str") rfl (by decide) (by decide +kernel : kitB "str" "str" = some true)
theorem isi_tL (l : Ln) : oIsi "tuple" (dL l) = some (.bool true) := isi_tt _
theorem isi_tP (p : Pl) : oIsi "tuple" (dP p) = some (.bool true) := isi_tt _
theorem len_L (l : Ln) : oLen (dL l) = some (.int 3) := rfl
theorem len_P (p : Pl) : oLen (dP p) = some (.int 2) := rfl
theorem is_whole_eq {i lo hi : Int} (h1 : lo ≤ i) (h2 : i ≤ hi) : f_is_whole [.int i, .int lo, .int hi] = .ok (.bool true) := by
  refine runP_rt (S := []) ?_
  simp only [b_is_whole, isi_int, isi_ib, decide_eq_true h1, decide_eq_true h2, startE, rb_ok, rb_exc, rs_ok, rs_exc, s_seq, seq_nx, seq_rt, seq_bk, seq_ct, seq_exc, nxO_s, s_asg, s_par, s_par3, s_ret, s_expr, s_next, s_bk, s_ct, s_raise, s_if, ifS_t, ifS_f, ifS_exc, s_for, eVar, e_c, wOf_s, rOf_s, bOf_s, e_ix, asD_d, ob_s, om_s, e_d1, e_d2, e_dN, asDs_1, asDs_2, bvO_s, e_t, o1_s, o2_s, a_nil, a_cons, prO_ok, prO_exc, e_cp, e_cg, call_1, call_2, call_3, call_4, call_5, call_6, b_not, b_and, b_or, andB_t, andB_f, orB_t, orB_f, b_tr, truW_b, e_if, ifE_t, ifE_f, e_isN, e_notN, e_notV, notV_s, e_andV, andV_t, andV_f, e_ch, chO_t, chO_f, e_sl, o_no, o_yes, oiO_s, sl_t, sl_l, i_zip, zipI_t, zipI_l, add_ii, sub_ii, neg_i, lt_ii, le_ii, gt_ii, ge_ii, eq_ii, ne_ii, eq_ss, ne_ss, eq_bb, ne_bb, len_t, len_l, min_ii, max_ii, int_i, int_b, tup_l, tup_t, lst_l, lst_t, sum_ints, e_tup, e_lst, itO_s, i_any, itA_t, itA_l, i_r1, i_r2, bindT, bindTs, unpk_t, un_L, un_P, mkSq, allD, wipeE, LINE, List.map_cons, List.map_nil, List.length_cons, List.length_nil, List.replicate, List.cons_append, List.nil_append, Nat.sub_self, Nat.reduceSub, Nat.reduceAdd, List.getElem?_cons_zero, List.getElem?_cons_succ, List.set_cons_zero, List.set_cons_succ, reduceIte, Bool.false_eq_true, Bool.not_true, Bool.not_false, Nat.reduceLeDiff, if_true, if_false, decide_true, decide_false]
theorem len_letter (i : Nat) : oLen (.str (letter i)) = some (.int 1) := by
  show (if (letter i).length ≤ LINE then some (PyData.int ((letter i).length : Int)) else none) = _
  rw [if_pos (by show 1 ≤ 16777216; omega)]
  rfl
theorem in_lettersB : ∀ i : _root_.Fin 26, (!(Builtin.Str.occurrences ("abcdefghijklmnopqrstuvwxyz" : Str) (letter i.val) 0 ("abcdefghijklmnopqrstuvwxyz" : Str).length 1).isEmpty) = true := by decide +kernel
theorem in_letters (i : _root_.Fin 26) : oNotIn (.str (letter i.val)) (.str "abcdefghijklmnopqrstuvwxyz") = some (.bool false) := by
  show some (PyData.bool (!(!(Builtin.Str.occurrences ("abcdefghijklmnopqrstuvwxyz" : Str) (letter i.val) 0 ("abcdefghijklmnopqrstuvwxyz" : Str).length 1).isEmpty))) = _
  rw [in_lettersB i]; rfl
theorem is_line_eq {l : Ln} {n : Int} {i : Nat} (hi : i < 26) (e : l.1 = letter i) (h1 : 0 ≤ l.2.1) (h2 : l.2.1 ≤ n) (h3 : 0 ≤ l.2.2) (h4 : l.2.2 < n) : f_is_line [.int n, dL l] = .ok (.bool true) := by
  have hin := in_letters ⟨i, hi⟩
  have hle := len_letter i
  have d3 : decide ((3 : Int) = 3) = true := rfl
  have d1 : decide ((1 : Int) = 1) = true := rfl
  refine runP_rt (S := []) ?_
  rw [← e] at hin hle
  simp only [b_is_line, isi_tL, isi_ss, len_L, ix_L0, ix_L1, ix_L2, hle, hin, is_whole_eq h1 h2, is_whole_eq h3 (show l.2.2 ≤ n - 1 by omega), d3, d1, startE, rb_ok, rb_exc, rs_ok, rs_exc, s_seq, seq_nx, seq_rt, seq_bk, seq_ct, seq_exc, nxO_s, s_asg, s_par, s_par3, s_ret, s_expr, s_next, s_bk, s_ct, s_raise, s_if, ifS_t, ifS_f, ifS_exc, s_for, eVar, e_c, wOf_s, rOf_s, bOf_s, e_ix, asD_d, ob_s, om_s, e_d1, e_d2, e_dN, asDs_1, asDs_2, bvO_s, e_t, o1_s, o2_s, a_nil, a_cons, prO_ok, prO_exc, e_cp, e_cg, call_1, call_2, call_3, call_4, call_5, call_6, b_not, b_and, b_or, andB_t, andB_f, orB_t, orB_f, b_tr, truW_b, e_if, ifE_t, ifE_f, e_isN, e_notN, e_notV, notV_s, e_andV, andV_t, andV_f, e_ch, chO_t, chO_f, e_sl, o_no, o_yes, oiO_s, sl_t, sl_l, i_zip, zipI_t, zipI_l, add_ii, sub_ii, neg_i, lt_ii, le_ii, gt_ii, ge_ii, eq_ii, ne_ii, eq_ss, ne_ss, eq_bb, ne_bb, len_t, len_l, min_ii, max_ii, int_i, int_b, tup_l, tup_t, lst_l, lst_t, sum_ints, e_tup, e_lst, itO_s, i_any, itA_t, itA_l, i_r1, i_r2, bindT, bindTs, unpk_t, un_L, un_P, mkSq, allD, wipeE, LINE, List.map_cons, List.map_nil, List.length_cons, List.length_nil, List.replicate, List.cons_append, List.nil_append, Nat.sub_self, Nat.reduceSub, Nat.reduceAdd, List.getElem?_cons_zero, List.getElem?_cons_succ, List.set_cons_zero, List.set_cons_succ, reduceIte, Bool.false_eq_true, Bool.not_true, Bool.not_false, Nat.reduceLeDiff, if_true, if_false, decide_true, decide_false]
/-- names that are letters, one behind the other -/
def Lt (p : Pl) : Prop := ∃ b, b < 9 ∧ p.2.map (·.1) = (List.range p.2.length).map fun k => letter (b + 3 * k)
theorem Lt.nm {p : Pl} (h : Lt p) (h5 : p.2.length ≤ 5) : ∀ l ∈ p.2, ∃ i, i < 26 ∧ l.1 = letter i := fun l hl => by
  obtain ⟨b, hb, e⟩ := h
  have : l.1 ∈ p.2.map (·.1) := List.mem_map_of_mem hl
  rw [e] at this
  obtain ⟨k, hk, e2⟩ := List.mem_map.mp this
  have := List.mem_range.mp hk
  exact ⟨b + 3 * k, by omega, e2.symm⟩
theorem lt_letter {i j : Nat} (h : i < j) : oLt (.str (letter i)) (.str (letter j)) = some (.bool true) := by
  show some (PyData.bool (decide ((letter i).cps.toList < (letter j).cps.toList))) = _
  have : (letter i).cps.toList < (letter j).cps.toList := by
    show ([97 + i] : List Nat) < [97 + j]
    exact List.Lex.rel (by omega)
  rw [decide_eq_true this]
/-- zip(xs[:-1], xs[1:]) -/
theorem cut_m1 {α : Type} (xs : List α) (h : 1 ≤ xs.length) : cut xs none (some (-1)) = xs.take (xs.length - 1) := by
  unfold cut
  rw [HT.sIx_none]
  have : HT.sIx xs.length xs.length (some (-1)) = xs.length - 1 := by
    show (if (-1 : Int) < 0 then ((-1 : Int) + (xs.length : Int)).toNat else min (Int.toNat (-1)) xs.length) = _
    rw [if_pos (by decide)]; omega
  rw [this, List.drop_zero, Nat.sub_zero]
theorem cut_1 {α : Type} (xs : List α) (h : 1 ≤ xs.length) : cut xs (some 1) none = xs.drop 1 := cut_from xs 1 h
theorem zip_pairs : ∀ (ls : List Ln), zipW (((ls.map dL).take (ls.length - 1)).map .d) (((ls.map dL).drop 1).map .d) = (ls.zip (ls.drop 1)).map fun q => Wv.d (.tuple [dL q.1, dL q.2])
  | [] => rfl
  | [l] => rfl
  | l :: k :: r => by
    have ih := zip_pairs (k :: r)
    simp only [List.length_cons, Nat.add_sub_cancel, List.map_cons, List.take_succ_cons, List.drop_succ_cons, List.drop_zero, List.zip_cons_cons, zipW] at ih ⊢
    rw [ih]; rfl
theorem is_plan_eq {p : Pl} (g : Good p) (lt : Lt p) (h4 : 4 ≤ p.1) (h60 : p.1 ≤ 60) (n1 : 1 ≤ p.2.length) (n5 : p.2.length ≤ 5) : f_is_plan [dP p] = .ok (.bool true) := by
  have nm := lt.nm n5
  obtain ⟨N, hN2⟩ : ∃ N : Int, N = (p.2.length : Int) := ⟨_, rfl⟩
  have hN : oLen (.tuple (p.2.map dL)) = some (.int N) := by rw [len_t, List.length_map, hN2]
  have d2 : decide ((2 : Int) = 2) = true := rfl
  have dA : decide (1 ≤ N) = true := decide_eq_true (by omega)
  have dB : decide (N ≤ 6) = true := decide_eq_true (by omega)
  have hc1 := eComp_all (it := iAny (eIx (eVar 0) (eC (.int 1)))) (tg := .nm 1) (f := e1_is_plan) (vs := [1]) (ρ := [some (.d (dP p)), none, none]) (S := []) (xs := p.2) (fun l => .d (dL l)) (fun l => .bool true)
    (fun l => [some (.d (dP p)), some (.d (dL l)), none]) (by simp only [ix_P1, mapLd, startE, rb_ok, rb_exc, rs_ok, rs_exc, s_seq, seq_nx, seq_rt, seq_bk, seq_ct, seq_exc, nxO_s, s_asg, s_par, s_par3, s_ret, s_expr, s_next, s_bk, s_ct, s_raise, s_if, ifS_t, ifS_f, ifS_exc, s_for, eVar, e_c, wOf_s, rOf_s, bOf_s, e_ix, asD_d, ob_s, om_s, e_d1, e_d2, e_dN, asDs_1, asDs_2, bvO_s, e_t, o1_s, o2_s, a_nil, a_cons, prO_ok, prO_exc, e_cp, e_cg, call_1, call_2, call_3, call_4, call_5, call_6, b_not, b_and, b_or, andB_t, andB_f, orB_t, orB_f, b_tr, truW_b, e_if, ifE_t, ifE_f, e_isN, e_notN, e_notV, notV_s, e_andV, andV_t, andV_f, e_ch, chO_t, chO_f, e_sl, o_no, o_yes, oiO_s, sl_t, sl_l, i_zip, zipI_t, zipI_l, add_ii, sub_ii, neg_i, lt_ii, le_ii, gt_ii, ge_ii, eq_ii, ne_ii, eq_ss, ne_ss, eq_bb, ne_bb, len_t, len_l, min_ii, max_ii, int_i, int_b, tup_l, tup_t, lst_l, lst_t, sum_ints, e_tup, e_lst, itO_s, i_any, itA_t, itA_l, i_r1, i_r2, bindT, bindTs, unpk_t, un_L, un_P, mkSq, allD, wipeE, LINE, List.map_cons, List.map_nil, List.length_cons, List.length_nil, List.replicate, List.cons_append, List.nil_append, Nat.sub_self, Nat.reduceSub, Nat.reduceAdd, List.getElem?_cons_zero, List.getElem?_cons_succ, List.set_cons_zero, List.set_cons_succ, reduceIte, Bool.false_eq_true, Bool.not_true, Bool.not_false, Nat.reduceLeDiff, if_true, if_false, decide_true, decide_false]) (by unfold LINE; omega) (fun l hl => rfl)
    (fun l hl => by
      obtain ⟨i, hi, e⟩ := nm l hl
      have := g.w l hl
      simp only [e1_is_plan, ix_P0, is_line_eq hi e this.1 this.2.1 this.2.2.1 this.2.2.2, startE, rb_ok, rb_exc, rs_ok, rs_exc, s_seq, seq_nx, seq_rt, seq_bk, seq_ct, seq_exc, nxO_s, s_asg, s_par, s_par3, s_ret, s_expr, s_next, s_bk, s_ct, s_raise, s_if, ifS_t, ifS_f, ifS_exc, s_for, eVar, e_c, wOf_s, rOf_s, bOf_s, e_ix, asD_d, ob_s, om_s, e_d1, e_d2, e_dN, asDs_1, asDs_2, bvO_s, e_t, o1_s, o2_s, a_nil, a_cons, prO_ok, prO_exc, e_cp, e_cg, call_1, call_2, call_3, call_4, call_5, call_6, b_not, b_and, b_or, andB_t, andB_f, orB_t, orB_f, b_tr, truW_b, e_if, ifE_t, ifE_f, e_isN, e_notN, e_notV, notV_s, e_andV, andV_t, andV_f, e_ch, chO_t, chO_f, e_sl, o_no, o_yes, oiO_s, sl_t, sl_l, i_zip, zipI_t, zipI_l, add_ii, sub_ii, neg_i, lt_ii, le_ii, gt_ii, ge_ii, eq_ii, ne_ii, eq_ss, ne_ss, eq_bb, ne_bb, len_t, len_l, min_ii, max_ii, int_i, int_b, tup_l, tup_t, lst_l, lst_t, sum_ints, e_tup, e_lst, itO_s, i_any, itA_t, itA_l, i_r1, i_r2, bindT, bindTs, unpk_t, un_L, un_P, mkSq, allD, wipeE, LINE, List.map_cons, List.map_nil, List.length_cons, List.length_nil, List.replicate, List.cons_append, List.nil_append, Nat.sub_self, Nat.reduceSub, Nat.reduceAdd, List.getElem?_cons_zero, List.getElem?_cons_succ, List.set_cons_zero, List.set_cons_succ, reduceIte, Bool.false_eq_true, Bool.not_true, Bool.not_false, Nat.reduceLeDiff, if_true, if_false, decide_true, decide_false])
  have hm1 : p.2.map (fun _ => PyData.bool true) = (p.2.map fun _ => true).map .bool := by rw [List.map_map]; rfl
  have ha1 : (p.2.map fun _ => true).all id = true := by rw [List.all_eq_true]; intro x hx; obtain ⟨_, _, rfl⟩ := List.mem_map.mp hx; rfl
  have s1 : cut (p.2.map dL) none (some (-1)) = (p.2.map dL).take (p.2.length - 1) := by rw [cut_m1 _ (by rw [List.length_map]; exact n1), List.length_map]
  have s2 : cut (p.2.map dL) (some 1) none = (p.2.map dL).drop 1 := cut_1 _ (by rw [List.length_map]; exact n1)
  have hlt : ∀ q ∈ p.2.zip (p.2.drop 1), oLt (.str q.1.1) (.str q.2.1) = some (.bool true) := fun q hq => by
    obtain ⟨b, hb, e⟩ := lt
    obtain ⟨i, hi, hq2⟩ := List.getElem_of_mem hq
    rw [List.length_zip, List.length_drop] at hi
    have e1 : (p.2.map (·.1))[i]? = ((List.range p.2.length).map fun k => letter (b + 3 * k))[i]? := by rw [e]
    have e2 : (p.2.map (·.1))[i + 1]? = ((List.range p.2.length).map fun k => letter (b + 3 * k))[i + 1]? := by rw [e]
    rw [List.getElem?_map, List.getElem?_map, List.getElem?_range (by omega), List.getElem?_eq_getElem (by omega)] at e1 e2
    rw [List.getElem_zip, List.getElem_drop] at hq2
    have i1 := Option.some.inj e1
    have i2 := Option.some.inj e2
    have j1 : q.1.1 = letter (b + 3 * i) := by rw [← hq2]; exact i1
    have j2 : q.2.1 = letter (b + 3 * (i + 1)) := by
      rw [← hq2]
      have : (1 + i) = i + 1 := by omega
      simp only [this]
      exact i2
    rw [j1, j2]
    exact lt_letter (by omega)
  have hc2 := eComp_all (it := iZip (aCons (eSl (eIx (eVar 0) (eC (.int 1))) oNo (oYes (eD1 oNeg (eC (.int 1))))) (aCons (eSl (eIx (eVar 0) (eC (.int 1))) (oYes (eC (.int 1))) oNo) aNil))) (tg := .tp [(.nm 1), (.nm 2)]) (f := e2_is_plan) (vs := [1, 2]) (ρ := [some (.d (dP p)), none, none]) (S := []) (xs := p.2.zip (p.2.drop 1))
    (fun q => Wv.d (.tuple [dL q.1, dL q.2])) (fun q => .bool true) (fun q => [some (.d (dP p)), some (.d (dL q.1)), some (.d (dL q.2))]) (by simp only [ix_P1, s1, s2, zip_pairs, startE, rb_ok, rb_exc, rs_ok, rs_exc, s_seq, seq_nx, seq_rt, seq_bk, seq_ct, seq_exc, nxO_s, s_asg, s_par, s_par3, s_ret, s_expr, s_next, s_bk, s_ct, s_raise, s_if, ifS_t, ifS_f, ifS_exc, s_for, eVar, e_c, wOf_s, rOf_s, bOf_s, e_ix, asD_d, ob_s, om_s, e_d1, e_d2, e_dN, asDs_1, asDs_2, bvO_s, e_t, o1_s, o2_s, a_nil, a_cons, prO_ok, prO_exc, e_cp, e_cg, call_1, call_2, call_3, call_4, call_5, call_6, b_not, b_and, b_or, andB_t, andB_f, orB_t, orB_f, b_tr, truW_b, e_if, ifE_t, ifE_f, e_isN, e_notN, e_notV, notV_s, e_andV, andV_t, andV_f, e_ch, chO_t, chO_f, e_sl, o_no, o_yes, oiO_s, sl_t, sl_l, i_zip, zipI_t, zipI_l, add_ii, sub_ii, neg_i, lt_ii, le_ii, gt_ii, ge_ii, eq_ii, ne_ii, eq_ss, ne_ss, eq_bb, ne_bb, len_t, len_l, min_ii, max_ii, int_i, int_b, tup_l, tup_t, lst_l, lst_t, sum_ints, e_tup, e_lst, itO_s, i_any, itA_t, itA_l, i_r1, i_r2, bindT, bindTs, unpk_t, un_L, un_P, mkSq, allD, wipeE, LINE, List.map_cons, List.map_nil, List.length_cons, List.length_nil, List.replicate, List.cons_append, List.nil_append, Nat.sub_self, Nat.reduceSub, Nat.reduceAdd, List.getElem?_cons_zero, List.getElem?_cons_succ, List.set_cons_zero, List.set_cons_succ, reduceIte, Bool.false_eq_true, Bool.not_true, Bool.not_false, Nat.reduceLeDiff, if_true, if_false, decide_true, decide_false]) (by rw [List.length_zip]; unfold LINE; omega) (fun l hl => rfl)
    (fun q hq => by simp only [e2_is_plan, ix_L0, hlt q hq, startE, rb_ok, rb_exc, rs_ok, rs_exc, s_seq, seq_nx, seq_rt, seq_bk, seq_ct, seq_exc, nxO_s, s_asg, s_par, s_par3, s_ret, s_expr, s_next, s_bk, s_ct, s_raise, s_if, ifS_t, ifS_f, ifS_exc, s_for, eVar, e_c, wOf_s, rOf_s, bOf_s, e_ix, asD_d, ob_s, om_s, e_d1, e_d2, e_dN, asDs_1, asDs_2, bvO_s, e_t, o1_s, o2_s, a_nil, a_cons, prO_ok, prO_exc, e_cp, e_cg, call_1, call_2, call_3, call_4, call_5, call_6, b_not, b_and, b_or, andB_t, andB_f, orB_t, orB_f, b_tr, truW_b, e_if, ifE_t, ifE_f, e_isN, e_notN, e_notV, notV_s, e_andV, andV_t, andV_f, e_ch, chO_t, chO_f, e_sl, o_no, o_yes, oiO_s, sl_t, sl_l, i_zip, zipI_t, zipI_l, add_ii, sub_ii, neg_i, lt_ii, le_ii, gt_ii, ge_ii, eq_ii, ne_ii, eq_ss, ne_ss, eq_bb, ne_bb, len_t, len_l, min_ii, max_ii, int_i, int_b, tup_l, tup_t, lst_l, lst_t, sum_ints, e_tup, e_lst, itO_s, i_any, itA_t, itA_l, i_r1, i_r2, bindT, bindTs, unpk_t, un_L, un_P, mkSq, allD, wipeE, LINE, List.map_cons, List.map_nil, List.length_cons, List.length_nil, List.replicate, List.cons_append, List.nil_append, Nat.sub_self, Nat.reduceSub, Nat.reduceAdd, List.getElem?_cons_zero, List.getElem?_cons_succ, List.set_cons_zero, List.set_cons_succ, reduceIte, Bool.false_eq_true, Bool.not_true, Bool.not_false, Nat.reduceLeDiff, if_true, if_false, decide_true, decide_false])
  have hm2 : (p.2.zip (p.2.drop 1)).map (fun _ => PyData.bool true) = ((p.2.zip (p.2.drop 1)).map fun _ => true).map .bool := by rw [List.map_map]; rfl
  have ha2 : ((p.2.zip (p.2.drop 1)).map fun _ => true).all id = true := by rw [List.all_eq_true]; intro x hx; obtain ⟨_, _, rfl⟩ := List.mem_map.mp hx; rfl
  refine runP_rt (S := []) ?_
  simp only [b_is_plan, isi_tP, len_P, d2, ix_P0, ix_P1, is_whole_eq h4 h60, isi_tt, hN, dA, dB, hc1, hm1, all_bls, ha1, hc2, hm2, ha2, startE, rb_ok, rb_exc, rs_ok, rs_exc, s_seq, seq_nx, seq_rt, seq_bk, seq_ct, seq_exc, nxO_s, s_asg, s_par, s_par3, s_ret, s_expr, s_next, s_bk, s_ct, s_raise, s_if, ifS_t, ifS_f, ifS_exc, s_for, eVar, e_c, wOf_s, rOf_s, bOf_s, e_ix, asD_d, ob_s, om_s, e_d1, e_d2, e_dN, asDs_1, asDs_2, bvO_s, e_t, o1_s, o2_s, a_nil, a_cons, prO_ok, prO_exc, e_cp, e_cg, call_1, call_2, call_3, call_4, call_5, call_6, b_not, b_and, b_or, andB_t, andB_f, orB_t, orB_f, b_tr, truW_b, e_if, ifE_t, ifE_f, e_isN, e_notN, e_notV, notV_s, e_andV, andV_t, andV_f, e_ch, chO_t, chO_f, e_sl, o_no, o_yes, oiO_s, sl_t, sl_l, i_zip, zipI_t, zipI_l, add_ii, sub_ii, neg_i, lt_ii, le_ii, gt_ii, ge_ii, eq_ii, ne_ii, eq_ss, ne_ss, eq_bb, ne_bb, len_t, len_l, min_ii, max_ii, int_i, int_b, tup_l, tup_t, lst_l, lst_t, sum_ints, e_tup, e_lst, itO_s, i_any, itA_t, itA_l, i_r1, i_r2, bindT, bindTs, unpk_t, un_L, un_P, mkSq, allD, wipeE, LINE, List.map_cons, List.map_nil, List.length_cons, List.length_nil, List.replicate, List.cons_append, List.nil_append, Nat.sub_self, Nat.reduceSub, Nat.reduceAdd, List.getElem?_cons_zero, List.getElem?_cons_succ, List.set_cons_zero, List.set_cons_succ, reduceIte, Bool.false_eq_true, Bool.not_true, Bool.not_false, Nat.reduceLeDiff, if_true, if_false, decide_true, decide_false]
end PL

/-! # PL, part X: list.count -/
namespace PL
open PySem PySem.Spec PyProof.Rows L2 PySem.SeqAt
def cntB (ds : List PyData) (d : PyData) : Bool := PyData.plainAll ds && d.plain && decide (PyData.depthAll ds ≤ 60)
def cntW (ds : List PyData) (ws : List Wv) (S : Store) : Res Wv := match ws with
  | [.d d] => if cntB ds d = true then .ok (.d (.int ((ds.countP fun y => PyData.eqv y d : Nat) : Int))) S else .bad
  | _ => .bad
def eCnt (f : Ef) (g : Lf) : Ef := fun ρ S => (f ρ S).bind fun x S1 => match x with
  | .d (.list ds) => (g ρ S1).bind fun ws S2 => cntW ds ws S2
  | _ => .bad
section
variable {X : Cx} {ct : Str → Addr} {ex : WX} {e o : Expr} {es : List Expr} {f g : Ef} {fl : Lf} {p pos apos : Pos}
theorem mt_countD (hu : X.A.units + 65 < cLine) : MtR X "list.count" (fun x xs H Q => ∃ (a : Addr) (v : V) (vs : List V) (ds : List PyData) (d : PyData), x = .ref a ∧ xs = [v] ∧ SqL X.K H a vs ∧ DpAll X.K H vs ds ∧ Dp X.K H v d ∧ cntB ds d = true ∧ Q (.int ((ds.countP fun y => PyData.eqv y d : Nat) : Int)) H) := by
  intro pins s σ H x xs v us Q I rx rs h
  obtain ⟨a, w, vs, ds, d, rfl, rfl, hs, hds, hd, hc, q⟩ := h
  unfold cntB at hc
  simp only [Bool.and_eq_true, decide_eq_true_eq] at hc
  obtain ⟨its, rv, hl, _⟩ := I.list hs
  obtain ⟨u, rfl, ru⟩ := rs.one
  cases (show v = Value.ref a from rx)
  obtain ⟨as, hr⟩ := Dp.readsAll I _ _ _ hds rv
  obtain ⟨bs, hrd⟩ := Dp.reads I _ _ _ hd ru
  exact count_list_data (vs := its.toArray) hl.isList hr hrd hc.1.1 hc.1.2 (by omega) ⟨.int _, H, I.tok _, ⟨_, rfl⟩, q⟩
theorem ee_cnt (hu : X.A.units + 65 < cLine) (ho : PE X o (tE (CC X ct ex) f)) (ha : PA X [e] (tL (CC X ct ex) fl)) (hbase : attributeBase o "count" X.env (eval o X.env) = eval o X.env := by rfl)
    (hfew : ((backTo pos (starEach [e] X.env)).all (fun x => !x.1) && (backToKw pos (keywordEach [] X.env)).all (fun x => x.1.isSome)
      && decide (([e] : List Expr).length + ([] : List Keyword).length + (if ([] : List Keyword).isEmpty then 0 else 1) < 30)) = true := by rfl)
    (hline : (apos.endLine == pos.line) = true := by rfl) (hs : starEach [e] X.env = (false, eval e X.env) :: starEach [] X.env := by rfl) (hplain : (backTo pos (starEach [] X.env)).any (·.1) = false := by rfl) :
    PE X (.Call (.Attribute o "count" apos) [e] [] pos) (tE (CC X ct ex) (eCnt f fl)) := by
  refine PE.imp (pe_bm PySem.F.plainAttrs_list PySem.F.slot_list_count PySem.F.type_list_count (mt_countD hu) ho ha hbase hfew hline hs hplain) fun σ H Q ⟨W, ρ, S, k, p⟩ => ?_
  refine tE_E k p fun v x W1 S1 H1 k1 r1 p1 => ?_
  cases r1 with
  | d q =>
    cases q with
    | @lst a vs ds hsq hall =>
      refine ⟨.inl ⟨rfl, _, (mask_same _ _).seq hsq⟩, W1, ρ, S1, k1, ?_⟩
      have p1' : PostR (CC X ct ex) W1 σ H1 ((fl ρ S1).bind fun ws S2 => cntW ds ws S2) Q := p1
      cases e2 : fl ρ S1 with
      | exc c S2 => rw [e2] at p1'; exact p1'
      | bad => rw [e2] at p1'; exact p1'
      | ok ws S2 =>
        rw [e2] at p1'
        intro us W2 H2 l2 st2 r2
        have p2 : PostR (CC X ct ex) W1 σ H1 (cntW ds ws S2) Q := p1'
        unfold cntW at p2
        cases r2 with
        | nil => exact p2.elim
        | @cons u1 us' w ws' rw' rs =>
          cases rs with
          | cons _ _ => cases w <;> exact p2.elim
          | nil =>
            cases rw' with
            | @d _ d qd =>
              dsimp only at p2
              by_cases hc : cntB ds d = true
              · rw [if_pos hc] at p2
                have hm := l2.msame
                exact ⟨a, u1, vs, ds, d, rfl, rfl, (mask_same _ _).seq (hm.seq hsq), DpAll.same (mask_same _ _) _ _ (DpAll.same hm _ _ hall), Dp.same (mask_same _ _) _ _ qd, hc, p2 _ W2 H2 l2 st2 (.d (.int _))⟩
              · rw [if_neg hc] at p2; exact p2.elim
            | _ => exact p2.elim
    | _ => exact p1.elim
  | _ => exact p1.elim
end
end PL

/-! # PL, part Y: sorted of one list of data -/
namespace PL
open PySem PySem.Spec PyProof.Rows L2 PySem.SeqAt PySem.W
def isTup1 : PyData → Bool
  | .tuple (_ :: _) => true
  | _ => false
def flatB : PyData → Bool
  | .none => false
  | .tuple _ => false
  | _ => true
def sortB (ds : List PyData) : Bool := ds.all (fun x => ds.all fun y => alike x y) && (ds.all isTup1 || ds.all flatB) && decide (PyData.depthAll ds ≤ 60) && decide (ds.length ≤ LINE)
def srt (ds : List PyData) : List PyData := ds.mergeSort (dataLe false fun d => d)
def oSorted1 : PyData → Option PyData
  | .list ds => if sortB ds = true then some (.list (srt ds)) else none
  | _ => none
theorem dep_mem : ∀ {ds : List PyData} {d : PyData}, d ∈ ds → d.depth ≤ PyData.depthAll ds
  | x :: r, d, h => by
    show _ ≤ max (PyData.depth x) (PyData.depthAll r)
    rcases List.mem_cons.mp h with rfl | h
    · omega
    · have := dep_mem h; omega
theorem sortB_of {ds : List PyData} (h : sortB ds = true) : AllAlike ds ∧ Sortable ds ∧ PyData.depthAll ds ≤ 60 ∧ ds.length ≤ LINE := by
  unfold sortB at h
  simp only [Bool.and_eq_true, Bool.or_eq_true, List.all_eq_true, decide_eq_true_eq] at h
  obtain ⟨⟨⟨h1, h2⟩, h3⟩, h4⟩ := h
  refine ⟨fun x hx y hy => h1 x hx y hy, ?_, h3, h4⟩
  rcases h2 with h2 | h2
  · refine .inl fun d hd => ?_
    have := h2 d hd
    cases d with
    | tuple xs => cases xs with
      | nil => cases this
      | cons x r => exact ⟨x, r, rfl⟩
    | _ => cases this
  · refine .inr fun d hd => ⟨fun e => ?_, fun xs e => ?_⟩
    · have := h2 d hd
      rw [e] at this; cases this
    · have := h2 d hd
      rw [e] at this; cases this
def RVD (K : PySem.W.Frag) (G : Hp) (u : Value) (d : PyData) : Prop := ∃ v, RelV v u ∧ Dp K G v d
theorem each_of {K : PySem.W.Frag} {G : Hp} : ∀ {xs : List V} {us : List Value} {ds : List PyData}, Vals xs us → DpAll K G xs ds → EachIs (RVD K G) us ds
  | _, _, _, .nil, .nil => .nil
  | _, _, _, .cons r t, .cons q w => .cons ⟨_, r, q⟩ (each_of t w)
theorem each_back {K : PySem.W.Frag} {G : Hp} : ∀ {us : List Value} {ds : List PyData}, EachIs (RVD K G) us ds → ∃ xs : List V, Vals xs us ∧ DpAll K G xs ds
  | _, _, .nil => ⟨[], .nil, .nil⟩
  | _, _, .cons ⟨v, r, q⟩ t => by
    obtain ⟨xs, h1, h2⟩ := each_back t
    exact ⟨v :: xs, .cons r h1, .cons q h2⟩
def rSortD (K : PySem.W.Frag) : List V → Hp → VK → Prop := fun vs H Q => ∃ (a : Addr) (xs : List V) (ds : List PyData) (G : Hp), vs = [.ref a] ∧ SqL K H a xs ∧ DpAll K H xs ds ∧ DpAll K G xs ds ∧ sortB ds = true ∧
  ∀ (ys : List V) (p : Addr), DpAll K G ys (srt ds) → H p = none → Q (.ref p) (upd H p (.lst ys))
section
variable {X : Cx} {ct : Str → Addr} {ex : WX} {e o : Expr} {es : List Expr} {f g : Ef} {fl : Lf} {p pos apos : Pos}
theorem cr_sortD (hu : X.A.units + 65 < cLine) : CallR X (.builtin "sorted") (rSortD X.K) := by
  intro pins s σ H vs us Q I r h
  obtain ⟨a, xs, ds, G, rfl, hs, hd, hg, hb, q⟩ := h
  obtain ⟨h1, h2, h3, h4⟩ := sortB_of hb
  obtain ⟨its, rv, hl, _⟩ := I.list hs
  rw [Vals.ref1 r]
  have hr : EachIs (fun v b => ∃ as, Reads s.heap v b as) its ds := by
    have : ∀ {xs : List V} {us : List Value} {ds : List PyData}, Vals xs us → DpAll X.K H xs ds → EachIs (fun v b => ∃ as, Reads s.heap v b as) us ds := by
      intro xs us ds hv hd
      induction hv generalizing ds with
      | nil => cases hd; exact .nil
      | cons r t ih => cases hd with
        | cons q w => exact .cons (Dp.reads I _ _ _ q r) (ih w)
    exact this rv hd
  have hm : ds.map (fun d => d) = ds := by simp
  refine sorted_data (vs := its) (bs := ds) (enc := fun d => d) (R := RVD X.K G) hl.isList (each_of rv hg) hr (by rw [hm]; exact h1) (by rw [hm]; exact h2) (by rw [line_eq]; exact h4) (fun d hd => by have := dep_mem hd; omega) fun out ho he => ?_
  obtain ⟨ys, hy1, hy2⟩ := each_back he
  obtain ⟨ep, he'⟩ := PyProof.Rows.sortedAll_at s.heap its (List.toArray out)
  have hlen : ys.length ≤ sizeLine := by rw [hy1.length, ho, line_eq]; exact h4
  exact ⟨.ref _, upd H (s.heap.objs.size + 1) (.lst ys), I.laid (t' := s.toks) (fun _ _ => PyProof.Rows.sortedAll_old) (Nat.le_succ _) ⟨hlen, out, ep, hy1, he'⟩, rfl, q ys _ hy2 (I.hok.fresh (Nat.le_succ _))⟩
theorem ok_sort1 : OpN (CC X ct ex) (rSortD X.K) (o1 oSorted1) := opN_one fun W S H v x y Q st hx e q => by
  cases x with
  | list ds =>
    have e' : (if sortB ds = true then some (PyData.list (srt ds)) else none) = some y := e
    by_cases hc : sortB ds = true
    · rw [if_pos hc] at e'
      cases e'
      obtain ⟨a, vs, rfl, hs, ha⟩ := hx
      exact ⟨a, vs, ds, mask W.Z H, rfl, hs, DpAll.same (mask_same _ _) _ _ ha, ha, hc, fun ys p hy hp => q.lst st hy hp⟩
    · rw [if_neg hc] at e'; cases e'
  | _ => cases e
theorem ee_sorted1 (hm : X.mg "sorted" = none) (hu : X.A.units + 65 < cLine) (ha : PA X (e :: es) (tL (CC X ct ex) fl)) (hg : Gl X "sorted" := by rfl) (he : starEach (e :: es) X.env = (false, eval e X.env) :: starEach es X.env := by rfl) (hpl : (backTo pos (starEach es X.env)).any (·.1) = false := by rfl) :
    PE X (.Call (.Name "sorted" p) (e :: es) [] pos) (tE (CC X ct ex) (eDN (o1 oSorted1) fl)) := ee_callB (cr_sortD hu) ok_sort1 hm (by decide +kernel) ha hg (by decide) (by decide) he hpl
end
end PL

/-! # PL, part Z: a tuple so many times -/
namespace PL
open PySem PySem.Spec PyProof.Rows L2
def timesD (xs : List PyData) (k : Int) : List PyData := (List.replicate k.toNat xs).flatten
def oMulT : PyData → PyData → Option PyData := fun x y => match x with
  | .tuple xs => match y with
    | .int k => if xs.isEmpty = false ∧ 2 ≤ k ∧ k ≤ 1000 ∧ xs.length ≤ 1000 then some (.tuple (timesD xs k)) else none
    | _ => none
  | .int _ => oMul x y
  | _ => none
def rMulT (K : PySem.W.Frag) : R2 := fun x y H Q => rI CMul (fun i j => .int (i * j)) x y H Q ∨ rRepT K x y H Q
theorem DpAll.times {K : PySem.W.Frag} {H : Hp} {vs : List V} {ds : List PyData} (h : DpAll K H vs ds) : ∀ n : Nat, DpAll K H (List.replicate n vs).flatten (List.replicate n ds).flatten
  | 0 => .nil
  | n + 1 => by
    rw [List.replicate_succ, List.replicate_succ, List.flatten_cons, List.flatten_cons]
    exact DpAll.append h (DpAll.times h n)
section
variable {X : Cx} {ct : Str → Addr} {ex : WX}
theorem op_mulT : OpR X (binaryOp .Mult) (rMulT X.K) := op_mul.or op_repT
theorem ok_mulT : Op2 (CC X ct ex) (rMulT X.K) oMulT := by
  intro W S H u v x y z Q st hx hy e q
  cases x with
  | int i => exact .inl (ok_mul (X := X) (ct := ct) (ex := ex) W S H u v (.int i) y z Q st hx hy e q)
  | tuple xs =>
    cases y with
    | int k =>
      have e' : (if xs.isEmpty = false ∧ 2 ≤ k ∧ k ≤ 1000 ∧ xs.length ≤ 1000 then some (PyData.tuple (timesD xs k)) else none) = some z := e
      by_cases hc : xs.isEmpty = false ∧ 2 ≤ k ∧ k ≤ 1000 ∧ xs.length ≤ 1000
      · rw [if_pos hc] at e'
        cases e'
        cases hy
        cases hx with
        | @tup a vs ds hs ha =>
          have hl := DpAll.length ha
          refine .inr ⟨a, k, vs, rfl, rfl, Same.seqT (mask_same _ _) hs, ?_, hc.2.1, hc.2.2.1, by omega, fun p hp => q.tup st (DpAll.times ha k.toNat) hp⟩
          intro h0
          rw [h0] at hl
          cases xs with
          | nil => exact Bool.noConfusion hc.1
          | cons _ _ => cases hl
      · rw [if_neg hc] at e'; cases e'
    | _ => cases e
  | _ => cases e
end
end PL

/-! # PL, part Q: list.extend by any list of data -/
namespace PL
open PySem PySem.Spec PyProof.Rows L2
theorem ext_plain (a : Addr) (xs : Array Value) (m : Nat) (c : Addr) (ys : Array Value) (k : Nat) (dy : Option Addr) (sy : Array (Option Value)) (kz : xs.size + ys.size ≤ sizeLine) (ky : ys.size ≤ sizeLine) :
    Meets (Builtin.«list.extend» ⟨[.ref a, .ref c], []⟩) (fun _ R s => s.heap.get? a = some ⟨.type "list", none, .seq xs m, #[]⟩ ∧ s.heap.get? c = some ⟨.type "list", dy, .seq ys k, sy⟩ ∧ R (.ok (.ret .none)) { s with heap := s.heap.update a (Obj.mapSeq fun z => z ++ ys), toks := s.toks }) := by
  refine .of_wp fun prog w A R s q => ?_
  obtain ⟨h0, g0, d0, t0, o0⟩ := s
  obtain ⟨qa, qc, q⟩ := q
  have e1 := AutoSeq1.sub_tuple_tuple
  have e2 := AutoSeq1.sub_list_list
  have e3 := AutoSeq1.sub_tuple_list
  have e4 := AutoSeq1.sub_list_tuple
  have nl : ¬ (!xs.isEmpty && Builtin.List.listTooLong (xs.size + ys.size)) = true := by
    unfold Builtin.List.listTooLong
    rw [decide_eq_false (by omega), Bool.and_false]
    exact Bool.false_ne_true
  have ks : xs.size ≤ sizeLine := by omega
  have kk : (xs ++ ys).size ≤ sizeLine + 1 := by rw [Array.size_append]; omega
  wp_walk using (wpAny_updateSeq qa rfl (hz := ks) (_hz' := kk)), AutoSeq1.wpAny_loadPart' qa, AutoSeq1.wpAny_loadPart' qc
  exact ⟨_, rfl, q⟩
section
variable {X : Cx} {ct : Str → Addr} {ex : WX} {e o : Expr} {es : List Expr} {f g : Ef} {fl : Lf} {p pos apos : Pos}
def rExtA (K : PySem.W.Frag) : V → List V → Hp → VK → Prop := fun x vs H Q => ∃ (a c : Addr) (xs zs : List V), x = .ref a ∧ vs = [.ref c] ∧ H a = some (.lst xs) ∧ SqL K H c zs ∧ xs.length + zs.length ≤ sizeLine ∧ Q .non (upd H a (.lst (xs ++ zs)))
theorem mt_extA : MtM X "list.extend" (rExtA X.K) := by
  intro pins s σ H x vs v us Q I rx rv h
  obtain ⟨a, c, xs, zs, rfl, rfl, hH, hB, hz, q⟩ := h
  cases rx
  obtain ⟨u, rfl, ru⟩ := rv.one
  cases ru
  obtain ⟨z, its, n, r, hl, e⟩ := I.lstM hH
  obtain ⟨its2, r2, ⟨ob, k, e2, oc, od, da⟩, hl2⟩ := I.list hB
  obtain ⟨oc', od', da', sl⟩ := ob
  cases oc
  cases od
  cases da
  have l1 := r.length
  have l2 := r2.length
  refine call_meets PySem.F.slot_list_extend ⟨_, e, rfl⟩ PySem.F.entry_list_extend (PySem.F.args_list_extend_2 _ _)
    (ext_plain a its.toArray n c its2.toArray k none sl (by rw [List.size_toArray, List.size_toArray]; omega) (by rw [List.size_toArray]; omega)) ⟨e, e2, ?_⟩
  exact ⟨.non, _, I.lset (its' := its ++ its2) hH e (by simp) (r.append r2) (by rw [List.length_append]; omega), rfl, q⟩
def extW (x : Wv) (ws : List Wv) (S : Store) : Res Wv := match ws with
  | [w] => match itL w with
    | some m => match lstAt S x with
      | some (k, l) => if l.length + m.length ≤ LINE then .ok (.d .none) (S.set k (.lst (l ++ m))) else .bad
      | none => .bad
    | none => .bad
  | _ => .bad
def eExt (f : Ef) (g : Lf) : Ef := fun ρ S => (f ρ S).bind fun x S1 => match lstAt S1 x with
  | none => .bad
  | some _ => (g ρ S1).bind fun ws S2 => extW x ws S2
theorem ee_ext (ho : PE X o (tE (CC X ct ex) f)) (ha : PA X [e] (tL (CC X ct ex) fl)) (hbase : attributeBase o "extend" X.env (eval o X.env) = eval o X.env := by rfl)
    (hfew : ((backTo pos (starEach [e] X.env)).all (fun x => !x.1) && (backToKw pos (keywordEach [] X.env)).all (fun x => x.1.isSome)
      && decide (([e] : List Expr).length + ([] : List Keyword).length + (if ([] : List Keyword).isEmpty then 0 else 1) < 30)) = true := by rfl)
    (hline : (apos.endLine == pos.line) = true := by rfl) (hs : starEach [e] X.env = (false, eval e X.env) :: starEach [] X.env := by rfl) (hplain : (backTo pos (starEach [] X.env)).any (·.1) = false := by rfl) :
    PE X (.Call (.Attribute o "extend" apos) [e] [] pos) (tE (CC X ct ex) (eExt f fl)) := by
  refine PE.imp (pe_bm PySem.F.plainAttrs_list PySem.F.slot_list_extend PySem.F.type_list_extend mt_extA ho ha hbase hfew hline hs hplain) fun σ H Q ⟨W, ρ, S, k, p⟩ => ?_
  refine tE_E k p fun v x W1 S1 H1 k1 r1 p1 => ?_
  cases e1 : lstAt S1 x with
  | none => rw [e1] at p1; exact p1.elim
  | some kl =>
    rw [e1] at p1
    dsimp only at p1
    obtain ⟨a, vs, rfl, h1, h2, h3, h4⟩ := lstAt_at k1.st r1 (k := kl.1) (l := kl.2) e1
    refine ⟨.inl ⟨rfl, _, SqL.of h3⟩, W1, ρ, S1, k1, ?_⟩
    cases e2 : fl ρ S1 with
    | exc c S2 => rw [e2] at p1; exact p1
    | bad => rw [e2] at p1; exact p1
    | ok ws S2 =>
      rw [e2] at p1
      intro us W2 H2 l2 st2 r2
      have p2 : PostR (CC X ct ex) W1 σ H1 (extW x ws S2) Q := p1
      unfold extW at p2
      cases r2 with
      | nil => exact p2.elim
      | @cons u1 us' w ws' rw' rs =>
        cases rs with
        | cons _ _ => exact p2.elim
        | nil =>
          dsimp only at p2
          cases e5 : itL w with
          | none => rw [e5] at p2; exact p2.elim
          | some m =>
            rw [e5] at p2
            dsimp only at p2
            obtain ⟨c, ms, rfl, hsq, hms⟩ := itL_of rw' e5
            cases e3 : lstAt S2 x with
            | none => rw [e3] at p2; exact p2.elim
            | some kl2 =>
              obtain ⟨k2, l⟩ := kl2
              rw [e3] at p2
              dsimp only at p2
              obtain ⟨b, ys, eb, g1, g2, g3, g4⟩ := lstAt_at st2 (RW.le l2 _ _ r1) e3
              cases eb
              by_cases hz : l.length + m.length ≤ LINE
              · rw [if_pos hz] at p2
                refine ⟨_, _, _, _, rfl, rfl, g3, (mask_same _ _).seq hsq, by rw [g4.length, hms.length, line_eq]; exact hz, ?_⟩
                obtain ⟨st3, l3⟩ := st2.put (u' := .lst (ys ++ ms)) (o' := .lst (l ++ m)) g1 g2 (by intro z; cases z) (RWs.append g4 hms)
                exact p2 _ W2 _ (l2.trans l3) st3 (.d .non)
              · rw [if_neg hz] at p2; exact p2.elim
end
end PL

/-! # PL, part 1: try .. except -/
namespace PL
open PySem PySem.Spec PyProof.Rows L2
/-- an own class below another one -/
def excSub (c h : Str) : Bool := c == h || h == ("PulseError" : Str)
def hRun (c : Str) : List (Str × Sf) → Sf
  | [] => fun ρ S => .exc c ρ S
  | (h, g) :: r => fun ρ S => if excSub c h = true then (match g ρ S with
      | .exc _ _ _ => .bad
      | x => x) else hRun c r ρ S
def sTry (cs : List Str) (body : Sf) (hs : List (Str × Sf)) : Sf := fun ρ S => match body ρ S with
  | .exc c ρ' S' => if c ∈ cs then hRun c hs ρ' S' else .bad
  | .nx ρ' S' => .nx ρ' S'
  | .rt w S' => .rt w S'
  | .bk ρ' S' => .bk ρ' S'
  | .ct ρ' S' => .ct ρ' S'
  | .bad => .bad
def ExmOk (K : PySem.W.Frag) (mg : Str → Option Value) (c h : Str) : Prop := PySem.W.exmOne K (.ref (ctOf mg c)) (.ref (ctOf mg h)) = some (excSub c h)
section
variable {X : Cx} {ex : WX}
theorem Ok.cx {K : PySem.W.Frag} {ct : Str → Addr} {ex ex' : WX} {W : Wd} {ρ : En} {S : Store} {σ : L2.St} {H : Hp} (k : Ok ⟨K, ct, ex⟩ W ρ S σ H) : Ok ⟨K, ct, ex'⟩ W ρ S σ H := ⟨k.st.cx, k.len, k.env⟩
def hdsL (K : PySem.W.Frag) (ct : Str → Addr) (hs : List (Str × Sf)) : List (Value × (Addr → Value → Option Addr → TS)) := hs.map fun q => (.ref (ct q.1), fun _ _ _ => tS ⟨K, ct, exF⟩ q.2)
theorem many_of {K : PySem.W.Frag} {mg : Str → Option Value} {D : Ends} {W : Wd} {ρ : En} {S : Store} {σ : L2.St} {H : Hp} {c : Str} (k : Ok ⟨K, ctOf mg, ex⟩ W ρ S σ H) : ∀ hs : List (Str × Sf), (∀ q ∈ hs, ExmOk K mg c q.1) → PostS ⟨K, ctOf mg, ex⟩ W H (hRun c hs ρ S) D →
    wMany K ex D (hdsL K (ctOf mg) hs) (.ref (ctOf mg c)) none σ H
  | [], _, p => p W σ H (Le.refl _ _) k
  | (h, g) :: r, f, p => by
    have f0 : ExmOk K mg c h := f (h, g) List.mem_cons_self
    refine ⟨excSub c h, f0, fun hb a _ => ?_, fun hb => ?_⟩
    · refine ⟨W, ρ, S, k.cx, ?_⟩
      unfold hRun at p
      rw [if_pos hb] at p
      show PostS _ W H (g ρ S) D
      cases e : g ρ S with
      | nx ρ' S' => rw [e] at p; exact fun W' σ' H' l k' => p W' σ' H' l k'.cx
      | rt w S' => rw [e] at p; exact fun v W' H' l st r => p v W' H' l st.cx r
      | bk ρ' S' => rw [e] at p; exact fun W' σ' H' l k' => p W' σ' H' l k'.cx
      | ct ρ' S' => rw [e] at p; exact fun W' σ' H' l k' => p W' σ' H' l k'.cx
      | exc c ρ' S' => rw [e] at p; exact p.elim
      | bad => rw [e] at p; exact p.elim
    · unfold hRun at p
      rw [hb, if_neg Bool.false_ne_true] at p
      exact many_of k r (fun q hq => f q (List.mem_cons_of_mem _ hq)) p
theorem try_read {cs : List Str} {b : Sf} {hs : List (Str × Sf)} {mg : Str → Option Value} (f : ∀ c ∈ cs, ∀ q ∈ hs, ExmOk X.K mg c q.1) {D : Ends} {σ : L2.St} {H : Hp} (q : tS (CC X (ctOf mg) ex) (sTry cs b hs) D σ H) :
    tS ⟨X.K, ctOf mg, wMany X.K ex D (hdsL X.K (ctOf mg) hs)⟩ b D σ H := by
  obtain ⟨W, ρ, S, k, p⟩ := q
  refine ⟨W, ρ, S, k.cx, ?_⟩
  unfold sTry at p
  cases e : b ρ S with
  | nx ρ' S' => rw [e] at p; exact fun W' σ' H' l k' => p W' σ' H' l k'.cx
  | rt w S' => rw [e] at p; exact fun v W' H' l st r => p v W' H' l st.cx r
  | bk ρ' S' => rw [e] at p; exact fun W' σ' H' l k' => p W' σ' H' l k'.cx
  | ct ρ' S' => rw [e] at p; exact fun W' σ' H' l k' => p W' σ' H' l k'.cx
  | bad => rw [e] at p; exact p.elim
  | exc c ρ' S' =>
    rw [e] at p
    dsimp only at p
    by_cases hc : c ∈ cs
    · rw [if_pos hc] at p
      exact fun W' σ' H' l k' => many_of k'.cx hs (f c hc) (PostS.le l p)
    · rw [if_neg hc] at p; exact p.elim
/-- the handlers -/
inductive Hds (X : Cx) : List ExceptHandler → List (Str × Sf) → Prop
  | nil : Hds X [] []
  | cons {x : Str} {g : Sf} {b₀ : Stmt} {suite : List Stmt} {np pos' : Pos} {hds : List ExceptHandler} {l : List (Str × Sf)} (hc : Names X x (.ref (ctOf X.mg x)))
      (hsu : ∀ (a : Addr) (pn : List (Addr × Obj)), PSs (X.suite a pn) (b₀ :: suite) (tS (CC (X.suite a pn) (ctOf X.mg) exF) g)) (r : Hds X hds l) :
      Hds X (.ExceptHandler (some (.Name x np)) none (b₀ :: suite) pos' :: hds) ((x, g) :: l)
theorem Hds.ok {hds : List ExceptHandler} {l : List (Str × Sf)} (h : Hds X hds l) : HdsOk X hds (hdsL X.K (ctOf X.mg) l) := by
  induction h with
  | nil => exact .nil
  | cons hc hsu r ih => exact .cons hc (fun a oe cls d pn _ _ => hsu a _) ih
theorem ss_try {cs : List Str} {body : List Stmt} {h₀ : ExceptHandler} {hds : List ExceptHandler} {b : Sf} {hs : List (Str × Sf)} {pos : Pos} (f : ∀ c ∈ cs, ∀ q ∈ hs, ExmOk X.K X.mg c q.1) (tk : Takes X ex)
    (hb : ∀ (W : WX) (pn : List (Addr × Obj)) (xe : Value → Shared → Prop), Takes (X.tr pn xe) W → PassesOwn (model X.prog X.w) X.A X.env xe → PSs (X.tr pn xe) body (tS (CC (X.tr pn xe) (ctOf X.mg) W) b))
    (hh : Hds X (h₀ :: hds) hs) (hsk : X.stack = X.env :: X.outer := by rfl) (hf : X.env.frame = some X.env.locals := by rfl) : PS X (.Try body (h₀ :: hds) [] [] pos) (tS (CC X (ctOf X.mg) ex) (sTry cs b hs)) :=
  PS.imp (ps_try_many (tb := fun W => tS ⟨X.K, ctOf X.mg, W⟩ b) hsk hf tk hb hh.ok) fun _ _ _ q => try_read f q
end
section
variable {K : PySem.W.Frag} {h : Heap} {mg : Str → Option Value}
theorem exm_mk {c d : Str} {C D : Addr} {co : ClassData} {b : Bool} (KX : K.In h) (G : h.Ns mainGlobals mg) (a1 : PySem.W.nsIn K mainGlobals c = some (some (.ref C))) (a2 : PySem.W.nsIn K mainGlobals d = some (some (.ref D)))
    (s1 : PySem.W.subIn K (.ref D) (.type "BaseException") = some true) (ci : PySem.W.clsIn K D = some co) (ty : PySem.W.typeIn K (.ref D) = some (.type "type")) (s2 : PySem.W.subIn K (.ref C) (.ref D) = some b) (hb : b = excSub c d) : ExmOk K mg c d := by
  unfold ExmOk
  rw [ctOf_eq (PySem.W.mg_of KX G a1), ctOf_eq (PySem.W.mg_of KX G a2)]
  unfold PySem.W.exmOne PySem.W.kitCls
  rw [s1]
  show (if ((PySem.W.clsIn K D).isSome && PySem.W.typeIn K (Value.ref D) == some (Value.type "type")) = true then PySem.W.subIn K (Value.ref C) (Value.ref D) else none) = _
  rw [ci, ty, s2, hb]; rfl
end
end PL

/-! # PL, part 2: sets of lists: sorted(set(ints)), len(set(..)) -/
namespace PL
open PySem PySem.Spec PyProof.Rows L2
/-- an empty set, just made -/
abbrev eso (w : World) : Obj := { cls := .type "set", dict := none, data := .set #[] 0 (.fresh 0 0 (!w.params.followText "set-order")) }
abbrev lio (l : Addr) : Obj := { cls := .type "list_iterator", data := .fields #[.ref l, .int 0 0] }
section
variable {P : Program} {w : World} {A : Around} {E : Value → Shared → Prop} {s : Shared}
set_option maxHeartbeats 3200000 in
/-- set(l) of a list: what the loop over it makes -/
theorem set_list_gen {l : Addr} {items : Array Value} {Made : Heap → Prop} {Q : Value → Shared → Prop} (hh : A.handled = none) (hl : s.heap.IsList l items)
    (loop : ∀ (A1 : Around) (I : Addr) (fp wr : List Addr) (G : Array GenState → Array GenState → Prop) (Pv : Nat → Value → Prop) (St : Nat → Shared → Prop) (s1 : Shared) (R : Result → Shared → Prop), WalksS P w A1.in1 I fp wr G items.size Pv St →
      s.heap.objs.size ∉ fp → (∀ i v, Pv i v → items[i]? = some v) → St 0 s1 → s1.heap.get? s.heap.objs.size = some (eso w) → (∀ s', Moved (s.heap.objs.size :: wr) G s1 s' → Made s'.heap → R (.ok (.ret .none)) s') →
      codeAny (model P w) A1 (.builtin "set.update.loop" ⟨[.ref s.heap.objs.size, .ref I], []⟩) R s1)
    (h : ∀ (h' : Heap) (tk : Nat), Made h' → (∀ b o, s.heap.get? b = some o → h'.get? b = some o) → Q (.ref s.heap.objs.size) { s with heap := h', toks := tk }) :
    wpAny (model P w) A (call (.type "set") [.ref l]) Q E s := by
  obtain ⟨cc, ct, mro⟩ := PySem.F.called_set.mro
  have made := PySem.F.called_set.made
  have sub := PySem.F.called_set.sub
  have nt := PySem.F.called_set.notType
  have cr := PySem.F.called_set.canCreate
  have tc := PySem.F.typeCall_set_1 (.ref l)
  refine wpAny_call (codeAny_of_tree ?_)
  refine wpAny_pure ⟨Code.quiet_builtin _ (by decide +kernel), codeAny_builtin PySem.F.entry_type_call ?_⟩
  rw [Around.under_plain (weight_type_call_type "set" [.ref l] []) rfl]
  repeat (any_goals (first | assumption | wp_step))
  refine codeAny_mono (code_set_led1 (.ref l) (E := E) (Q₁ := fun u z => u = .ref s.heap.objs.size ∧ z = { s with heap := s.heap.push (eso w) }) ⟨rfl, rfl⟩) fun r s1 hr => ?_
  cases r with
  | error e => exact hr
  | ok fl =>
    cases fl with
    | ret u =>
      obtain ⟨rfl, rfl⟩ := hr
      have gS : (s.heap.push (eso w)).get? s.heap.objs.size = some (eso w) := Heap.get?_push_size _ rfl
      have tS : Shared.TypeIs { s with heap := s.heap.push (eso w) } (.ref s.heap.objs.size) "set" := ⟨_, gS, rfl⟩
      have il := PySem.F.called_set.init.lookup
      have ib := PySem.F.called_set.init.bind (.ref s.heap.objs.size)
      repeat (any_goals (first | assumption | wp_step))
      refine codeAny_mono (codeAny_call_builtin (R := wants (fun r z => r = .none ∧ ∃ h' tk, z = { s with heap := h', toks := tk } ∧ Made h' ∧ (∀ b o, s.heap.get? b = some o → h'.get? b = some o)) E) PySem.F.called_set.init.plain PySem.F.entry_set_init (check_set_init_1 tS ?_)) fun r2 s2 hr2 => ?_
      · obtain ⟨ol, gl, e1, nl, e2⟩ := hl
        obtain ⟨k1, k2, k3, k4⟩ := ol
        simp only at e1 e2
        subst e1; subst e2
        have gl1 : (s.heap.push (eso w)).get? l = some { cls := .type "list", dict := k2, data := .seq items nl, slots := k4 } := Heap.get?_push_of_some _ gl
        have n1 := PySem.F.sub_list_set
        have n2 := PySem.F.sub_list_frozenset
        have n3 : (Value.type "list" == Value.type "dict") = false := by decide
        have il1 : (s.heap.push (eso w)).IsList l items := ⟨_, gl1, rfl, nl, rfl⟩
        unfold Builtin.«set.__init__» noKeywords Builtin.Frozenset.updateFrom
        generalize hp : pyIter = pI
        wp_walk
        subst hp
        refine wpAny_pyIter_list il1 (wpAny_bind (wpAny_runValue ?_))
        have lt : l < s.heap.objs.size := Heap.lt_size gl
        have h3 : A.in1.in1.in1.handled = none := by simp [hh]
        have sz : (s.heap.push (eso w)).objs.size = s.heap.objs.size + 1 := Heap.size_push ..
        have ne : l ≠ (s.heap.push (eso w)).objs.size := by rw [sz]; exact Nat.ne_of_lt (Nat.lt_succ_of_lt lt)
        refine loop _ _ [(s.heap.push (eso w)).objs.size, l] _ _ _ _ _ _ ((Walks.list h3 _ l ne items).toS) ?_ (fun i v hv => hv) ⟨⟨_, Heap.get?_push_size _ rfl, rfl, rfl⟩, (il1.push _)⟩ (Heap.get?_push_of_some _ gS) fun s' hm hM => ?_
        · rw [sz]; simp only [List.mem_cons, List.mem_singleton, List.not_mem_nil, or_false, not_or]
          exact ⟨Nat.ne_of_lt (Nat.lt_succ_self _), Nat.ne_of_gt lt⟩
        · obtain ⟨h', g2, d2, t2, o2⟩ := s'
          cases (show g2 = s.gens from hm.gens); cases (show d2 = s.drawn from hm.drawn); cases (show o2 = s.os from hm.os)
          show wpAny _ _ _ _ _ _
          refine wpAny_pure ?_
          show wpAny _ _ (ret Value.none) _ _ _
          refine wpAny_pure ⟨rfl, h', t2, rfl, hM, fun b o e => ?_⟩
          have lb := Heap.lt_size e
          exact hm.heap b o (by rw [sz]; simp only [List.mem_cons, List.mem_singleton, List.not_mem_nil, or_false, not_or]; exact ⟨Nat.ne_of_lt lb, Nat.ne_of_lt (Nat.lt_succ_of_lt lb)⟩) (Heap.get?_push_of_some _ (Heap.get?_push_of_some _ e))
      · cases r2 with
        | error e => exact hr2
        | ok f2 =>
          cases f2 with
          | ret u2 =>
            obtain ⟨rfl, h', tk, rfl, hM, hk⟩ := hr2
            repeat (any_goals (first | assumption | wp_step))
            exact h _ _ hM hk
          | _ => exact hr2.elim
    | _ => exact hr.elim
/-- ints -/
theorem set_list_ints {l : Addr} {items : Array Value} (ns : List Int) {Q : Value → Shared → Prop} (hh : A.handled = none) (hl : s.heap.IsList l items) (hi : IntsAre items.toList ns) (hb : ns.length + 1 < scanBound)
    (h : ∀ (h' : Heap) (tk c : Nat), SetR w h' s.heap.objs.size (fun j => decide (j ∈ ns)) c → c ≤ ns.length → (∀ b o, s.heap.get? b = some o → h'.get? b = some o) → Q (.ref s.heap.objs.size) { s with heap := h', toks := tk }) :
    wpAny (model P w) A (call (.type "set") [.ref l]) Q E s := by
  have sz : items.size = ns.length := by have q := IntsAre.length hi; rwa [Array.length_toList] at q
  refine set_list_gen (Made := fun h' => ∃ c, c ≤ ns.length ∧ SetR w h' s.heap.objs.size (fun j => decide (j ∈ ns)) c) hh hl (fun A1 I fp wr G Pv St s1 R W nf hv st gS k => ?_) fun h' tk ⟨c, hc, hM⟩ hk => h h' tk c hM hc hk
  refine set_update_ints W s.heap.objs.size nf ns sz hb (fun i v q => ?_) (items.size - 0) 0 s1 (by omega) (Nat.zero_le _) st ⟨0, Nat.le_refl 0, setR_new_at gS⟩ fun s' c hm hc hS => k s' hm ⟨c, by omega, hS⟩
  have q' := hv i v q
  have hi' : i < ns.length := by rw [← sz]; exact (Array.getElem?_eq_some_iff.mp q').1
  obtain ⟨t, e⟩ := PyProof.Rows.IntsAre.int_at hi i v (by rw [Array.getElem?_toList]; exact q')
  refine ⟨ns[i], t, List.getElem?_eq_getElem hi', ?_⟩
  rw [e, List.getD_eq_getElem?_getD, List.getElem?_eq_getElem hi']; rfl
end
/-! ### sorted(set(x)) -/
def insS (x : Int) : List Int → List Int
  | [] => [x]
  | y :: r => if x < y then x :: y :: r else if x = y then y :: r else y :: insS x r
/-- rising, each once -/
def sset : List Int → List Int
  | [] => []
  | x :: r => insS x (sset r)
theorem mem_insS {x k : Int} : ∀ {l : List Int}, k ∈ insS x l ↔ k = x ∨ k ∈ l
  | [] => by simp [insS]
  | y :: r => by
    unfold insS
    split
    · simp
    · split
      · rename_i h; subst h; simp
      · rw [List.mem_cons, mem_insS (l := r), List.mem_cons]
        constructor
        · rintro (h | h | h)
          · exact .inr (.inl h)
          · exact .inl h
          · exact .inr (.inr h)
        · rintro (h | h | h)
          · exact .inr (.inl h)
          · exact .inl h
          · exact .inr (.inr h)
theorem ins_up {x : Int} : ∀ {l : List Int}, l.Pairwise (· < ·) → (insS x l).Pairwise (· < ·)
  | [], _ => by simp [insS]
  | y :: r, h => by
    unfold insS
    rw [List.pairwise_cons] at h
    split
    · rename_i hx
      rw [List.pairwise_cons]
      refine ⟨fun k hk => ?_, List.pairwise_cons.mpr h⟩
      rcases List.mem_cons.mp hk with e | e
      · rw [e]; exact hx
      · have := h.1 k e; omega
    · split
      · exact List.pairwise_cons.mpr h
      · rename_i h1 h2
        rw [List.pairwise_cons]
        refine ⟨fun k hk => ?_, ins_up h.2⟩
        rcases mem_insS.mp hk with e | e
        · omega
        · exact h.1 k e
theorem mem_sset {k : Int} : ∀ {ns : List Int}, k ∈ sset ns ↔ k ∈ ns
  | [] => by simp [sset]
  | x :: r => by unfold sset; rw [mem_insS, mem_sset (ns := r), List.mem_cons]
theorem sset_up : ∀ ns : List Int, (sset ns).Pairwise (· < ·)
  | [] => by simp [sset]
  | x :: r => by unfold sset; exact ins_up (sset_up r)
theorem up_ext : ∀ {a b : List Int}, a.Pairwise (· < ·) → b.Pairwise (· < ·) → (∀ k, k ∈ a ↔ k ∈ b) → a = b
  | [], [], _, _, _ => rfl
  | [], y :: b, _, _, h => by have := (h y).mpr List.mem_cons_self; cases this
  | x :: a, [], _, _, h => by have := (h x).mp List.mem_cons_self; cases this
  | x :: a, y :: b, ha, hb, h => by
    rw [List.pairwise_cons] at ha hb
    have e : x = y := by
      rcases List.mem_cons.mp ((h x).mp List.mem_cons_self) with e | e
      · exact e
      · rcases List.mem_cons.mp ((h y).mpr List.mem_cons_self) with e2 | e2
        · exact e2.symm
        · have h1 := hb.1 x e
          have h2 := ha.1 y e2
          omega
    subst e
    congr 1
    refine up_ext ha.2 hb.2 fun k => ⟨fun hk => ?_, fun hk => ?_⟩
    · rcases List.mem_cons.mp ((h k).mp (List.mem_cons_of_mem _ hk)) with e | e
      · have := ha.1 k hk; omega
      · exact e
    · rcases List.mem_cons.mp ((h k).mpr (List.mem_cons_of_mem _ hk)) with e | e
      · have := hb.1 k hk; omega
      · exact e
def oSSet : PyData → Option PyData
  | .list xs => match intsOf xs with
    | some ns => if ns.length < 64 then some (.list ((sset ns).map .int)) else none
    | none => none
  | .tuple xs => match intsOf xs with
    | some ns => if ns.length < 64 then some (.list ((sset ns).map .int)) else none
    | none => none
  | _ => none
def rSetI (K : PySem.W.Frag) (w : World) : List V → Hp → VK → Prop := fun vs H Q => ∃ (a : Addr) (ns : List Int), vs = [.ref a] ∧ (SqL K H a (ns.map V.int) ∨ SqT K H a (ns.map V.int)) ∧ ns.length < 64 ∧
  ∀ (p : Addr) (c : Nat), H p = none → c ≤ ns.length → Q (.ref p) (upd H p (SetO w p (fun j => decide (j ∈ ns)) c))
section
variable {X : Cx} {ct : Str → Addr} {ex : WX} {e : Expr} {es : List Expr} {fl : Lf} {p p2 q pos : Pos}
theorem cr_setI (hc : X.calm = true) : CallR X (.type "set") (rSetI X.K X.w) := by
  intro pins s σ H vs us Q I r h
  obtain ⟨a, ns, rfl, hs, h64, q⟩ := h
  rw [Vals.ref1 r]
  have sb : ns.length + 1 < scanBound := by unfold scanBound; omega
  have fin : ∀ (h' : Heap) (tk c : Nat), SetR X.w h' s.heap.objs.size (fun j => decide (j ∈ ns)) c → c ≤ ns.length → (∀ b o, s.heap.get? b = some o → h'.get? b = some o) → EP X pins σ Q (.ref s.heap.objs.size) { s with heap := h', toks := tk } := fun h' tk c R hc hk =>
    ⟨.ref _, upd H s.heap.objs.size (SetO X.w s.heap.objs.size (fun j => decide (j ∈ ns)) c), I.laid (t' := tk) hk (Nat.le_refl _) (setO_new R), rfl, q _ c (I.hok.fresh (Nat.le_refl _)) hc⟩
  rcases hs with hs | hs
  · obtain ⟨its, rv, hl, _⟩ := I.list hs
    exact set_list_ints ns (I.ok.hd hc) hl.isList (by simpa using ints_of_vals rv) sb fin
  · obtain ⟨its, rv, hl, _⟩ := I.tuple hs
    exact call_set_tupI ns (I.ok.hd hc) hl (by simpa using ints_of_vals rv) sb fin
theorem sset_read {σ : L2.St} {H : Hp} {Q : VK} (h : tE (CC X ct ex) (eDN (o1 oSSet) fl) σ H Q) : tCB (rSortedSet X.w) (tCons (tCB (rSetI X.K X.w) (tL (CC X ct ex) fl)) tNil) σ H Q := by
  obtain ⟨W, ρ, S, k, p⟩ := h
  show tL (CC X ct ex) fl σ H _
  refine tL_E k p fun vs ws W1 S1 H1 k1 r1 p1 => ?_
  obtain ⟨y, e1, q⟩ := rOf_post k1.st p1
  obtain ⟨xs, e2, e3⟩ := bindO e1
  have D := asDs_dt k1.st r1 e2
  unfold o1 at e3
  match xs, e3, D with
  | [x], e3, D =>
    obtain ⟨v, rfl, hx⟩ := DTs.one D
    have fin : ∀ (a : Addr) (ns : List Int), v = .ref a → (SqL X.K H1 a (ns.map V.int) ∨ SqT X.K H1 a (ns.map V.int)) → (if ns.length < 64 then some (PyData.list ((sset ns).map .int)) else none) = some y → rSetI X.K X.w [v] H1 fun x H1 => tNil σ H1 fun xs H2 => rSortedSet X.w (x :: xs) H2 Q := by
      rintro a ns rfl hs e4
      by_cases h64 : ns.length < 64
      · rw [if_pos h64] at e4
        cases e4
        refine ⟨a, ns, rfl, hs, h64, fun p c hp hc => ⟨p, _, c, rfl, upd_same, by omega, fun ms z hup hmem _ hz => ?_⟩⟩
        have em : ms = sset ns := up_ext hup (sset_up ns) fun k => by rw [hmem k, decide_eq_true_iff, mem_sset]
        rw [em]
        have s1 := same_upd hp (SetO X.w p (fun j => decide (j ∈ ns)) c)
        have s2 := same_upd hz (.lst ((sset ns).map V.int))
        have hz1 : H1 z = none := s1.free hz
        refine q _ _ (fun b u hb => s2 _ _ (s1 _ _ hb)) (.lst (SqL.of (mask_of (k1.st.fresh hz1) upd_same)) ?_)
        have : ∀ ls : List Int, DpAll X.K (mask W1.Z (upd (upd H1 p (SetO X.w p (fun j => decide (j ∈ ns)) c)) z (.lst ((sset ns).map V.int)))) (ls.map V.int) (ls.map PyData.int) := fun ls => by
          induction ls with
          | nil => exact .nil
          | cons l r ih => exact .cons (.int l) ih
        exact this _
      · rw [if_neg h64] at e4; cases e4
    cases x with
    | list xs =>
      have e4 : (match intsOf xs with | some ns => if ns.length < 64 then some (PyData.list ((sset ns).map .int)) else none | none => none) = some y := e3
      cases e5 : intsOf xs with
      | none => rw [e5] at e4; cases e4
      | some ns =>
        rw [e5] at e4
        obtain ⟨a, vs, hv, h1, h2⟩ := hx
        rw [intsOf_eq e5] at h2
        have e6 := dpInts h2
        subst e6
        exact fin a ns hv (.inl h1) e4
    | tuple xs =>
      have e4 : (match intsOf xs with | some ns => if ns.length < 64 then some (PyData.list ((sset ns).map .int)) else none | none => none) = some y := e3
      cases e5 : intsOf xs with
      | none => rw [e5] at e4; cases e4
      | some ns =>
        rw [e5] at e4
        have hx' := hx.dp
        rw [intsOf_eq e5] at hx'
        cases hx' with
        | tup h1 h2 =>
          have e6 := dpInts h2
          subst e6
          exact fin _ ns rfl (.inr h1) e4
    | _ => cases e3
theorem ee_sset (hm : X.mg "sorted" = none) (hm2 : X.mg "set" = none) (hc : X.calm = true) (ha : PA X [e] (tL (CC X ct ex) fl)) (hg : Gl X "sorted" := by rfl) (hg2 : Gl X "set" := by rfl)
    (he : starEach [e] X.env = (false, eval e X.env) :: starEach [] X.env := by rfl) (hpl : (backTo q (starEach [] X.env)).any (·.1) = false := by rfl)
    (he2 : starEach [.Call (.Name "set" p2) [e] [] q] X.env = (false, eval (.Call (.Name "set" p2) [e] [] q) X.env) :: starEach [] X.env := by rfl) (hpl2 : (backTo pos (starEach [] X.env)).any (·.1) = false := by rfl) :
    PE X (.Call (.Name "sorted" p) [.Call (.Name "set" p2) [e] [] q] [] pos) (tE (CC X ct ex) (eDN (o1 oSSet) fl)) :=
  PE.imp (pe_callB (cr_sortedSet hc) hg hm (by decide +kernel) (pa_cons (pe_callTy (cr_setI hc) hg2 hm2 (by decide +kernel) ha (by decide) (by decide) he hpl) pa_nil he2) (by decide) (by decide) he2 hpl2) fun _ _ _ h => sset_read h
end
end PL

/-! # PL, part 3: slices of tuples with a step; tuple * int of any size -/
namespace PL
open PySem PySem.Spec PyProof.Rows L2
/-- the places of a slice with a step -/
def stepIx (lo hi : Option Int) (c : Int) (n : Nat) : List Nat := (List.range (Builtin.Slice.slicePlaces (Builtin.Slice.sliceAdjust lo hi c (n : Int)).1 (Builtin.Slice.sliceAdjust lo hi c (n : Int)).2 c)).map fun m : Nat => ((Builtin.Slice.sliceAdjust lo hi c (n : Int)).1 + (m : Int) * c).toNat
def pickL {α : Type} (xs : List α) (ks : List Nat) : List α := ks.filterMap (xs[·]?)
section
variable {P : Program} {w : World} {A : Around} {E : Value → Shared → Prop} {s : Shared}
theorem sliceApplied_stp {sl : Addr} {vl vu : Value} {lo hi : Option Int} {c : Int} {t : Tok} {n : Nat} {Q : Int × Int × Nat → Shared → Prop} (hs : s.heap.IsSliceOf sl vl vu (.int c t)) (pl : IsPart vl lo) (pu : IsPart vu hi) (h0 : c ≠ 0)
    (h : Q ((Builtin.Slice.sliceAdjust lo hi c (n : Int)).1, c, Builtin.Slice.slicePlaces (Builtin.Slice.sliceAdjust lo hi c (n : Int)).1 (Builtin.Slice.sliceAdjust lo hi c (n : Int)).2 c) s) : wpAny (model P w) A (Builtin.Slice.sliceApplied (.ref sl) (pure (n : Int))) Q E s := by
  obtain ⟨ob, g, cl, da⟩ := id hs
  unfold Builtin.Slice.sliceApplied Builtin.Slice.sliceFields
  refine wpAny_bind (wpAny_bind (wpAny_field g da (x := vl) rfl (wpAny_bind (wpAny_field g da (x := vu) rfl (wpAny_bind (wpAny_field g da (x := .int c t) rfl (wpAny_pure ?_)))))))
  refine wpAny_bind (HT.slicePart_ (.int c t) ?_)
  have hz : ¬ ((c == 0) = true) := by simpa using h0
  show wpAny _ _ (if (c == 0) = true then _ else _) _ _ s
  rw [if_neg hz]
  refine wpAny_bind (HT.slicePart_ pl (wpAny_bind (HT.slicePart_ pu (wpAny_bind (wpAny_pure ?_)))))
  exact wpAny_pure h
theorem getItem_tuple_stp {t sl : Addr} {items : Array Value} {vl vu : Value} {lo hi : Option Int} {c : Int} {tc : Tok} {Q : Value → Shared → Prop} (ht : IsTup s.heap t items) (hs : s.heap.IsSliceOf sl vl vu (.int c tc)) (pl : IsPart vl lo) (pu : IsPart vu hi) (h0 : c ≠ 0) (h1 : c ≠ 1)
    (hsz : (pickL items.toList (stepIx lo hi c items.size)).length ≤ sizeLine)
    (h : Q (.ref s.heap.objs.size) { s with heap := s.heap.push { cls := .type "tuple", data := .seq (pickL items.toList (stepIx lo hi c items.size)).toArray } }) : wpAny (model P w) A (getItem (.ref t) (.ref sl)) Q E s := by
  have fits : sizeOk (.seq (pickL items.toList (stepIx lo hi c items.size)).toArray) := by
    show (pickL items.toList (stepIx lo hi c items.size)).toArray.size ≤ sizeLine
    rw [List.size_toArray]; exact hsz
  obtain ⟨ob, g, cl, da⟩ := id hs
  have ty : s.TypeIs (.ref sl) "slice" := ⟨ob, g, cl⟩
  unfold getItem
  try with_reducible refine wpAny_holding ?_
  try with_reducible refine wpAny_bind (wpAny_pure ?_)
  refine wpAny_bind (wpAny_sequenceKey ht.typeIs (by decide) ?_)
  refine wpAny_bind (wpAny_callSpecial?_slot (name := Str.ofString "__getitem__") ht.typeIs slot_tuple_getitem (wpAny_call_entry slot_tuple_getitem ht.typeIs PyProof.Rows.entry_tuple_getitem ?_ (PyProof.Rows.args_tuple_getitem _ _)))
  show wpAny _ _ (Builtin.Tuple.tupleItemsOf (.ref t) >>= _) _ _ s
  refine wpAny_bind (PyProof.Rows.tupleItemsOf_ ht (wpAny_bind (wpAny_typeOf ty ?_)))
  rw [if_pos (by decide)]
  refine wpAny_bind (sliceApplied_stp hs pl pu h0 ?_)
  have hno : ((c : Int) == 1) = false := by simpa using h1
  dsimp only
  rw [hno, Bool.and_false, Bool.false_and, if_neg Bool.false_ne_true]
  have e : ((List.range (Builtin.Slice.slicePlaces (Builtin.Slice.sliceAdjust lo hi c (items.size : Int)).1 (Builtin.Slice.sliceAdjust lo hi c (items.size : Int)).2 c)).filterMap fun (m : Nat) => items[((Builtin.Slice.sliceAdjust lo hi c (items.size : Int)).1 + (m : Int) * c).toNat]?).toArray = (pickL items.toList (stepIx lo hi c items.size)).toArray := by
    unfold pickL stepIx
    rw [List.filterMap_map]
    congr 2
    funext m
    simp
  rw [e]
  first
    | exact wpAny_bind (m := Builtin.Tuple.tupleExact _) (wpAny_newObj_type (wpAny_pure ⟨_, rfl, wpAny_pure h⟩) fits)
    | exact wpAny_bind (m := Builtin.Tuple.tupleExact _) (wpAny_newObj_type (wpAny_bind (wpAny_pure (wpAny_pure ⟨_, rfl, wpAny_pure h⟩))) fits)
    | exact wpAny_bind (wpAny_bind (m := Builtin.Tuple.tupleExact _) (wpAny_newObj_type (wpAny_pure (wpAny_pure ⟨_, rfl, wpAny_pure h⟩)) fits))
    | exact wpAny_bind (wpAny_bind (m := Builtin.Tuple.tupleExact _) (wpAny_newObj_type (wpAny_pure ⟨_, rfl, wpAny_pure h⟩) fits))
end
theorem pick_dp {K : PySem.W.Frag} {H : Hp} {vs : List V} {xs : List PyData} (h : DpAll K H vs xs) : ∀ ks : List Nat, DpAll K H (pickL vs ks) (pickL xs ks)
  | [] => .nil
  | k :: r => by
    have ih := pick_dp h r
    unfold pickL at ih ⊢
    rw [List.filterMap_cons, List.filterMap_cons]
    cases e : xs[k]? with
    | none =>
      have e2 : vs[k]? = none := by
        rw [List.getElem?_eq_none_iff] at e ⊢
        rw [DpAll.length h]; exact e
      rw [e2]; exact ih
    | some d =>
      obtain ⟨v, e2, hd⟩ := DpAll.get h e
      rw [e2]; exact .cons hd ih
theorem pick_vals {vs : List V} {us : List Value} (h : Vals vs us) : ∀ ks : List Nat, Vals (pickL vs ks) (pickL us ks)
  | [] => .nil
  | k :: r => by
    have ih := pick_vals h r
    unfold pickL at ih ⊢
    rw [List.filterMap_cons, List.filterMap_cons]
    cases e : us[k]? with
    | none =>
      have e2 : vs[k]? = none := by
        rw [List.getElem?_eq_none_iff] at e ⊢
        rw [h.length]; exact e
      rw [e2]; exact ih
    | some d =>
      obtain ⟨v, e2, hd⟩ := vals_get h e
      rw [e2]; exact .cons hd ih
theorem pick_len {α : Type} (xs : List α) (ks : List Nat) : (pickL xs ks).length ≤ ks.length := List.length_filterMap_le _ _
/-- t[lo:hi:c] -/
def oSlS : PyData → Option Int → Option Int → Option Int → Option PyData
  | .tuple xs, lo, hi, some c => if c ≠ 0 ∧ c ≠ 1 ∧ (stepIx lo hi c xs.length).length ≤ LINE then some (.tuple (pickL xs (stepIx lo hi c xs.length))) else none
  | _, _, _, _ => none
def eSlS (f : Ef) (lo hi st : Of) : Ef := fun ρ S => (f ρ S).bind fun x S1 => (lo ρ S1).bind fun l S2 => (hi ρ S2).bind fun h S3 => (st ρ S3).bind fun c S4 => rOf ((asD S4 x).bind fun d => oSlS d l h c) S4
section
variable {X : Cx} {ct : Str → Addr} {ex : WX} {a : Expr} {f : Ef} {pos p2 : Pos} {lo hi : Option Expr} {ce : Expr}
theorem ee_slS {l h c : Of} (ha : PE X a (tE (CC X ct ex) f)) (hl : PO X lo (tO (CC X ct ex) l)) (hh : PO X hi (tO (CC X ct ex) h)) (hc : PO X (some ce) (tO (CC X ct ex) c)) : PE X (.Subscript a (.Slice lo hi (some ce) p2) pos) (tE (CC X ct ex) (eSlS f l h c)) := by
  refine ⟨fun pn z σ H Q I q0 => ?_⟩
  obtain ⟨W, ρ, S, k, p⟩ := q0
  have r0 : tE (CC X ct ex) f σ H fun x H1 => tO (CC X ct ex) l σ H1 fun lo H2 => tO (CC X ct ex) h σ H2 fun hi H3 => tO (CC X ct ex) c σ H3 fun st H4 => ∃ a ys n, x = .ref a ∧ SqT X.K H4 a ys ∧ st = some n ∧ n ≠ 0 ∧ n ≠ 1 ∧ (stepIx lo hi n ys.length).length ≤ LINE ∧ ∀ p, H4 p = none → Q (.ref p) (upd H4 p (.tup (pickL ys (stepIx lo hi n ys.length)))) := by
    refine tE_E k p fun u x W1 S1 H1 k1 r1 p1 => ?_
    refine ⟨W1, ρ, S1, k1, ?_⟩
    cases e0 : l ρ S1 with
    | exc c S2 => rw [e0] at p1; exact p1
    | bad => rw [e0] at p1; exact p1
    | ok lv S2 =>
      rw [e0] at p1
      intro W2 H2 l2 st2
      refine ⟨W2, ρ, S2, k1.le l2 st2, ?_⟩
      have p1' : PostR (CC X ct ex) W1 σ H1 ((h ρ S2).bind fun hv S3 => (c ρ S3).bind fun c S4 => rOf ((asD S4 x).bind fun d => oSlS d lv hv c) S4) Q := p1
      cases e1 : h ρ S2 with
      | exc c S3 => rw [e1] at p1'; exact fun W' H' m => p1' W' H' (l2.trans m)
      | bad => rw [e1] at p1'; exact p1'
      | ok hv S3 =>
        rw [e1] at p1'
        intro W3 H3 l3 st3
        have l13 := l2.trans l3
        refine ⟨W3, ρ, S3, k1.le l13 st3, ?_⟩
        have p2' : PostR (CC X ct ex) W1 σ H1 ((c ρ S3).bind fun c S4 => rOf ((asD S4 x).bind fun d => oSlS d lv hv c) S4) Q := p1'
        cases e2 : c ρ S3 with
        | exc c S4 => rw [e2] at p2'; exact fun W' H' m => p2' W' H' (l13.trans m)
        | bad => rw [e2] at p2'; exact p2'
        | ok cv S4 =>
          rw [e2] at p2'
          intro W4 H4 l4 st4
          have l14 := l13.trans l4
          obtain ⟨y, e3, q⟩ := rOf_post st4 (PostR.le l14 p2')
          obtain ⟨d, e4, e5⟩ := bindO e3
          have D := asD_dt st4 (RW.le l14 _ _ r1) e4
          cases d <;> first | (cases e5; done) | skip
          rename_i xs
          cases cv with
          | none => cases e5
          | some n =>
            have e6 : (if n ≠ 0 ∧ n ≠ 1 ∧ (stepIx lv hv n xs.length).length ≤ LINE then some (PyData.tuple (pickL xs (stepIx lv hv n xs.length))) else none) = some y := e5
            by_cases hn : n ≠ 0 ∧ n ≠ 1 ∧ (stepIx lv hv n xs.length).length ≤ LINE
            · rw [if_pos hn] at e6
              cases e6
              cases D with
              | tup h1 h2 =>
                have hlen := DpAll.length h2
                exact ⟨_, _, n, rfl, Same.seqT (mask_same _ _) h1, rfl, hn.1, hn.2.1, by rw [hlen]; exact hn.2.2, fun p hp => q.tup st4 (by rw [hlen]; exact pick_dp h2 _) hp⟩
            · rw [if_neg hn] at e6; cases e6
  refine Subscript_ (thn (ha.run pn z σ H _ I r0) fun v z1 ⟨x, H1, I1, rx, q1⟩ => ?_)
  refine wpAny_Slice (thn (hl.run pn z1 σ H1 _ I1 q1) fun vl z2 ⟨l, H2, I2, pl, q2⟩ => thn (hh.run pn z2 σ H2 _ I2 q2) fun vu z3 ⟨u, H3, I3, pu, q3⟩ => thn (hc.run pn z3 σ H3 _ I3 q3) fun vc z4 ⟨c, H4, I4, pc, q4⟩ => ?_)
  obtain ⟨b, ys, n, rfl, hs, rfl, h0, h1, hz, q5⟩ := q4
  cases rx
  cases pc with
  | int _ t =>
    have I5 : Inv X pn σ H4 { z4 with heap := z4.heap.push { cls := .type "slice", data := .fields #[vl, vu, .int n t] } } := I4.kept (t' := z4.toks) fun _ _ q => Heap.get?_push_of_some _ q
    obtain ⟨its, rv, ht, hzz⟩ := I5.tuple hs
    have hlen : its.toArray.size = ys.length := by rw [List.size_toArray]; exact rv.length.symm
    show wpAny (model X.prog X.w) X.A (subscriptTail a (.Slice lo hi (some ce) p2) (.ref b) (.ref z4.heap.objs.size)) (EP X pn σ Q) X.xe { z4 with heap := z4.heap.push { cls := .type "slice", data := .fields #[vl, vu, .int n t] } }
    refine tail_any (ops := [.ref b, .ref z4.heap.objs.size]) ht.typeIs slot_tuple_getitem.lookup ?_ (by with_unfolding_all rfl)
    refine getItem_tuple_stp ht (Heap.IsSliceOf.new ..) pl pu h0 h1 (Nat.le_trans (pick_len _ _) (by rw [hlen, line_eq]; exact hz)) ?_
    rw [hlen]
    refine ⟨.ref _, _, I5.laid (t' := z4.toks) (o := .tup (pickL ys (stepIx l u n ys.length))) (fun _ _ q => Heap.get?_push_of_some _ q) (Nat.le_refl _) ?_, rfl, q5 _ (I5.hok.fresh (Nat.le_refl _))⟩
    exact ⟨Nat.le_trans (pick_len _ _) (by rw [line_eq]; exact hz), _, pick_vals rv _, IsTup.new _ _⟩
end
end PL

/-! # PL, part 4: going through statements one by one -/
namespace PL
open PySem PySem.Spec PyProof.Rows L2
def Gs (s : Sf) (ρ : En) (S : Store) (Q : SRes → Prop) : Prop := Q (s ρ S)
/-- goes on, with what then holds -/
def Nx (P : En → Store → Prop) (r : SRes) : Prop := ∃ ρ S, r = .nx ρ S ∧ P ρ S
/-- returns a value -/
def Rt (d : PyData) (r : SRes) : Prop := ∃ S, r = .rt (.d d) S
section
variable {a b body : Sf} {ρ ρ' : En} {S S' : Store} {Q : SRes → Prop} {P : En → Store → Prop} {r : SRes} {it : If} {tg : Tg} {d : PyData} {n : Nat} {ds : List PyData} {t : Bf}
theorem step (h : a ρ S = .nx ρ' S') (k : Gs b ρ' S' Q) : Gs (sSeq a b) ρ S Q := by
  unfold Gs at k ⊢
  rw [s_seq, h, seq_nx]; exact k
theorem fin (h : a ρ S = r) (k : Q r) : Gs a ρ S Q := by unfold Gs; rw [h]; exact k
theorem Gs.nx (h : Gs a ρ S (Nx P)) : ∃ ρ' S', a ρ S = .nx ρ' S' ∧ P ρ' S' := h
theorem via (h : Gs a ρ S (Nx P)) (k : ∀ ρ' S', P ρ' S' → Gs b ρ' S' Q) : Gs (sSeq a b) ρ S Q := by
  obtain ⟨ρ', S', e, p⟩ := h
  exact step e (k ρ' S' p)
theorem runP_gs (h : Gs b (startE n (ds.map .d)) [] (Rt d)) : runP n b ds = .ok d := by
  obtain ⟨S, e⟩ := h
  exact runP_rt e
theorem runG_gs {ws : List Wv} {P : Wv → Store → Prop} (h : Gs b (startE n ws) S (fun r => ∃ w S', r = .rt w S' ∧ P w S')) : ∃ w S', runG n b ws S = .ok w S' ∧ P w S' := by
  obtain ⟨w, S', e, p⟩ := h
  exact ⟨w, S', runG_rt e, p⟩
theorem for_fin {α : Type} (xs : List α) (g : α → Wv) (I : Nat → En → Store → Prop) (hit : it ρ S = .ok (xs.map g) S') (h0 : I 0 ρ S')
    (hs : ∀ i x, xs[i]? = some x → ∀ ρ S, I i ρ S → ∃ ρ1, bindT tg (g x) ρ = some ρ1 ∧ Gs body ρ1 S (Nx (I (i + 1)))) : Gs (sFor it tg body) ρ S (Nx (I xs.length)) := by
  have gen : ∀ (m i : Nat) (ρ : En) (S : Store), xs.length - i = m → i ≤ xs.length → I i ρ S → ∃ ρ2 S2, loopS tg body ((xs.drop i).map g) ρ S = .nx ρ2 S2 ∧ I xs.length ρ2 S2 := by
    intro m
    induction m with
    | zero =>
      intro i ρ S hm hi h
      have e : i = xs.length := by omega
      subst e
      rw [List.drop_length]
      exact ⟨ρ, S, rfl, h⟩
    | succ m ih =>
      intro i ρ S hm hi h
      have hl : i < xs.length := by omega
      obtain ⟨ρ1, e1, ρ2, S2, e2, h2⟩ := hs i xs[i] (List.getElem?_eq_getElem hl) ρ S h
      obtain ⟨ρ3, S3, e3, h3⟩ := ih (i + 1) ρ2 S2 (by omega) (by omega) h2
      refine ⟨ρ3, S3, ?_, h3⟩
      rw [List.drop_eq_getElem_cons hl, List.map_cons, loopS, e1]
      dsimp only
      rw [e2]
      exact e3
  obtain ⟨ρ2, S2, e, h⟩ := gen _ 0 ρ S' rfl (Nat.zero_le _) h0
  rw [List.drop_zero] at e
  refine ⟨ρ2, S2, ?_, h⟩
  unfold sFor
  rw [hit]
  exact e
theorem for_step {α : Type} (xs : List α) (g : α → Wv) (I : Nat → En → Store → Prop) (hit : it ρ S = .ok (xs.map g) S') (h0 : I 0 ρ S')
    (hs : ∀ i x, xs[i]? = some x → ∀ ρ S, I i ρ S → ∃ ρ1, bindT tg (g x) ρ = some ρ1 ∧ Gs body ρ1 S (Nx (I (i + 1)))) (k : ∀ ρ S, I xs.length ρ S → Gs b ρ S Q) : Gs (sSeq (sFor it tg body) b) ρ S Q := via (for_fin xs g I hit h0 hs) k
/-- slots of which nothing is said -/
theorem slots {mk : (Nat → Option Wv) → En} {ρ : En} (h : ρ = mk fun j => (ρ[j]?).getD none) : ∃ f, ρ = mk f := ⟨_, h⟩
end
/-! ### try -/
section
variable {b : Sf} {hs : List (Str × Sf)} {cs : List Str} {ρ ρ' : En} {S S' : Store} {c : Str} {w : Wv}
theorem try_nx (h : b ρ S = .nx ρ' S') : sTry cs b hs ρ S = .nx ρ' S' := by unfold sTry; rw [h]
theorem try_rt (h : b ρ S = .rt w S') : sTry cs b hs ρ S = .rt w S' := by unfold sTry; rw [h]
theorem try_exc (h : b ρ S = .exc c ρ' S') (hc : c ∈ cs) : sTry cs b hs ρ S = hRun c hs ρ' S' := by unfold sTry; rw [h]; exact if_pos hc
theorem hrun_rt {h : Str} {g : Sf} {r : List (Str × Sf)} (e : excSub c h = true) (k : g ρ S = .rt w S') : hRun c ((h, g) :: r) ρ S = .rt w S' := by unfold hRun; rw [if_pos e, k]
theorem hrun_nx {h : Str} {g : Sf} {r : List (Str × Sf)} (e : excSub c h = true) (k : g ρ S = .nx ρ' S') : hRun c ((h, g) :: r) ρ S = .nx ρ' S' := by unfold hRun; rw [if_pos e, k]
theorem hrun_no {h : Str} {g : Sf} {r : List (Str × Sf)} (e : excSub c h = false) : hRun c ((h, g) :: r) ρ S = hRun c r ρ S := by rw [hRun]; dsimp only; rw [e, if_neg Bool.false_ne_true]
theorem ex_nn : excSub "NoLine" "NoLine" = true := by decide +kernel
theorem ex_bb : excSub "BadWidth" "BadWidth" = true := by decide +kernel
theorem ex_tt : excSub "NoText" "NoText" = true := by decide +kernel
theorem ex_nb : excSub "NoLine" "BadWidth" = false := by decide +kernel
theorem ex_bn : excSub "BadWidth" "NoLine" = false := by decide +kernel
end
/-! ### or as a value -/
def orV (o : Option Bool) (w : Wv) (ρ : En) (k : Ef) (S : Store) : Res Wv := match o with
  | some b => if b = true then .ok w S else k ρ S
  | none => .bad
section
variable {e k : Ef} {ρ : En} {S : Store} {w : Wv}
theorem e_orV : eOr e k ρ S = (e ρ S).bind fun w S1 => orV (truW S1 w) w ρ k S1 := by unfold eOr orV; rfl
theorem orV_t : orV (some true) w ρ k S = .ok w S := rfl
theorem orV_f : orV (some false) w ρ k S = k ρ S := rfl
end
end PL

/-! # PL, part 5: names, membership, widths put -/
namespace PL
open PySem PySem.Spec PyProof.Rows L2 PySem.SeqAt PySem.W
theorem lay_letter {i : Nat} (h : i < 26) : PyData.canLay0 (.str (letter i)) = true := by
  show PyData.strOk (letter i) = true
  unfold PyData.strOk letter
  simp
  omega
abbrev Lay (x : Str) : Prop := PyData.canLay0 (.str x) = true
theorem Lt.lay {p : Pl} (h : Lt p) (h5 : p.2.length ≤ 5) : ∀ l ∈ p.2, Lay l.1 := fun l hl => by
  obtain ⟨i, hi, e⟩ := h.nm h5 l hl
  rw [e]; exact lay_letter hi
theorem sum_t {xs : List Int} : oSum (.tuple (xs.map .int)) = some (.int xs.sum) := by simp only [oSum, intsOf_map]
theorem layAll {xs : List Str} (h : ∀ x ∈ xs, Lay x) : PyData.canLayAll0 (xs.map .str) = true := by
  induction xs with
  | nil => rfl
  | cons x r ih =>
    show (PyData.canLay0 (.str x) && PyData.canLayAll0 (r.map .str)) = true
    rw [h x List.mem_cons_self, ih fun y hy => h y (List.mem_cons_of_mem _ hy)]; rfl
theorem depAll : ∀ ys : List Str, PyData.depthAll (ys.map .str) = 0
  | [] => rfl
  | y :: r => by show max 0 (PyData.depthAll (r.map .str)) = 0; rw [depAll r]; rfl
theorem sh_strs {xs : List Str} (h : ∀ x ∈ xs, Lay x) : shaped (.tuple (xs.map .str)) = true := by
  unfold shaped
  have h3 : PyData.canLay0 (.tuple (xs.map .str)) = true := layAll h
  have h4 : PyData.depth (.tuple (xs.map .str)) = 1 := by show PyData.depthAll _ + 1 = 1; rw [depAll]
  rw [h3, h4]; rfl
theorem sh_strsL {xs : List Str} (h : ∀ x ∈ xs, Lay x) : shaped (.list (xs.map .str)) = true := by
  unfold shaped
  have h3 : PyData.canLay0 (.list (xs.map .str)) = true := layAll h
  have h4 : PyData.depth (.list (xs.map .str)) = 1 := by show PyData.depthAll _ + 1 = 1; rw [depAll]
  rw [h3, h4]; rfl
theorem sh_str {x : Str} (h : Lay x) : shaped (.str x) = true := by
  unfold shaped
  rw [h]; rfl
theorem onAt_lay {p : Pl} (h : ∀ l ∈ p.2, Lay l.1) (b : Int) : ∀ x ∈ onAt p b, Lay x := fun x hx => by
  obtain ⟨l, hl, rfl⟩ := List.mem_map.mp hx
  exact h l (List.mem_filter.mp hl).1
theorem onAt_round (p : Pl) (b k : Int) : onAt p (b + k * p.1) = onAt p b := by
  unfold onAt
  rw [show (fun l => isOn p l (b + k * p.1)) = fun l => isOn p l b from funext fun l => isOn_round b k]
theorem onAt_len (p : Pl) (b : Int) : ((onAt p b).length : Int) = ct p b := by unfold onAt ct; rw [List.length_map]
theorem any_eqv (x : Str) : ∀ ys : List Str, (ys.map PyData.str).any (fun z => PyData.eqv z (.str x)) = decide (x ∈ ys)
  | [] => by simp
  | y :: r => by
    rw [List.map_cons, List.any_cons, any_eqv x r]
    have : PyData.eqv (.str y) (.str x) = (y == x) := rfl
    rw [this]
    by_cases h : y = x
    · subst h; simp
    · have h2 : x ≠ y := fun e => h e.symm
      rw [beq_eq_false_iff_ne.mpr h, Bool.false_or]
      simp [h2]
theorem in_strs {x : Str} {ys : List Str} (hx : Lay x) (h : ∀ y ∈ ys, Lay y) : oIn (.str x) (.tuple (ys.map .str)) = some (.bool (decide (x ∈ ys))) := by
  show ((if shaped (.str x) = true ∧ shaped (.tuple (ys.map .str)) = true then some ((ys.map PyData.str).any fun z => PyData.eqv z (.str x)) else none).map PyData.bool) = _
  rw [if_pos ⟨sh_str hx, sh_strs h⟩, any_eqv]; rfl
theorem in_strsL {x : Str} {ys : List Str} (hx : Lay x) (h : ∀ y ∈ ys, Lay y) : oIn (.str x) (.list (ys.map .str)) = some (.bool (decide (x ∈ ys))) := by
  show ((if shaped (.str x) = true ∧ shaped (.list (ys.map .str)) = true then some ((ys.map PyData.str).any fun z => PyData.eqv z (.str x)) else none).map PyData.bool) = _
  rw [if_pos ⟨sh_str hx, sh_strsL h⟩, any_eqv]; rfl
theorem nd_eq {ls : List Ln} (nd : (ls.map (·.1)).Nodup) {l k : Ln} (h1 : l ∈ ls) (h2 : k ∈ ls) (e : l.1 = k.1) : l = k := by
  have a := find_mem nd h1
  have b := find_mem nd h2
  rw [e] at a
  exact Option.some.inj (a.symm.trans b)
theorem mem_onAt {p : Pl} (g : Good p) {l : Ln} (hl : l ∈ p.2) (b : Int) : decide (l.1 ∈ onAt p b) = isOn p l b := by
  cases h : isOn p l b with
  | true => exact decide_eq_true (List.mem_map.mpr ⟨l, List.mem_filter.mpr ⟨hl, h⟩, rfl⟩)
  | false =>
    refine decide_eq_false fun hm => ?_
    obtain ⟨k, hk, e⟩ := List.mem_map.mp hm
    obtain ⟨h1, h2⟩ := List.mem_filter.mp hk
    rw [nd_eq g.nd h1 hl e, h] at h2
    cases h2
theorem in_onAt {p : Pl} (g : Good p) (lay : ∀ l ∈ p.2, Lay l.1) {l : Ln} (hl : l ∈ p.2) (b : Int) : oIn (.str l.1) (.tuple ((onAt p b).map .str)) = some (.bool (isOn p l b)) := by
  rw [in_strs (lay l hl) (onAt_lay lay b), mem_onAt g hl]

/-! ### equal data -/
theorem eq_sameL {xs : List PyData} (h : shaped (.list xs) = true) : oEq (.list xs) (.list xs) = some (.bool true) := by
  show ((if shaped (.list xs) = true ∧ shaped (.list xs) = true then some (PyData.eqv (.list xs) (.list xs)) else none).map PyData.bool) = _
  rw [if_pos ⟨h, h⟩, eqv_self _ (canLay_of_shaped h)]; rfl
theorem ne_sameL {xs : List PyData} (h : shaped (.list xs) = true) : oNe (.list xs) (.list xs) = some (.bool false) := by
  show ((if shaped (.list xs) = true ∧ shaped (.list xs) = true then some (PyData.eqv (.list xs) (.list xs)) else none).map fun b => PyData.bool (!b)) = _
  rw [if_pos ⟨h, h⟩, eqv_self _ (canLay_of_shaped h)]; rfl
theorem sh_LL {ls : List Ln} (h : ∀ l ∈ ls, Lay l.1) : shaped (.list (ls.map dL)) = true := by
  unfold shaped
  have h1 : PyData.canLay0 (.list (ls.map dL)) = true := lay_L h
  have h2 : PyData.depth (.list (ls.map dL)) ≤ 2 := by have := dep_L ls; show PyData.depthAll _ + 1 ≤ 2; omega
  rw [h1, decide_eq_true (by omega)]; rfl
theorem sh_1L {l : Ln} (h : Lay l.1) : shaped (dL l) = true := by
  unfold shaped
  have h1 : PyData.canLay0 (dL l) = true := by
    show (PyData.canLay0 (.str l.1) && _) = true
    rw [h]; rfl
  have h2 : PyData.depth (dL l) = 1 := rfl
  rw [h1, h2]; rfl
theorem ne_P {p : Pl} (h : ∀ l ∈ p.2, Lay l.1) : oNe (dP p) (dP p) = some (.bool false) := ne_same (sh_P h)
theorem eq_P {p : Pl} (h : ∀ l ∈ p.2, Lay l.1) : oEq (dP p) (dP p) = some (.bool true) := eq_same (sh_P h)
theorem ne_L {l : Ln} (h : Lay l.1) : oNe (dL l) (dL l) = some (.bool false) := ne_same (sh_1L h)
theorem eq_L {l : Ln} (h : Lay l.1) : oEq (dL l) (dL l) = some (.bool true) := eq_same (sh_1L h)

/-! ### a width put -/
def putL (n : Str) (w : Int) (l : Ln) : Ln := (l.1, if l.1 = n then w else l.2.1, l.2.2)
def putP (p : Pl) (n : Str) (w : Int) : Pl := (p.1, p.2.map (putL n w))
theorem Good.put {p : Pl} (g : Good p) (n : Str) {w : Int} (h0 : 0 ≤ w) (h1 : w ≤ p.1) : Good (putP p n w) := by
  refine ⟨g.b, by show (p.2.map _).length ≤ _; rw [List.length_map]; exact g.len, fun l hl => ?_, ?_⟩
  · obtain ⟨k, hk, rfl⟩ := List.mem_map.mp hl
    have := g.w k hk
    show 0 ≤ (if k.1 = n then w else k.2.1) ∧ (if k.1 = n then w else k.2.1) ≤ p.1 ∧ _
    split
    · exact ⟨h0, h1, this.2.2⟩
    · exact this
  · show ((p.2.map _).map _).Nodup
    rw [List.map_map]; exact g.nd
theorem putP_len (p : Pl) (n : Str) (w : Int) : (putP p n w).2.length = p.2.length := by show (p.2.map _).length = _; rw [List.length_map]
theorem Lt.put {p : Pl} (h : Lt p) (n : Str) (w : Int) : Lt (putP p n w) := by
  obtain ⟨b, hb, e⟩ := h
  refine ⟨b, hb, ?_⟩
  rw [putP_len, ← e]
  show (p.2.map _).map _ = _
  rw [List.map_map]; rfl
theorem lineOf_put {p : Pl} {n m : Str} {w : Int} {l : Ln} (h : lineOf p n = some l) : lineOf (putP p m w) n = some (putL m w l) := lineOf_map (f := putL m w) (fun _ => rfl) h
theorem with_none {p : Pl} {n : Str} {w : Int} (h : lineOf p n = none) : f_with_width [dP p, .str n, .int w] = .exc "NoLine" := by
  have e : f_line_of [dP p, .str n] = .exc "NoLine" := by rw [line_of_eq, h]
  refine runP_exc (ρ := [some (.d (dP p)), some (.d (.str n)), some (.d (.int w)), none, none, none]) (S := []) ?_
  simp only [b_with_width, e, startE, rb_ok, rb_exc, rs_ok, rs_exc, s_seq, seq_nx, seq_rt, seq_bk, seq_ct, seq_exc, nxO_s, s_asg, s_par, s_par3, s_ret, s_expr, s_next, s_bk, s_ct, s_raise, s_if, ifS_t, ifS_f, ifS_exc, s_for, eVar, e_c, wOf_s, rOf_s, bOf_s, e_ix, asD_d, ob_s, om_s, e_d1, e_d2, e_dN, asDs_1, asDs_2, bvO_s, e_t, o1_s, o2_s, a_nil, a_cons, prO_ok, prO_exc, e_cp, e_cg, call_1, call_2, call_3, call_4, call_5, call_6, b_not, b_and, b_or, andB_t, andB_f, orB_t, orB_f, b_tr, truW_b, e_if, ifE_t, ifE_f, e_isN, e_notN, e_notV, notV_s, e_andV, andV_t, andV_f, e_ch, chO_t, chO_f, e_sl, o_no, o_yes, oiO_s, sl_t, sl_l, i_zip, zipI_t, zipI_l, add_ii, sub_ii, neg_i, lt_ii, le_ii, gt_ii, ge_ii, eq_ii, ne_ii, eq_ss, ne_ss, eq_bb, ne_bb, len_t, len_l, min_ii, max_ii, int_i, int_b, tup_l, tup_t, lst_l, lst_t, sum_ints, e_tup, e_lst, itO_s, i_any, itA_t, itA_l, i_r1, i_r2, bindT, bindTs, unpk_t, un_L, un_P, mkSq, allD, wipeE, LINE, List.map_cons, List.map_nil, List.length_cons, List.length_nil, List.replicate, List.cons_append, List.nil_append, Nat.sub_self, Nat.reduceSub, Nat.reduceAdd, List.getElem?_cons_zero, List.getElem?_cons_succ, List.set_cons_zero, List.set_cons_succ, reduceIte, Bool.false_eq_true, Bool.not_true, Bool.not_false, Nat.reduceLeDiff, if_true, if_false, decide_true, decide_false]
theorem with_bad {p : Pl} {n : Str} {w : Int} {l : Ln} (h : lineOf p n = some l) (hw : w < 0 ∨ p.1 < w) : f_with_width [dP p, .str n, .int w] = .exc "BadWidth" := by
  refine runP_exc (ρ := [some (.d (dP p)), some (.d (.str n)), some (.d (.int w)), none, none, none]) (S := []) ?_
  by_cases h0 : 0 ≤ w
  · have d1 : decide (0 ≤ w) = true := decide_eq_true h0
    have d2 : decide (w ≤ p.1) = false := decide_eq_false (by omega)
    simp only [b_with_width, line_of_ok h, ix_P0, d1, d2, startE, rb_ok, rb_exc, rs_ok, rs_exc, s_seq, seq_nx, seq_rt, seq_bk, seq_ct, seq_exc, nxO_s, s_asg, s_par, s_par3, s_ret, s_expr, s_next, s_bk, s_ct, s_raise, s_if, ifS_t, ifS_f, ifS_exc, s_for, eVar, e_c, wOf_s, rOf_s, bOf_s, e_ix, asD_d, ob_s, om_s, e_d1, e_d2, e_dN, asDs_1, asDs_2, bvO_s, e_t, o1_s, o2_s, a_nil, a_cons, prO_ok, prO_exc, e_cp, e_cg, call_1, call_2, call_3, call_4, call_5, call_6, b_not, b_and, b_or, andB_t, andB_f, orB_t, orB_f, b_tr, truW_b, e_if, ifE_t, ifE_f, e_isN, e_notN, e_notV, notV_s, e_andV, andV_t, andV_f, e_ch, chO_t, chO_f, e_sl, o_no, o_yes, oiO_s, sl_t, sl_l, i_zip, zipI_t, zipI_l, add_ii, sub_ii, neg_i, lt_ii, le_ii, gt_ii, ge_ii, eq_ii, ne_ii, eq_ss, ne_ss, eq_bb, ne_bb, len_t, len_l, min_ii, max_ii, int_i, int_b, tup_l, tup_t, lst_l, lst_t, sum_ints, e_tup, e_lst, itO_s, i_any, itA_t, itA_l, i_r1, i_r2, bindT, bindTs, unpk_t, un_L, un_P, mkSq, allD, wipeE, LINE, List.map_cons, List.map_nil, List.length_cons, List.length_nil, List.replicate, List.cons_append, List.nil_append, Nat.sub_self, Nat.reduceSub, Nat.reduceAdd, List.getElem?_cons_zero, List.getElem?_cons_succ, List.set_cons_zero, List.set_cons_succ, reduceIte, Bool.false_eq_true, Bool.not_true, Bool.not_false, Nat.reduceLeDiff, if_true, if_false, decide_true, decide_false]
  · have d1 : decide (0 ≤ w) = false := decide_eq_false h0
    simp only [b_with_width, line_of_ok h, ix_P0, d1, startE, rb_ok, rb_exc, rs_ok, rs_exc, s_seq, seq_nx, seq_rt, seq_bk, seq_ct, seq_exc, nxO_s, s_asg, s_par, s_par3, s_ret, s_expr, s_next, s_bk, s_ct, s_raise, s_if, ifS_t, ifS_f, ifS_exc, s_for, eVar, e_c, wOf_s, rOf_s, bOf_s, e_ix, asD_d, ob_s, om_s, e_d1, e_d2, e_dN, asDs_1, asDs_2, bvO_s, e_t, o1_s, o2_s, a_nil, a_cons, prO_ok, prO_exc, e_cp, e_cg, call_1, call_2, call_3, call_4, call_5, call_6, b_not, b_and, b_or, andB_t, andB_f, orB_t, orB_f, b_tr, truW_b, e_if, ifE_t, ifE_f, e_isN, e_notN, e_notV, notV_s, e_andV, andV_t, andV_f, e_ch, chO_t, chO_f, e_sl, o_no, o_yes, oiO_s, sl_t, sl_l, i_zip, zipI_t, zipI_l, add_ii, sub_ii, neg_i, lt_ii, le_ii, gt_ii, ge_ii, eq_ii, ne_ii, eq_ss, ne_ss, eq_bb, ne_bb, len_t, len_l, min_ii, max_ii, int_i, int_b, tup_l, tup_t, lst_l, lst_t, sum_ints, e_tup, e_lst, itO_s, i_any, itA_t, itA_l, i_r1, i_r2, bindT, bindTs, unpk_t, un_L, un_P, mkSq, allD, wipeE, LINE, List.map_cons, List.map_nil, List.length_cons, List.length_nil, List.replicate, List.cons_append, List.nil_append, Nat.sub_self, Nat.reduceSub, Nat.reduceAdd, List.getElem?_cons_zero, List.getElem?_cons_succ, List.set_cons_zero, List.set_cons_succ, reduceIte, Bool.false_eq_true, Bool.not_true, Bool.not_false, Nat.reduceLeDiff, if_true, if_false, decide_true, decide_false]
theorem with_ok {p : Pl} (g : Good p) {n : Str} {w : Int} {l : Ln} (h : lineOf p n = some l) (h0 : 0 ≤ w) (h1 : w ≤ p.1) : f_with_width [dP p, .str n, .int w] = .ok (dP (putP p n w)) := by
  have d1 : decide (0 ≤ w) = true := decide_eq_true h0
  have d2 : decide (w ≤ p.1) = true := decide_eq_true h1
  have hc := fun (y3 y4 y5 : Option Wv) (S : Store) => eComp_all (it := (iAny (eIx (eVar 0) (eC (.int 1))))) (tg := (.tp [(.nm 3), (.nm 4), (.nm 5)])) (f := e1_with_width) (vs := [3, 4, 5]) (ρ := [some (.d (dP p)), some (.d (.str (n))), some (.d (.int (w))), y3, y4, y5]) (S := S) (xs := p.2) (fun l => .d (dL l)) (fun l => dL (putL n w l)) (fun l => [some (.d (dP p)), some (.d (.str (n))), some (.d (.int (w))), some (.d (.str l.1)), some (.d (.int l.2.1)), some (.d (.int l.2.2))]) (by simp only [ix_P1, mapLd, startE, rb_ok, rb_exc, rs_ok, rs_exc, s_seq, seq_nx, seq_rt, seq_bk, seq_ct, seq_exc, nxO_s, s_asg, s_par, s_par3, s_ret, s_expr, s_next, s_bk, s_ct, s_raise, s_if, ifS_t, ifS_f, ifS_exc, s_for, eVar, e_c, wOf_s, rOf_s, bOf_s, e_ix, asD_d, ob_s, om_s, e_d1, e_d2, e_dN, asDs_1, asDs_2, bvO_s, e_t, o1_s, o2_s, a_nil, a_cons, prO_ok, prO_exc, e_cp, e_cg, call_1, call_2, call_3, call_4, call_5, call_6, b_not, b_and, b_or, andB_t, andB_f, orB_t, orB_f, b_tr, truW_b, e_if, ifE_t, ifE_f, e_isN, e_notN, e_notV, notV_s, e_andV, andV_t, andV_f, e_ch, chO_t, chO_f, e_sl, o_no, o_yes, oiO_s, sl_t, sl_l, i_zip, zipI_t, zipI_l, add_ii, sub_ii, neg_i, lt_ii, le_ii, gt_ii, ge_ii, eq_ii, ne_ii, eq_ss, ne_ss, eq_bb, ne_bb, len_t, len_l, min_ii, max_ii, int_i, int_b, tup_l, tup_t, lst_l, lst_t, sum_ints, e_tup, e_lst, itO_s, i_any, itA_t, itA_l, i_r1, i_r2, bindT, bindTs, unpk_t, un_L, un_P, mkSq, allD, wipeE, LINE, List.map_cons, List.map_nil, List.length_cons, List.length_nil, List.replicate, List.cons_append, List.nil_append, Nat.sub_self, Nat.reduceSub, Nat.reduceAdd, List.getElem?_cons_zero, List.getElem?_cons_succ, List.set_cons_zero, List.set_cons_succ, reduceIte, Bool.false_eq_true, Bool.not_true, Bool.not_false, Nat.reduceLeDiff, if_true, if_false, decide_true, decide_false]) (by have := g.len; unfold LINE; omega) (fun l _ => rfl) (fun l hl => by by_cases e : l.1 = n <;> simp only [e1_with_width, e, eq_ss, decide_true, decide_false, e_if, ifE_t, ifE_f, startE, rb_ok, rb_exc, rs_ok, rs_exc, s_seq, seq_nx, seq_rt, seq_bk, seq_ct, seq_exc, nxO_s, s_asg, s_par, s_par3, s_ret, s_expr, s_next, s_bk, s_ct, s_raise, s_if, ifS_t, ifS_f, ifS_exc, s_for, eVar, e_c, wOf_s, rOf_s, bOf_s, e_ix, asD_d, ob_s, om_s, e_d1, e_d2, e_dN, asDs_1, asDs_2, bvO_s, e_t, o1_s, o2_s, a_nil, a_cons, prO_ok, prO_exc, e_cp, e_cg, call_1, call_2, call_3, call_4, call_5, call_6, b_not, b_and, b_or, andB_t, andB_f, orB_t, orB_f, b_tr, truW_b, e_if, ifE_t, ifE_f, e_isN, e_notN, e_notV, notV_s, e_andV, andV_t, andV_f, e_ch, chO_t, chO_f, e_sl, o_no, o_yes, oiO_s, sl_t, sl_l, i_zip, zipI_t, zipI_l, add_ii, sub_ii, neg_i, lt_ii, le_ii, gt_ii, ge_ii, eq_ii, ne_ii, eq_ss, ne_ss, eq_bb, ne_bb, len_t, len_l, min_ii, max_ii, int_i, int_b, tup_l, tup_t, lst_l, lst_t, sum_ints, e_tup, e_lst, itO_s, i_any, itA_t, itA_l, i_r1, i_r2, bindT, bindTs, unpk_t, un_L, un_P, mkSq, allD, wipeE, LINE, List.map_cons, List.map_nil, List.length_cons, List.length_nil, List.replicate, List.cons_append, List.nil_append, Nat.sub_self, Nat.reduceSub, Nat.reduceAdd, List.getElem?_cons_zero, List.getElem?_cons_succ, List.set_cons_zero, List.set_cons_succ, reduceIte, Bool.false_eq_true, Bool.not_true, Bool.not_false, Nat.reduceLeDiff, if_true, if_false, decide_true, decide_false] <;> simp [dL, putL, e])
  refine runP_gs ?_
  simp only [startE, startE, rb_ok, rb_exc, rs_ok, rs_exc, s_seq, seq_nx, seq_rt, seq_bk, seq_ct, seq_exc, nxO_s, s_asg, s_par, s_par3, s_ret, s_expr, s_next, s_bk, s_ct, s_raise, s_if, ifS_t, ifS_f, ifS_exc, s_for, eVar, e_c, wOf_s, rOf_s, bOf_s, e_ix, asD_d, ob_s, om_s, e_d1, e_d2, e_dN, asDs_1, asDs_2, bvO_s, e_t, o1_s, o2_s, a_nil, a_cons, prO_ok, prO_exc, e_cp, e_cg, call_1, call_2, call_3, call_4, call_5, call_6, b_not, b_and, b_or, andB_t, andB_f, orB_t, orB_f, b_tr, truW_b, e_if, ifE_t, ifE_f, e_isN, e_notN, e_notV, notV_s, e_andV, andV_t, andV_f, e_ch, chO_t, chO_f, e_sl, o_no, o_yes, oiO_s, sl_t, sl_l, i_zip, zipI_t, zipI_l, add_ii, sub_ii, neg_i, lt_ii, le_ii, gt_ii, ge_ii, eq_ii, ne_ii, eq_ss, ne_ss, eq_bb, ne_bb, len_t, len_l, min_ii, max_ii, int_i, int_b, tup_l, tup_t, lst_l, lst_t, sum_ints, e_tup, e_lst, itO_s, i_any, itA_t, itA_l, i_r1, i_r2, bindT, bindTs, unpk_t, un_L, un_P, mkSq, allD, wipeE, LINE, List.map_cons, List.map_nil, List.length_cons, List.length_nil, List.replicate, List.cons_append, List.nil_append, Nat.sub_self, Nat.reduceSub, Nat.reduceAdd, List.getElem?_cons_zero, List.getElem?_cons_succ, List.set_cons_zero, List.set_cons_succ, reduceIte, Bool.false_eq_true, Bool.not_true, Bool.not_false, Nat.reduceLeDiff, if_true, if_false, decide_true, decide_false]
  apply step
  · simp only [line_of_ok h, startE, rb_ok, rb_exc, rs_ok, rs_exc, s_seq, seq_nx, seq_rt, seq_bk, seq_ct, seq_exc, nxO_s, s_asg, s_par, s_par3, s_ret, s_expr, s_next, s_bk, s_ct, s_raise, s_if, ifS_t, ifS_f, ifS_exc, s_for, eVar, e_c, wOf_s, rOf_s, bOf_s, e_ix, asD_d, ob_s, om_s, e_d1, e_d2, e_dN, asDs_1, asDs_2, bvO_s, e_t, o1_s, o2_s, a_nil, a_cons, prO_ok, prO_exc, e_cp, e_cg, call_1, call_2, call_3, call_4, call_5, call_6, b_not, b_and, b_or, andB_t, andB_f, orB_t, orB_f, b_tr, truW_b, e_if, ifE_t, ifE_f, e_isN, e_notN, e_notV, notV_s, e_andV, andV_t, andV_f, e_ch, chO_t, chO_f, e_sl, o_no, o_yes, oiO_s, sl_t, sl_l, i_zip, zipI_t, zipI_l, add_ii, sub_ii, neg_i, lt_ii, le_ii, gt_ii, ge_ii, eq_ii, ne_ii, eq_ss, ne_ss, eq_bb, ne_bb, len_t, len_l, min_ii, max_ii, int_i, int_b, tup_l, tup_t, lst_l, lst_t, sum_ints, e_tup, e_lst, itO_s, i_any, itA_t, itA_l, i_r1, i_r2, bindT, bindTs, unpk_t, un_L, un_P, mkSq, allD, wipeE, LINE, List.map_cons, List.map_nil, List.length_cons, List.length_nil, List.replicate, List.cons_append, List.nil_append, Nat.sub_self, Nat.reduceSub, Nat.reduceAdd, List.getElem?_cons_zero, List.getElem?_cons_succ, List.set_cons_zero, List.set_cons_succ, reduceIte, Bool.false_eq_true, Bool.not_true, Bool.not_false, Nat.reduceLeDiff, if_true, if_false, decide_true, decide_false]
    try rfl
  apply step
  · simp only [ix_P0, d1, d2, startE, rb_ok, rb_exc, rs_ok, rs_exc, s_seq, seq_nx, seq_rt, seq_bk, seq_ct, seq_exc, nxO_s, s_asg, s_par, s_par3, s_ret, s_expr, s_next, s_bk, s_ct, s_raise, s_if, ifS_t, ifS_f, ifS_exc, s_for, eVar, e_c, wOf_s, rOf_s, bOf_s, e_ix, asD_d, ob_s, om_s, e_d1, e_d2, e_dN, asDs_1, asDs_2, bvO_s, e_t, o1_s, o2_s, a_nil, a_cons, prO_ok, prO_exc, e_cp, e_cg, call_1, call_2, call_3, call_4, call_5, call_6, b_not, b_and, b_or, andB_t, andB_f, orB_t, orB_f, b_tr, truW_b, e_if, ifE_t, ifE_f, e_isN, e_notN, e_notV, notV_s, e_andV, andV_t, andV_f, e_ch, chO_t, chO_f, e_sl, o_no, o_yes, oiO_s, sl_t, sl_l, i_zip, zipI_t, zipI_l, add_ii, sub_ii, neg_i, lt_ii, le_ii, gt_ii, ge_ii, eq_ii, ne_ii, eq_ss, ne_ss, eq_bb, ne_bb, len_t, len_l, min_ii, max_ii, int_i, int_b, tup_l, tup_t, lst_l, lst_t, sum_ints, e_tup, e_lst, itO_s, i_any, itA_t, itA_l, i_r1, i_r2, bindT, bindTs, unpk_t, un_L, un_P, mkSq, allD, wipeE, LINE, List.map_cons, List.map_nil, List.length_cons, List.length_nil, List.replicate, List.cons_append, List.nil_append, Nat.sub_self, Nat.reduceSub, Nat.reduceAdd, List.getElem?_cons_zero, List.getElem?_cons_succ, List.set_cons_zero, List.set_cons_succ, reduceIte, Bool.false_eq_true, Bool.not_true, Bool.not_false, Nat.reduceLeDiff, if_true, if_false, decide_true, decide_false]
    try rfl
  apply fin
  · simp only [ix_P0, hc, startE, rb_ok, rb_exc, rs_ok, rs_exc, s_seq, seq_nx, seq_rt, seq_bk, seq_ct, seq_exc, nxO_s, s_asg, s_par, s_par3, s_ret, s_expr, s_next, s_bk, s_ct, s_raise, s_if, ifS_t, ifS_f, ifS_exc, s_for, eVar, e_c, wOf_s, rOf_s, bOf_s, e_ix, asD_d, ob_s, om_s, e_d1, e_d2, e_dN, asDs_1, asDs_2, bvO_s, e_t, o1_s, o2_s, a_nil, a_cons, prO_ok, prO_exc, e_cp, e_cg, call_1, call_2, call_3, call_4, call_5, call_6, b_not, b_and, b_or, andB_t, andB_f, orB_t, orB_f, b_tr, truW_b, e_if, ifE_t, ifE_f, e_isN, e_notN, e_notV, notV_s, e_andV, andV_t, andV_f, e_ch, chO_t, chO_f, e_sl, o_no, o_yes, oiO_s, sl_t, sl_l, i_zip, zipI_t, zipI_l, add_ii, sub_ii, neg_i, lt_ii, le_ii, gt_ii, ge_ii, eq_ii, ne_ii, eq_ss, ne_ss, eq_bb, ne_bb, len_t, len_l, min_ii, max_ii, int_i, int_b, tup_l, tup_t, lst_l, lst_t, sum_ints, e_tup, e_lst, itO_s, i_any, itA_t, itA_l, i_r1, i_r2, bindT, bindTs, unpk_t, un_L, un_P, mkSq, allD, wipeE, LINE, List.map_cons, List.map_nil, List.length_cons, List.length_nil, List.replicate, List.cons_append, List.nil_append, Nat.sub_self, Nat.reduceSub, Nat.reduceAdd, List.getElem?_cons_zero, List.getElem?_cons_succ, List.set_cons_zero, List.set_cons_succ, reduceIte, Bool.false_eq_true, Bool.not_true, Bool.not_false, Nat.reduceLeDiff, if_true, if_false, decide_true, decide_false]
    try rfl
  exact ⟨_, by show SRes.rt (.d (.tuple [.int p.1, .tuple (p.2.map fun l => dL (putL n w l))])) [] = _; rw [← dP_mk]; rfl⟩

theorem lineOf_none {p : Pl} {n : Str} (lt : Lt p) (n5 : p.2.length ≤ 5) (h : ∀ i : _root_.Fin 26, letter i.val ≠ n) : lineOf p n = none := by
  unfold lineOf
  rw [List.find?_eq_none]
  intro l hl
  obtain ⟨i, hi, e⟩ := lt.nm n5 l hl
  have := h ⟨i, hi⟩
  rw [e]
  simpa using this
theorem no_A : ∀ i : _root_.Fin 26, letter i.val ≠ "A" := by decide +kernel
theorem no_nil : ∀ i : _root_.Fin 26, letter i.val ≠ "" := by decide +kernel
theorem no_ab : ∀ i : _root_.Fin 26, letter i.val ≠ "ab" := by decide +kernel

/-! ### both on -/
def bothN (p : Pl) (l k : Ln) : Int := (((rng 0 p.1).filter fun b => isOn p l b && isOn p k b).length : Int)
theorem both_on_eq {p : Pl} (g : Good p) (lay : ∀ l ∈ p.2, Lay l.1) {l k : Ln} (hl : l ∈ p.2) (hk : k ∈ p.2) : f_both_on [dP p, .str l.1, .str k.1] = .ok (.int (bothN p l k)) := by
  have hb := g.b
  have s1 : small p.1 := ⟨by omega, by omega⟩
  have hc := fun (y3 : Option Wv) (S : Store) => eComp_eq (it := (iR1 (aCons (eIx (eVar 0) (eC (.int 0))) aNil))) (tg := (.nm 3)) (t := t1_both_on) (f := e1_both_on) (vs := [3]) (ρ := [some (.d (dP p)), some (.d (.str (l.1))), some (.d (.str (k.1))), y3]) (S := S) (xs := rng 0 p.1) (fun b => .d (.int b)) (fun b => isOn p l b && isOn p k b) (fun b => .int b) (fun b => [some (.d (dP p)), some (.d (.str (l.1))), some (.d (.str (k.1))), some (.d (.int b))]) (by simp only [ix_P0, r1O_s s1, rngW0_eq, startE, rb_ok, rb_exc, rs_ok, rs_exc, s_seq, seq_nx, seq_rt, seq_bk, seq_ct, seq_exc, nxO_s, s_asg, s_par, s_par3, s_ret, s_expr, s_next, s_bk, s_ct, s_raise, s_if, ifS_t, ifS_f, ifS_exc, s_for, eVar, e_c, wOf_s, rOf_s, bOf_s, e_ix, asD_d, ob_s, om_s, e_d1, e_d2, e_dN, asDs_1, asDs_2, bvO_s, e_t, o1_s, o2_s, a_nil, a_cons, prO_ok, prO_exc, e_cp, e_cg, call_1, call_2, call_3, call_4, call_5, call_6, b_not, b_and, b_or, andB_t, andB_f, orB_t, orB_f, b_tr, truW_b, e_if, ifE_t, ifE_f, e_isN, e_notN, e_notV, notV_s, e_andV, andV_t, andV_f, e_ch, chO_t, chO_f, e_sl, o_no, o_yes, oiO_s, sl_t, sl_l, i_zip, zipI_t, zipI_l, add_ii, sub_ii, neg_i, lt_ii, le_ii, gt_ii, ge_ii, eq_ii, ne_ii, eq_ss, ne_ss, eq_bb, ne_bb, len_t, len_l, min_ii, max_ii, int_i, int_b, tup_l, tup_t, lst_l, lst_t, sum_ints, e_tup, e_lst, itO_s, i_any, itA_t, itA_l, i_r1, i_r2, bindT, bindTs, unpk_t, un_L, un_P, mkSq, allD, wipeE, LINE, List.map_cons, List.map_nil, List.length_cons, List.length_nil, List.replicate, List.cons_append, List.nil_append, Nat.sub_self, Nat.reduceSub, Nat.reduceAdd, List.getElem?_cons_zero, List.getElem?_cons_succ, List.set_cons_zero, List.set_cons_succ, reduceIte, Bool.false_eq_true, Bool.not_true, Bool.not_false, Nat.reduceLeDiff, if_true, if_false, decide_true, decide_false]) (by rw [rng_len]; unfold LINE; omega) (fun b _ => rfl) (fun b hb => by
    have i1 := in_onAt g lay hl b
    have i2 := in_onAt g lay hk b
    simp only [t1_both_on, on_at_eq g, i1, startE, rb_ok, rb_exc, rs_ok, rs_exc, s_seq, seq_nx, seq_rt, seq_bk, seq_ct, seq_exc, nxO_s, s_asg, s_par, s_par3, s_ret, s_expr, s_next, s_bk, s_ct, s_raise, s_if, ifS_t, ifS_f, ifS_exc, s_for, eVar, e_c, wOf_s, rOf_s, bOf_s, e_ix, asD_d, ob_s, om_s, e_d1, e_d2, e_dN, asDs_1, asDs_2, bvO_s, e_t, o1_s, o2_s, a_nil, a_cons, prO_ok, prO_exc, e_cp, e_cg, call_1, call_2, call_3, call_4, call_5, call_6, b_not, b_and, b_or, andB_t, andB_f, orB_t, orB_f, b_tr, truW_b, e_if, ifE_t, ifE_f, e_isN, e_notN, e_notV, notV_s, e_andV, andV_t, andV_f, e_ch, chO_t, chO_f, e_sl, o_no, o_yes, oiO_s, sl_t, sl_l, i_zip, zipI_t, zipI_l, add_ii, sub_ii, neg_i, lt_ii, le_ii, gt_ii, ge_ii, eq_ii, ne_ii, eq_ss, ne_ss, eq_bb, ne_bb, len_t, len_l, min_ii, max_ii, int_i, int_b, tup_l, tup_t, lst_l, lst_t, sum_ints, e_tup, e_lst, itO_s, i_any, itA_t, itA_l, i_r1, i_r2, bindT, bindTs, unpk_t, un_L, un_P, mkSq, allD, wipeE, LINE, List.map_cons, List.map_nil, List.length_cons, List.length_nil, List.replicate, List.cons_append, List.nil_append, Nat.sub_self, Nat.reduceSub, Nat.reduceAdd, List.getElem?_cons_zero, List.getElem?_cons_succ, List.set_cons_zero, List.set_cons_succ, reduceIte, Bool.false_eq_true, Bool.not_true, Bool.not_false, Nat.reduceLeDiff, if_true, if_false, decide_true, decide_false]
    cases isOn p l b with
    | true => simp only [on_at_eq g, i2, startE, rb_ok, rb_exc, rs_ok, rs_exc, s_seq, seq_nx, seq_rt, seq_bk, seq_ct, seq_exc, nxO_s, s_asg, s_par, s_par3, s_ret, s_expr, s_next, s_bk, s_ct, s_raise, s_if, ifS_t, ifS_f, ifS_exc, s_for, eVar, e_c, wOf_s, rOf_s, bOf_s, e_ix, asD_d, ob_s, om_s, e_d1, e_d2, e_dN, asDs_1, asDs_2, bvO_s, e_t, o1_s, o2_s, a_nil, a_cons, prO_ok, prO_exc, e_cp, e_cg, call_1, call_2, call_3, call_4, call_5, call_6, b_not, b_and, b_or, andB_t, andB_f, orB_t, orB_f, b_tr, truW_b, e_if, ifE_t, ifE_f, e_isN, e_notN, e_notV, notV_s, e_andV, andV_t, andV_f, e_ch, chO_t, chO_f, e_sl, o_no, o_yes, oiO_s, sl_t, sl_l, i_zip, zipI_t, zipI_l, add_ii, sub_ii, neg_i, lt_ii, le_ii, gt_ii, ge_ii, eq_ii, ne_ii, eq_ss, ne_ss, eq_bb, ne_bb, len_t, len_l, min_ii, max_ii, int_i, int_b, tup_l, tup_t, lst_l, lst_t, sum_ints, e_tup, e_lst, itO_s, i_any, itA_t, itA_l, i_r1, i_r2, bindT, bindTs, unpk_t, un_L, un_P, mkSq, allD, wipeE, LINE, List.map_cons, List.map_nil, List.length_cons, List.length_nil, List.replicate, List.cons_append, List.nil_append, Nat.sub_self, Nat.reduceSub, Nat.reduceAdd, List.getElem?_cons_zero, List.getElem?_cons_succ, List.set_cons_zero, List.set_cons_succ, reduceIte, Bool.false_eq_true, Bool.not_true, Bool.not_false, Nat.reduceLeDiff, if_true, if_false, decide_true, decide_false]; rfl
    | false => rfl) (fun b hb _ => by simp only [e1_both_on, startE, rb_ok, rb_exc, rs_ok, rs_exc, s_seq, seq_nx, seq_rt, seq_bk, seq_ct, seq_exc, nxO_s, s_asg, s_par, s_par3, s_ret, s_expr, s_next, s_bk, s_ct, s_raise, s_if, ifS_t, ifS_f, ifS_exc, s_for, eVar, e_c, wOf_s, rOf_s, bOf_s, e_ix, asD_d, ob_s, om_s, e_d1, e_d2, e_dN, asDs_1, asDs_2, bvO_s, e_t, o1_s, o2_s, a_nil, a_cons, prO_ok, prO_exc, e_cp, e_cg, call_1, call_2, call_3, call_4, call_5, call_6, b_not, b_and, b_or, andB_t, andB_f, orB_t, orB_f, b_tr, truW_b, e_if, ifE_t, ifE_f, e_isN, e_notN, e_notV, notV_s, e_andV, andV_t, andV_f, e_ch, chO_t, chO_f, e_sl, o_no, o_yes, oiO_s, sl_t, sl_l, i_zip, zipI_t, zipI_l, add_ii, sub_ii, neg_i, lt_ii, le_ii, gt_ii, ge_ii, eq_ii, ne_ii, eq_ss, ne_ss, eq_bb, ne_bb, len_t, len_l, min_ii, max_ii, int_i, int_b, tup_l, tup_t, lst_l, lst_t, sum_ints, e_tup, e_lst, itO_s, i_any, itA_t, itA_l, i_r1, i_r2, bindT, bindTs, unpk_t, un_L, un_P, mkSq, allD, wipeE, LINE, List.map_cons, List.map_nil, List.length_cons, List.length_nil, List.replicate, List.cons_append, List.nil_append, Nat.sub_self, Nat.reduceSub, Nat.reduceAdd, List.getElem?_cons_zero, List.getElem?_cons_succ, List.set_cons_zero, List.set_cons_succ, reduceIte, Bool.false_eq_true, Bool.not_true, Bool.not_false, Nat.reduceLeDiff, if_true, if_false, decide_true, decide_false])
  refine runP_gs ?_
  simp only [startE, startE, rb_ok, rb_exc, rs_ok, rs_exc, s_seq, seq_nx, seq_rt, seq_bk, seq_ct, seq_exc, nxO_s, s_asg, s_par, s_par3, s_ret, s_expr, s_next, s_bk, s_ct, s_raise, s_if, ifS_t, ifS_f, ifS_exc, s_for, eVar, e_c, wOf_s, rOf_s, bOf_s, e_ix, asD_d, ob_s, om_s, e_d1, e_d2, e_dN, asDs_1, asDs_2, bvO_s, e_t, o1_s, o2_s, a_nil, a_cons, prO_ok, prO_exc, e_cp, e_cg, call_1, call_2, call_3, call_4, call_5, call_6, b_not, b_and, b_or, andB_t, andB_f, orB_t, orB_f, b_tr, truW_b, e_if, ifE_t, ifE_f, e_isN, e_notN, e_notV, notV_s, e_andV, andV_t, andV_f, e_ch, chO_t, chO_f, e_sl, o_no, o_yes, oiO_s, sl_t, sl_l, i_zip, zipI_t, zipI_l, add_ii, sub_ii, neg_i, lt_ii, le_ii, gt_ii, ge_ii, eq_ii, ne_ii, eq_ss, ne_ss, eq_bb, ne_bb, len_t, len_l, min_ii, max_ii, int_i, int_b, tup_l, tup_t, lst_l, lst_t, sum_ints, e_tup, e_lst, itO_s, i_any, itA_t, itA_l, i_r1, i_r2, bindT, bindTs, unpk_t, un_L, un_P, mkSq, allD, wipeE, LINE, List.map_cons, List.map_nil, List.length_cons, List.length_nil, List.replicate, List.cons_append, List.nil_append, Nat.sub_self, Nat.reduceSub, Nat.reduceAdd, List.getElem?_cons_zero, List.getElem?_cons_succ, List.set_cons_zero, List.set_cons_succ, reduceIte, Bool.false_eq_true, Bool.not_true, Bool.not_false, Nat.reduceLeDiff, if_true, if_false, decide_true, decide_false]
  apply step
  · simp only [line_of_ok (g.line hl), startE, rb_ok, rb_exc, rs_ok, rs_exc, s_seq, seq_nx, seq_rt, seq_bk, seq_ct, seq_exc, nxO_s, s_asg, s_par, s_par3, s_ret, s_expr, s_next, s_bk, s_ct, s_raise, s_if, ifS_t, ifS_f, ifS_exc, s_for, eVar, e_c, wOf_s, rOf_s, bOf_s, e_ix, asD_d, ob_s, om_s, e_d1, e_d2, e_dN, asDs_1, asDs_2, bvO_s, e_t, o1_s, o2_s, a_nil, a_cons, prO_ok, prO_exc, e_cp, e_cg, call_1, call_2, call_3, call_4, call_5, call_6, b_not, b_and, b_or, andB_t, andB_f, orB_t, orB_f, b_tr, truW_b, e_if, ifE_t, ifE_f, e_isN, e_notN, e_notV, notV_s, e_andV, andV_t, andV_f, e_ch, chO_t, chO_f, e_sl, o_no, o_yes, oiO_s, sl_t, sl_l, i_zip, zipI_t, zipI_l, add_ii, sub_ii, neg_i, lt_ii, le_ii, gt_ii, ge_ii, eq_ii, ne_ii, eq_ss, ne_ss, eq_bb, ne_bb, len_t, len_l, min_ii, max_ii, int_i, int_b, tup_l, tup_t, lst_l, lst_t, sum_ints, e_tup, e_lst, itO_s, i_any, itA_t, itA_l, i_r1, i_r2, bindT, bindTs, unpk_t, un_L, un_P, mkSq, allD, wipeE, LINE, List.map_cons, List.map_nil, List.length_cons, List.length_nil, List.replicate, List.cons_append, List.nil_append, Nat.sub_self, Nat.reduceSub, Nat.reduceAdd, List.getElem?_cons_zero, List.getElem?_cons_succ, List.set_cons_zero, List.set_cons_succ, reduceIte, Bool.false_eq_true, Bool.not_true, Bool.not_false, Nat.reduceLeDiff, if_true, if_false, decide_true, decide_false]
    try rfl
  apply step
  · simp only [line_of_ok (g.line hk), startE, rb_ok, rb_exc, rs_ok, rs_exc, s_seq, seq_nx, seq_rt, seq_bk, seq_ct, seq_exc, nxO_s, s_asg, s_par, s_par3, s_ret, s_expr, s_next, s_bk, s_ct, s_raise, s_if, ifS_t, ifS_f, ifS_exc, s_for, eVar, e_c, wOf_s, rOf_s, bOf_s, e_ix, asD_d, ob_s, om_s, e_d1, e_d2, e_dN, asDs_1, asDs_2, bvO_s, e_t, o1_s, o2_s, a_nil, a_cons, prO_ok, prO_exc, e_cp, e_cg, call_1, call_2, call_3, call_4, call_5, call_6, b_not, b_and, b_or, andB_t, andB_f, orB_t, orB_f, b_tr, truW_b, e_if, ifE_t, ifE_f, e_isN, e_notN, e_notV, notV_s, e_andV, andV_t, andV_f, e_ch, chO_t, chO_f, e_sl, o_no, o_yes, oiO_s, sl_t, sl_l, i_zip, zipI_t, zipI_l, add_ii, sub_ii, neg_i, lt_ii, le_ii, gt_ii, ge_ii, eq_ii, ne_ii, eq_ss, ne_ss, eq_bb, ne_bb, len_t, len_l, min_ii, max_ii, int_i, int_b, tup_l, tup_t, lst_l, lst_t, sum_ints, e_tup, e_lst, itO_s, i_any, itA_t, itA_l, i_r1, i_r2, bindT, bindTs, unpk_t, un_L, un_P, mkSq, allD, wipeE, LINE, List.map_cons, List.map_nil, List.length_cons, List.length_nil, List.replicate, List.cons_append, List.nil_append, Nat.sub_self, Nat.reduceSub, Nat.reduceAdd, List.getElem?_cons_zero, List.getElem?_cons_succ, List.set_cons_zero, List.set_cons_succ, reduceIte, Bool.false_eq_true, Bool.not_true, Bool.not_false, Nat.reduceLeDiff, if_true, if_false, decide_true, decide_false]
    try rfl
  apply fin
  · simp only [hc, startE, rb_ok, rb_exc, rs_ok, rs_exc, s_seq, seq_nx, seq_rt, seq_bk, seq_ct, seq_exc, nxO_s, s_asg, s_par, s_par3, s_ret, s_expr, s_next, s_bk, s_ct, s_raise, s_if, ifS_t, ifS_f, ifS_exc, s_for, eVar, e_c, wOf_s, rOf_s, bOf_s, e_ix, asD_d, ob_s, om_s, e_d1, e_d2, e_dN, asDs_1, asDs_2, bvO_s, e_t, o1_s, o2_s, a_nil, a_cons, prO_ok, prO_exc, e_cp, e_cg, call_1, call_2, call_3, call_4, call_5, call_6, b_not, b_and, b_or, andB_t, andB_f, orB_t, orB_f, b_tr, truW_b, e_if, ifE_t, ifE_f, e_isN, e_notN, e_notV, notV_s, e_andV, andV_t, andV_f, e_ch, chO_t, chO_f, e_sl, o_no, o_yes, oiO_s, sl_t, sl_l, i_zip, zipI_t, zipI_l, add_ii, sub_ii, neg_i, lt_ii, le_ii, gt_ii, ge_ii, eq_ii, ne_ii, eq_ss, ne_ss, eq_bb, ne_bb, len_t, len_l, min_ii, max_ii, int_i, int_b, tup_l, tup_t, lst_l, lst_t, sum_ints, e_tup, e_lst, itO_s, i_any, itA_t, itA_l, i_r1, i_r2, bindT, bindTs, unpk_t, un_L, un_P, mkSq, allD, wipeE, LINE, List.map_cons, List.map_nil, List.length_cons, List.length_nil, List.replicate, List.cons_append, List.nil_append, Nat.sub_self, Nat.reduceSub, Nat.reduceAdd, List.getElem?_cons_zero, List.getElem?_cons_succ, List.set_cons_zero, List.set_cons_succ, reduceIte, Bool.false_eq_true, Bool.not_true, Bool.not_false, Nat.reduceLeDiff, if_true, if_false, decide_true, decide_false]
    try rfl
  exact ⟨_, by unfold bothN; rw [List.length_map]⟩
theorem width_len {p : Pl} (g : Good p) {l : Ln} (hl : l ∈ p.2) : (((rng 0 p.1).filter fun b => isOn p l b).length : Int) = l.2.1 := by
  have hb := g.b
  have hw := g.w l hl
  have h1 := cnt_len hb.1 hw.1 hw.2.1 0 p.1 (by omega)
  have h2 := cnt_round (p := p) (l := l) hb.1 0 1
  rw [Int.zero_add, Int.one_mul, Int.one_mul] at h2
  rw [h1, h2]
theorem both_comm (p : Pl) (l k : Ln) : bothN p l k = bothN p k l := by
  unfold bothN
  rw [show (fun b => isOn p l b && isOn p k b) = fun b => isOn p k b && isOn p l b from funext fun b => Bool.and_comm _ _]
theorem filter_and_le {α : Type} (c d : α → Bool) : ∀ xs : List α, (xs.filter fun x => c x && d x).length ≤ (xs.filter c).length
  | [] => Nat.le_refl _
  | x :: r => by
    have ih := filter_and_le c d r
    rw [List.filter_cons, List.filter_cons]
    cases c x <;> cases d x <;> simp <;> omega
theorem filter_and_ge {α : Type} (c d : α → Bool) : ∀ xs : List α, (xs.filter c).length + (xs.filter d).length ≤ (xs.filter fun x => c x && d x).length + xs.length
  | [] => Nat.le_refl _
  | x :: r => by
    have ih := filter_and_ge c d r
    rw [List.filter_cons, List.filter_cons, List.filter_cons]
    cases c x <;> cases d x <;> simp <;> omega
theorem both_le {p : Pl} (g : Good p) {l k : Ln} (hl : l ∈ p.2) (hk : k ∈ p.2) : bothN p l k ≤ min l.2.1 k.2.1 := by
  have a : bothN p l k ≤ l.2.1 := by
    rw [← width_len g hl]
    exact Int.ofNat_le.mpr (filter_and_le _ _ _)
  have b : bothN p l k ≤ k.2.1 := by
    rw [both_comm, ← width_len g hk]
    exact Int.ofNat_le.mpr (filter_and_le _ _ _)
  omega
theorem both_ge {p : Pl} (g : Good p) {l k : Ln} (hl : l ∈ p.2) (hk : k ∈ p.2) : l.2.1 + k.2.1 - p.1 ≤ bothN p l k := by
  have h := filter_and_ge (fun b => isOn p l b) (fun b => isOn p k b) (rng 0 p.1)
  have h1 := width_len g hl
  have h2 := width_len g hk
  have h3 := rng_len 0 p.1
  have hb := g.b
  unfold bothN
  omega
theorem both_self {p : Pl} (g : Good p) {l : Ln} (hl : l ∈ p.2) : bothN p l l = l.2.1 := by
  rw [← width_len g hl]
  unfold bothN
  rw [show (fun b => isOn p l b && isOn p l b) = fun b => isOn p l b from funext fun b => Bool.and_self _]
theorem both_full {p : Pl} (g : Good p) {l k : Ln} (hk : k ∈ p.2) (hf : l.2.1 = p.1) : bothN p l k = k.2.1 := by
  rw [← width_len g hk]
  have hb := g.b
  unfold bothN
  have : ∀ b, isOn p l b = true := fun b => decide_eq_true (by rw [hf]; exact Int.emod_lt_of_pos _ hb.1)
  rw [show (fun b => isOn p l b && isOn p k b) = fun b => isOn p k b from funext fun b => by rw [this b, Bool.true_and]]
/-- one of the lines, drawn -/
theorem pick_line {ns : List Int} {n : Nat} {T S : Store} {p : Pl} (t : Tn n T S) (hs : ns.length ≤ 1000) (hn : n < 1000000) (h1 : 1 ≤ p.2.length) : ∃ l S', g__law_pick [.d (dS ns), .o 0, .d (.tuple (p.2.map dL))] S = .ok (.d (dL l)) S' ∧ l ∈ p.2 ∧ Tn (n + 1) T S' := by
  obtain ⟨y, S1, e1, ym, t1⟩ := pick_ok (xs := p.2.map dL) (w := .d (.tuple (p.2.map dL))) t hs hn (by rw [List.length_map]; omega) (.inr rfl)
  obtain ⟨l, hl, rfl⟩ := List.mem_map.mp ym
  exact ⟨l, S1, e1, hl, t1⟩
theorem ix_head {S : Store} {x : PyData} {r : List PyData} : ixW S (.d (.tuple (x :: r))) (.d (.int 0)) = some (.d x) :=
  ix_tuple (by rw [atI_in (Int.le_refl 0) (by rw [List.length_cons]; omega)]; rfl)
theorem ix_headL {S : Store} {x : PyData} {r : List PyData} : ixW S (.d (.list (x :: r))) (.d (.int 0)) = some (.d x) :=
  ix_list (by rw [atI_in (Int.le_refl 0) (by rw [List.length_cons]; omega)]; rfl)
theorem rngW_n (k : Nat) : rngW 0 k = (List.range k).map fun i : Nat => Wv.d (.int (0 + (i : Int))) := rfl
end PL

/-! # PL, part 6: sorted of a list or a tuple of data -/
namespace PL
open PySem PySem.Spec PyProof.Rows L2 PySem.SeqAt PySem.W
section
variable {P : Program} {w : World} {A : Around} {E : Value → Shared → Prop} {s : Shared}
theorem collect_tup {l : Addr} {vs : List Value} {Q : List Value → Shared → Prop} (ht : s.heap.IsTuple l vs.toArray) (hz : vs.length ≤ sizeLine)
    (h : Q vs { s with heap := (s.heap.push (seqObj "list" #[] 0)).update s.heap.objs.size (Obj.mapSeq (· ++ vs.toArray)) }) : wpAny (model P w) A (collect (.ref l)) Q E s := by
  obtain ⟨ob, g, cl, k, da⟩ := id ht
  have g' : (s.heap.push (seqObj "list" #[] 0)).get? l = some ob := Heap.get?_push_of_some _ g
  have gn : (s.heap.push (seqObj "list" #[] 0)).get? s.heap.objs.size = some (seqObj "list" #[] 0) := Heap.get?_push_size _ rfl
  have big : ((#[] : Array Value) ++ vs.toArray).size ≤ sizeLine + 1 := by simp only [Array.size_append, List.size_toArray, List.length_nil]; omega
  have ty : (Value.type "tuple" == Value.type "tuple") = true := rfl
  unfold collect
  refine wpAny_bind (wpAny_runValue (codeAny_builtin entry_proto_collect' (wpAny_bind (wpAny_newList (wpAny_pure ⟨Code.quiet_builtin _ (by decide +kernel), codeAny_builtin entry_list_iadd' ?_⟩)))))
  show wpAny _ _ (Builtin.List.listExtendWith (.ref s.heap.objs.size) (.ref l) (.ref s.heap.objs.size)) _ _ { s with heap := s.heap.push (seqObj "list" #[] 0) }
  unfold Builtin.List.listExtendWith
  refine wpAny_bind (wpAny_typeOf (T := "tuple") ⟨ob, g', cl⟩ ?_)
  rw [if_pos (by rw [ty]; simp)]
  refine wpAny_bind (listItems_at g' da (wpAny_bind (listItems_at (xs := #[]) (n := 0) gn rfl ?_)))
  rw [if_neg (by simp)]
  refine wpAny_bind (listUpdate_at (xs := #[]) (n := 0) gn rfl (wpAny_pure ?_) (Nat.zero_le _) big)
  refine wpAny_bind (wpAny_load (get?_update_seq gn _) ?_)
  show wpAny _ _ (pure ((#[] : Array Value) ++ vs.toArray).toList) Q E _
  rw [show ((#[] : Array Value) ++ vs.toArray).toList = vs by simp]; exact wpAny_pure h
theorem sorted_of_sortT {l : Addr} {vs : List Value} {Q : Value → Shared → Prop} (ht : s.heap.IsTuple l vs.toArray) (hz : vs.length ≤ sizeLine)
    (body : ∀ E' : Value → Shared → Prop, wpAny (model P w) A.in1.in1 (Builtin.«list.sort» ⟨[.ref (s.heap.objs.size + 1)], []⟩) (fun f s' => f = .done (.ret .none) ∧ Q (.ref (s.heap.objs.size + 1)) s') E' { s with heap := copyHeap s.heap vs }) :
    wpAny (model P w) A (call (.builtin "sorted") [.ref l]) Q E s := by
  refine call_function_entry_kw kind_sorted plain_sorted entry_sorted (args_sorted1 _) ?_
  unfold Builtin.«sorted»
  have sz : ((s.heap.push (seqObj "list" #[] 0)).update s.heap.objs.size (Obj.mapSeq (· ++ vs.toArray))).objs.size = s.heap.objs.size + 1 := by rw [Heap.size_update, size_push']
  refine wpAny_bind (m := checkCount "sorted" 1 1 _) (wpAny_pure (wpAny_bind (collect_tup ht hz (wpAny_bind (wpAny_newList ?_ hz)))))
  show wpAny _ _ _ _ _ { s with heap := copyHeap s.heap vs }
  rw [sz]
  refine wpAny_bind (wpAny_holding (wpAny_call_entry_kw slot_list_sort ⟨_, copyHeap_at s.heap vs, rfl⟩ entry_list_sort ?go (args_list_sort _)))
  case go =>
    show wpAny (model P w) A.in1.in1 (Builtin.«list.sort» ⟨[.ref (s.heap.objs.size + 1)], []⟩) _ _ _
    refine wpAny_mono (body _) (fun f s' ⟨e, q⟩ => ?_) fun _ _ e => e
    subst e
    exact ⟨_, rfl, wpAny_pure ⟨_, rfl, q⟩⟩
theorem sorted_dataT {R : Value → PyData → Prop} {vs : List Value} {bs : List PyData} {l : Addr} {Q : Value → Shared → Prop} (ht : s.heap.IsTuple l vs.toArray) (e : EachIs R vs bs) (er : EachIs (fun v b => ∃ as, Reads s.heap v b as) vs bs) (hal : AllAlike bs) (hk : Sortable bs) (hL : bs.length ≤ sizeLine)
    (hu : ∀ b, b ∈ bs → A.units + 2 + b.depth < cLine) (h : ∀ out, out.length = bs.length → EachIs R out (bs.mergeSort (dataLe false fun d => d)) → Q (.ref (s.heap.objs.size + 1)) { s with heap := sortedAll s.heap vs (List.toArray out) }) :
    wpAny (model P w) A (call (.builtin "sorted") [.ref l]) Q E s := by
  have hm : bs.map (fun d => d) = bs := by simp
  have er' : EachIs (fun v b => ∃ as, Reads (sortingHeap (copyHeap s.heap vs) (s.heap.objs.size + 1) vs) v b as) vs bs := er.mono fun _ _ ⟨as, r⟩ => ⟨as, PyProof.Rows.Reads.keeps (fun _ _ => sorting_copy_old) r⟩
  have hlen : vs.length = bs.length := e.length
  have S : SortsAt P w A.in1.in1 { s with heap := sortingHeap (copyHeap s.heap vs) (s.heap.objs.size + 1) vs } (dataKind (sortingHeap (copyHeap s.heap vs) (s.heap.objs.size + 1) vs) bs) vs :=
    SortsAt.data (s := { s with heap := sortingHeap (copyHeap s.heap vs) (s.heap.objs.size + 1) vs }) er' hal hk (fun b hb => by have := hu b hb; show A.units + 1 + 1 + b.depth < cLine; omega)
  refine sorted_of_sortT ht (by rw [hlen]; exact hL) fun E' => list_sort_vals (s := { s with heap := copyHeap s.heap vs }) (copyHeap_at s.heap vs) S (by rw [hlen]; exact hL) ⟨rfl, ?_⟩
  refine h _ ?_ ?_
  · rw [sortVals_length false rfl]; exact hlen
  · have z := sortVals_data (enc := fun d => d) false e er' (by rw [hm]; exact hal)
    rw [hm] at z; exact z
end
def oSrt : PyData → Option PyData
  | .list ds => if sortB ds = true then some (.list (srt ds)) else none
  | .tuple ds => if sortB ds = true then some (.list (srt ds)) else none
  | _ => none
def rSrtT (K : PySem.W.Frag) : List V → Hp → VK → Prop := fun vs H Q => ∃ (a : Addr) (xs : List V) (ds : List PyData) (G : Hp), vs = [.ref a] ∧ SqT K H a xs ∧ DpAll K H xs ds ∧ DpAll K G xs ds ∧ sortB ds = true ∧
  ∀ (ys : List V) (p : Addr), DpAll K G ys (srt ds) → H p = none → Q (.ref p) (upd H p (.lst ys))
section
variable {X : Cx} {ct : Str → Addr} {ex : WX} {e : Expr} {es : List Expr} {fl : Lf} {p pos : Pos}
theorem cr_srtT (hu : X.A.units + 65 < cLine) : CallR X (.builtin "sorted") (rSrtT X.K) := by
  intro pn z σ H vs us Q I r h
  obtain ⟨a, xs, ds, G, rfl, hs, hd, hg, hb, q⟩ := h
  obtain ⟨b1, b2, b3, b4⟩ := sortB_of hb
  obtain ⟨its, rv, ht, _⟩ := I.tuple hs
  rw [Vals.ref1 r]
  have hr : EachIs (fun v b => ∃ as, Reads z.heap v b as) its ds := by
    have gen : ∀ {xs : List V} {us : List Value} {ds : List PyData}, Vals xs us → DpAll X.K H xs ds → EachIs (fun v b => ∃ as, Reads z.heap v b as) us ds := by
      intro xs us ds hv hd
      induction hv generalizing ds with
      | nil => cases hd; exact .nil
      | cons r t ih => cases hd with
        | cons q w => exact .cons (Dp.reads I _ _ _ q r) (ih w)
    exact gen rv hd
  refine sorted_dataT (vs := its) (bs := ds) (R := RVD X.K G) ht (each_of rv hg) hr b1 b2 (by rw [line_eq]; exact b4) (fun d hd => by have := dep_mem hd; omega) fun out ho he => ?_
  obtain ⟨ys, y1, y2⟩ := each_back he
  obtain ⟨ep, he'⟩ := PyProof.Rows.sortedAll_at z.heap its (List.toArray out)
  have hlen : ys.length ≤ sizeLine := by rw [y1.length, ho, line_eq]; exact b4
  exact ⟨.ref _, upd H (z.heap.objs.size + 1) (.lst ys), I.laid (t' := z.toks) (fun _ _ => PyProof.Rows.sortedAll_old) (Nat.le_succ _) ⟨hlen, out, ep, y1, he'⟩, rfl, q ys _ y2 (I.hok.fresh (Nat.le_succ _))⟩
theorem ok_srt : OpN (CC X ct ex) (fun vs H Q => rSortD X.K vs H Q ∨ rSrtT X.K vs H Q) (o1 oSrt) := opN_one fun W S H v x y Q st hx e q => by
  cases x with
  | list ds =>
    have e' : (if sortB ds = true then some (PyData.list (srt ds)) else none) = some y := e
    by_cases hc : sortB ds = true
    · rw [if_pos hc] at e'
      cases e'
      obtain ⟨a, vs, rfl, hs, ha⟩ := hx
      exact .inl ⟨a, vs, ds, mask W.Z H, rfl, hs, DpAll.same (mask_same _ _) _ _ ha, ha, hc, fun ys p hy hp => q.lst st hy hp⟩
    · rw [if_neg hc] at e'; cases e'
  | tuple ds =>
    have e' : (if sortB ds = true then some (PyData.list (srt ds)) else none) = some y := e
    by_cases hc : sortB ds = true
    · rw [if_pos hc] at e'
      cases e'
      cases hx with
      | tup h1 h2 => exact .inr ⟨_, _, ds, mask W.Z H, rfl, Same.seqT (mask_same _ _) h1, DpAll.same (mask_same _ _) _ _ h2, h2, hc, fun ys p hy hp => q.lst st hy hp⟩
    · rw [if_neg hc] at e'; cases e'
  | _ => cases e
theorem ee_srt (hm : X.mg "sorted" = none) (hu : X.A.units + 65 < cLine) (ha : PA X (e :: es) (tL (CC X ct ex) fl)) (hg : Gl X "sorted" := by rfl) (he : starEach (e :: es) X.env = (false, eval e X.env) :: starEach es X.env := by rfl) (hpl : (backTo pos (starEach es X.env)).any (·.1) = false := by rfl) :
    PE X (.Call (.Name "sorted" p) (e :: es) [] pos) (tE (CC X ct ex) (eDN (o1 oSrt) fl)) := ee_callB ((cr_sortD hu).or (cr_srtT hu)) ok_srt hm (by decide +kernel) ha hg (by decide) (by decide) he hpl
end
end PL

/-! # PL, part M: the bodies of the defs that many laws share (printed by gen.py -bodies) -/
namespace PL
open PySem PySem.Spec PyProof.Rows L2
abbrev n_events : List Str := ["plan", "first", "last", "found", "line"]
abbrev p_events : List Str := ["plan", "first", "last"]
def l1_events : Sf := (sExpr (eExt (eVar 3) (aCons (eDN (o1 oList) (aCons (eCallP f_line_events (aCons (eVar 0) (aCons (eIx (eVar 4) (eC (.int 0))) (aCons (eVar 1) (aCons (eVar 2) aNil))))) aNil)) aNil)))
def b_events : Sf := (sSeq (sAsg (.nm 3) (eNewL aNil)) (sSeq (sFor (iAny (eIx (eVar 0) (eC (.int 1)))) (.nm 4) l1_events) (frz 3 (sRet (eDN (o1 oTuple) (aCons (eDN (o1 oSrt) (aCons (eVar 3) aNil)) aNil))))))
def f_events : List PyData → PRes := runP 5 b_events
abbrev n_wakes : List Str := ["plan", "found", "line", "edges"]
abbrev p_wakes : List Str := ["plan"]
def l1_wakes : Sf := (sSeq (sAsg (.nm 3) (eCallP f_line_edges (aCons (eVar 0) (aCons (eIx (eVar 2) (eC (.int 0))) aNil)))) (sIf (eT (eNotN (eVar 3))) (sExpr (eExt (eVar 1) (aCons (eDN (o1 oList) (aCons (eVar 3) aNil)) aNil))) sNext))
def b_wakes : Sf := (sSeq (sAsg (.nm 1) (eNewL aNil)) (sSeq (sFor (iAny (eIx (eVar 0) (eC (.int 1)))) (.nm 2) l1_wakes) (frz 1 (sRet (eDN (o1 oTuple) (aCons (eDN (o1 oSSet) (aCons (eVar 1) aNil)) aNil))))))
def f_wakes : List PyData → PRes := runP 4 b_wakes
abbrev n_is_near : List Str := ["plan", "some", "slack", "edge", "one"]
abbrev p_is_near : List Str := ["plan", "some", "slack"]
def e1_is_near : Ef := (eD2 oLe (eCallP f_apart (aCons (eIx (eVar 0) (eC (.int 0))) (aCons (eVar 3) (aCons (eVar 4) aNil)))) (eVar 2))
def e2_is_near : Ef := (eDN (o1 oAny) (aCons (eComp (iAny (eVar 1)) (.nm 4) bYes e1_is_near [4]) aNil))
def b_is_near : Sf := (sRet (eDN (o1 oAll) (aCons (eComp (iAny (eCallP f_wakes (aCons (eVar 0) aNil))) (.nm 3) bYes e2_is_near [3]) aNil)))
def f_is_near : List PyData → PRes := runP 5 b_is_near
abbrev n_chain : List Str := ["plan", "first", "slack", "beats", "left", "found", "later", "edge"]
abbrev p_chain : List Str := ["plan", "first", "slack"]
def fu_chain_1 : En → Store → Nat := fun _ _ => 100000
def e1_chain : Ef := (eD2 oMod (eD2 oSub (eVar 7) (eVar 1)) (eVar 3))
def t1_chain : Bf := (eT (eD2 oGt (eCallP f_apart (aCons (eVar 3) (aCons (eVar 7) (aCons (eVar 1) aNil)))) (eVar 2)))
def e2_chain : Ef := (eVar 7)
def t2_chain : Bf := (eT (eD2 oGt (eVar 7) (eD2 oAdd (eVar 6) (eVar 2))))
def l1_chain : Sf := (sSeq (sAsg (.nm 6) (eD2 oAdd (eIx (eVar 4) (eC (.int 0))) (eVar 2))) (sSeq (sExpr (eApp (eVar 5) (aCons (eD2 oMod (eD2 oAdd (eVar 1) (eVar 6)) (eVar 3)) aNil))) (sAsg (.nm 4) (eComp (iAny (eVar 4)) (.nm 7) t2_chain e2_chain [7]))))
def t3_chain : Bf := (bTr (eVar 4))
def b_chain : Sf := (sSeq (sAsg (.nm 3) (eIx (eVar 0) (eC (.int 0)))) (sSeq (sAsg (.nm 4) (eDN (o1 oSrt) (aCons (eComp (iAny (eCallP f_wakes (aCons (eVar 0) aNil))) (.nm 7) t1_chain e1_chain [7]) aNil))) (sSeq (sAsg (.nm 5) (eNewL (aCons (eVar 1) aNil))) (sSeq (sWhile fu_chain_1 t3_chain l1_chain) (frz 5 (sRet (eDN (o1 oTuple) (aCons (eDN (o1 oSrt) (aCons (eVar 5) aNil)) aNil))))))))
def f_chain : List PyData → PRes := runP 8 b_chain
abbrev n_least_many : List Str := ["plan", "slack", "edge", "firsts", "by", "first"]
abbrev p_least_many : List Str := ["plan", "slack"]
def e1_least_many : Ef := (eD2 oMod (eD2 oAdd (eVar 2) (eVar 4)) (eIx (eVar 0) (eC (.int 0))))
def e2_least_many : Ef := (eDN (o1 oLen) (aCons (eCallP f_chain (aCons (eVar 0) (aCons (eVar 5) (aCons (eVar 1) aNil)))) aNil))
def b_least_many : Sf := (sSeq (sIf (eT (eD2 oEq (eCallP f_wakes (aCons (eVar 0) aNil)) (eTup aNil))) (sRet (eC (.int 0))) sNext) (sSeq (sAsg (.nm 2) (eIx (eCallP f_wakes (aCons (eVar 0) aNil)) (eC (.int 0)))) (sSeq (sAsg (.nm 3) (eComp (iR2 (aCons (eD2 oSub (eC (.int 0)) (eVar 1)) (aCons (eD2 oAdd (eVar 1) (eC (.int 1))) aNil))) (.nm 4) bYes e1_least_many [4])) (sRet (eDN (o1 oMin1) (aCons (eComp (iAny (eVar 3)) (.nm 5) bYes e2_least_many [5]) aNil))))))
def f_least_many : List PyData → PRes := runP 6 b_least_many
abbrev n_mix_on : List Str := ["some", "beat", "found", "plan"]
abbrev p_mix_on : List Str := ["some", "beat"]
def l1_mix_on : Sf := (sExpr (eExt (eVar 2) (aCons (eDN (o1 oList) (aCons (eCallP f_on_at (aCons (eVar 3) (aCons (eVar 1) aNil))) aNil)) aNil)))
def b_mix_on : Sf := (sSeq (sAsg (.nm 2) (eNewL aNil)) (sSeq (sFor (iAny (eVar 0)) (.nm 3) l1_mix_on) (frz 2 (sRet (eDN (o1 oTuple) (aCons (eDN (o1 oSrt) (aCons (eVar 2) aNil)) aNil))))))
def f_mix_on : List PyData → PRes := runP 4 b_mix_on
abbrev n_mix_events : List Str := ["some", "first", "last", "found", "plan"]
abbrev p_mix_events : List Str := ["some", "first", "last"]
def l1_mix_events : Sf := (sExpr (eExt (eVar 3) (aCons (eDN (o1 oList) (aCons (eCallP f_events (aCons (eVar 4) (aCons (eVar 1) (aCons (eVar 2) aNil)))) aNil)) aNil)))
def b_mix_events : Sf := (sSeq (sAsg (.nm 3) (eNewL aNil)) (sSeq (sFor (iAny (eVar 0)) (.nm 4) l1_mix_events) (frz 3 (sRet (eDN (o1 oTuple) (aCons (eDN (o1 oSrt) (aCons (eVar 3) aNil)) aNil))))))
def f_mix_events : List PyData → PRes := runP 5 b_mix_events
abbrev n_next_wake : List Str := ["some", "beat", "rows", "plan", "edge"]
abbrev p_next_wake : List Str := ["some", "beat"]
def e1_next_wake : Ef := (eD2 oAdd (eVar 1) (eD2 oMod (eD2 oSub (eVar 4) (eVar 1)) (eIx (eVar 3) (eC (.int 0)))))
def l1_next_wake : Sf := (sExpr (eExt (eVar 2) (aCons (eComp (iAny (eCallP f_wakes (aCons (eVar 3) aNil))) (.nm 4) bYes e1_next_wake [4]) aNil)))
def b_next_wake : Sf := (sSeq (sAsg (.nm 2) (eNewL aNil)) (sSeq (sFor (iAny (eVar 0)) (.nm 3) l1_next_wake) (frz 2 (sSeq (sIf (bNot (bTr (eVar 2))) (sRet (eC .none)) sNext) (sRet (eDN (o1 oMin1) (aCons (eVar 2) aNil)))))))
def f_next_wake : List PyData → PRes := runP 5 b_next_wake
abbrev n__law_mix : List Str := ["_law_script", "_law_town", "_law_got", "_law_left", "_law_alike", "_law_beats", "_law_k", "_law_lines", "_law_j", "_law_at", "_law_name", "_law_width"]
abbrev p__law_mix : List Str := ["_law_script", "_law_town"]
def l1__law_mix : Sf := (sSeq (sAsg (.nm 9) (eCallG g__law_draw (aCons (eVar 0) (aCons (eVar 1) (aCons (eDN (o1 oLen) (aCons (eVar 3) aNil)) aNil))))) (sSeq (sPar 10 3 (aCons (eIx (eVar 3) (eVar 9)) (aCons (eD2 oAdd (eSl (eVar 3) oNo (oYes (eVar 9))) (eSl (eVar 3) (oYes (eD2 oAdd (eVar 9) (eC (.int 1)))) oNo)) aNil))) (sSeq (sAsg (.nm 11) (eCallG g__law_draw (aCons (eVar 0) (aCons (eVar 1) (aCons (eD2 oAdd (eVar 5) (eC (.int 1))) aNil))))) (sAsg (.nm 7) (eD2 oAdd (eVar 7) (eTup (aCons (eTup (aCons (eVar 10) (aCons (eVar 11) (aCons (eCallG g__law_draw (aCons (eVar 0) (aCons (eVar 1) (aCons (eVar 5) aNil)))) aNil)))) aNil)))))))
def l2__law_mix : Sf := (sSeq (sAsg (.nm 5) (eIf (bTr (eVar 4)) (eVar 5) (eD2 oAdd (eC (.int 4)) (eCallG g__law_draw (aCons (eVar 0) (aCons (eVar 1) (aCons (eC (.int 12)) aNil))))))) (sSeq (sAsg (.nm 7) (eTup aNil)) (sSeq (sFor (iR1 (aCons (eD2 oAdd (eC (.int 1)) (eCallG g__law_draw (aCons (eVar 0) (aCons (eVar 1) (aCons (eC (.int 3)) aNil))))) aNil)) (.nm 8) l1__law_mix) (sAsg (.nm 2) (eD2 oAdd (eVar 2) (eTup (aCons (eTup (aCons (eVar 5) (aCons (eDN (o1 oTuple) (aCons (eDN (o1 oSrt) (aCons (eVar 7) aNil)) aNil)) aNil))) aNil)))))))
def b__law_mix : Sf := (sSeq (sPar 2 3 (aCons (eTup aNil) (aCons (eC (.str "abcdefghijklmnopqr")) aNil))) (sSeq (sAsg (.nm 4) (eD2 oEq (eCallG g__law_draw (aCons (eVar 0) (aCons (eVar 1) (aCons (eC (.int 3)) aNil)))) (eC (.int 0)))) (sSeq (sAsg (.nm 5) (eD2 oAdd (eC (.int 4)) (eCallG g__law_draw (aCons (eVar 0) (aCons (eVar 1) (aCons (eC (.int 12)) aNil)))))) (sSeq (sFor (iR1 (aCons (eD2 oAdd (eC (.int 1)) (eCallG g__law_draw (aCons (eVar 0) (aCons (eVar 1) (aCons (eC (.int 3)) aNil))))) aNil)) (.nm 6) l2__law_mix) (sRet (eVar 2))))))
def g__law_mix : List Wv → Store → Res Wv := runG 12 b__law_mix
end PL

/-! # PL, part 7: sorting; edges, events, wakes -/
namespace PL
open PySem PySem.Spec PyProof.Rows L2 PySem.SeqAt PySem.W
abbrev dle : PyData → PyData → Bool := dataLe false fun d => d
theorem dle_eq (x y : PyData) : dle x y = !dataLt y x := rfl
theorem dle_trans (a b c : PyData) : dle a b = true → dle b c = true → dle a c = true := (sortLe_total (listOrd itemOrd) false fun b => keyToks b).trans a b c
theorem dle_total (a b : PyData) : (dle a b || dle b a) = true := by
  have := (sortLe_total (listOrd itemOrd) false fun b => keyToks b).total a b
  rw [Bool.or_eq_true]; exact this
/-- strictly ahead -/
abbrev Ah (x y : PyData) : Prop := dle x y = true ∧ dle y x = false
theorem ah_uniq : ∀ {a b : List PyData}, a.Perm b → a.Pairwise (fun x y => dle x y = true) → b.Pairwise Ah → a = b
  | a, [], p, _, _ => p.eq_nil
  | [], y :: b, p, _, _ => p.symm.eq_nil.symm
  | x :: a, y :: b, p, ha, hb => by
    rw [List.pairwise_cons] at ha hb
    have e : x = y := by
      rcases List.mem_cons.mp (p.subset List.mem_cons_self) with e | e
      · exact e
      · rcases List.mem_cons.mp (p.symm.subset List.mem_cons_self) with e2 | e2
        · exact e2.symm
        · have h1 := (hb.1 x e).2
          have h2 := ha.1 y e2
          rw [h1] at h2
          cases h2
    subst e
    rw [ah_uniq (List.perm_cons x |>.mp p) ha.2 hb.2]
theorem srt_sorted (ds : List PyData) : (srt ds).Pairwise fun x y => dle x y = true := List.pairwise_mergeSort dle_trans dle_total ds
theorem srt_of {xs ys : List PyData} (p : ys.Perm xs) (h : xs.Pairwise Ah) : srt ys = xs := ah_uniq ((List.mergeSort_perm ys _).trans p) (srt_sorted ys) h
theorem dlt_int (x y : Int) : dataLt (.int x) (.int y) = decide (x < y) := dataLt_int ..
theorem dlt_str (x y : Str) : dataLt (.str x) (.str y) = decide (x.cps.toList < y.cps.toList) := dataLt_str ..
theorem ah_int {x y : Int} (h : x < y) : Ah (.int x) (.int y) := by
  constructor
  · rw [dle_eq, dlt_int, decide_eq_false (by omega)]; rfl
  · rw [dle_eq, dlt_int, decide_eq_true h]; rfl
theorem ah_str {x y : Str} (h : x.cps.toList < y.cps.toList) : Ah (.str x) (.str y) := by
  constructor
  · rw [dle_eq, dlt_str, decide_eq_false (fun q => List.lt_asymm h q)]; rfl
  · rw [dle_eq, dlt_str, decide_eq_true h]; rfl
theorem dlt_tup (xs ys : List PyData) : dataLt (.tuple xs) (.tuple ys) = PyProof.Rows.lexLt itemOrd (keyToksAll xs) (keyToksAll ys) := rfl
theorem ah_head {x y : PyData} {xs ys : List PyData} (hx : alike x y = true) (hy : alike y x = true) (e1 : PyData.eqv x y = false) (e2 : PyData.eqv y x = false) (h : Ah x y) : Ah (.tuple (x :: xs)) (.tuple (y :: ys)) := by
  constructor
  · rw [dle_eq, dlt_tup, dataLt_cons hy, e2, if_neg Bool.false_ne_true]; exact h.1
  · rw [dle_eq, dlt_tup, dataLt_cons hx, e1, if_neg Bool.false_ne_true]; exact h.2
theorem ah_tail {x y : PyData} {xs ys : List PyData} (hx : alike x y = true) (hy : alike y x = true) (e1 : PyData.eqv x y = true) (e2 : PyData.eqv y x = true) (h : Ah (.tuple xs) (.tuple ys)) : Ah (.tuple (x :: xs)) (.tuple (y :: ys)) := by
  constructor
  · rw [dle_eq, dlt_tup, dataLt_cons hy, e2, if_pos rfl]; exact h.1
  · rw [dle_eq, dlt_tup, dataLt_cons hx, e1, if_pos rfl]; exact h.2
theorem ah_tint {x y : Int} {xs ys : List PyData} (h : x < y) : Ah (.tuple (.int x :: xs)) (.tuple (.int y :: ys)) := by
  have a : (x == y) = false := beq_eq_false_iff_ne.mpr (by omega)
  have b : (y == x) = false := beq_eq_false_iff_ne.mpr (by omega)
  exact ah_head rfl rfl (by simpa [PyData.eqv] using a) (by simpa [PyData.eqv] using b) (ah_int h)
theorem ah_tsame {x : Int} {xs ys : List PyData} (h : Ah (.tuple xs) (.tuple ys)) : Ah (.tuple (.int x :: xs)) (.tuple (.int x :: ys)) :=
  ah_tail rfl rfl (by simp [PyData.eqv]) (by simp [PyData.eqv]) h
theorem str_irr (x : List Nat) : ¬ x < x := List.lt_irrefl x
theorem ah_tstr {x y : Str} {xs ys : List PyData} (h : x.cps.toList < y.cps.toList) : Ah (.tuple (.str x :: xs)) (.tuple (.str y :: ys)) := by
  have n : x ≠ y := fun e => by subst e; exact str_irr _ h
  have a : (x == y) = false := beq_eq_false_iff_ne.mpr n
  have b : (y == x) = false := beq_eq_false_iff_ne.mpr (Ne.symm n)
  exact ah_head rfl rfl (by simpa [PyData.eqv] using a) (by simpa [PyData.eqv] using b) (ah_str h)

/-! ### names that rise -/
def Rise (p : Pl) : Prop := p.2.Pairwise fun a b => a.1.cps.toList < b.1.cps.toList
theorem letter_lt {i j : Nat} (h : i < j) : (letter i).cps.toList < (letter j).cps.toList := by
  show ([97 + i] : List Nat) < [97 + j]
  exact List.Lex.rel (by omega)
theorem Lt.rise {p : Pl} (h : Lt p) : Rise p := by
  obtain ⟨b, hb, e⟩ := h
  have : (p.2.map (·.1)).Pairwise fun a b => a.cps.toList < b.cps.toList := by
    rw [e, List.pairwise_map]
    refine List.Pairwise.imp (fun {i j} hij => ?_) (List.pairwise_lt_range (n := p.2.length))
    exact letter_lt (by omega)
  rw [List.pairwise_map] at this
  exact this

/-! ### edges -/
def edgesOf (p : Pl) (l : Ln) : Option (Int × Int) := if l.2.1 = 0 ∨ l.2.1 = p.1 then none else some (l.2.2, (l.2.2 + l.2.1) % p.1)
def edgesD : Option (Int × Int) → PyData
  | none => .none
  | some (a, b) => .tuple [.int a, .int b]
theorem line_edges_eq {p : Pl} (hb : 0 < p.1) {n : Str} {l : Ln} (h : lineOf p n = some l) : f_line_edges [dP p, .str n] = .ok (edgesD (edgesOf p l)) := by
  refine runP_gs ?_
  simp only [startE, startE, rb_ok, rb_exc, rs_ok, rs_exc, s_seq, seq_nx, seq_rt, seq_bk, seq_ct, seq_exc, nxO_s, s_asg, s_par, s_par3, s_ret, s_expr, s_next, s_bk, s_ct, s_raise, s_if, ifS_t, ifS_f, ifS_exc, s_for, eVar, e_c, wOf_s, rOf_s, bOf_s, e_ix, asD_d, ob_s, om_s, e_d1, e_d2, e_dN, asDs_1, asDs_2, bvO_s, e_t, o1_s, o2_s, a_nil, a_cons, prO_ok, prO_exc, e_cp, e_cg, call_1, call_2, call_3, call_4, call_5, call_6, b_not, b_and, b_or, andB_t, andB_f, orB_t, orB_f, b_tr, truW_b, e_if, ifE_t, ifE_f, e_isN, e_notN, e_notV, notV_s, e_andV, andV_t, andV_f, e_ch, chO_t, chO_f, e_sl, o_no, o_yes, oiO_s, sl_t, sl_l, i_zip, zipI_t, zipI_l, add_ii, sub_ii, neg_i, lt_ii, le_ii, gt_ii, ge_ii, eq_ii, ne_ii, eq_ss, ne_ss, eq_bb, ne_bb, len_t, len_l, min_ii, max_ii, int_i, int_b, tup_l, tup_t, lst_l, lst_t, sum_ints, e_tup, e_lst, itO_s, i_any, itA_t, itA_l, i_r1, i_r2, bindT, bindTs, unpk_t, un_L, un_P, mkSq, allD, wipeE, LINE, List.map_cons, List.map_nil, List.length_cons, List.length_nil, List.replicate, List.cons_append, List.nil_append, Nat.sub_self, Nat.reduceSub, Nat.reduceAdd, List.getElem?_cons_zero, List.getElem?_cons_succ, List.set_cons_zero, List.set_cons_succ, reduceIte, Bool.false_eq_true, Bool.not_true, Bool.not_false, Nat.reduceLeDiff, if_true, if_false, decide_true, decide_false]
  apply step
  · simp only [line_of_ok h, startE, rb_ok, rb_exc, rs_ok, rs_exc, s_seq, seq_nx, seq_rt, seq_bk, seq_ct, seq_exc, nxO_s, s_asg, s_par, s_par3, s_ret, s_expr, s_next, s_bk, s_ct, s_raise, s_if, ifS_t, ifS_f, ifS_exc, s_for, eVar, e_c, wOf_s, rOf_s, bOf_s, e_ix, asD_d, ob_s, om_s, e_d1, e_d2, e_dN, asDs_1, asDs_2, bvO_s, e_t, o1_s, o2_s, a_nil, a_cons, prO_ok, prO_exc, e_cp, e_cg, call_1, call_2, call_3, call_4, call_5, call_6, b_not, b_and, b_or, andB_t, andB_f, orB_t, orB_f, b_tr, truW_b, e_if, ifE_t, ifE_f, e_isN, e_notN, e_notV, notV_s, e_andV, andV_t, andV_f, e_ch, chO_t, chO_f, e_sl, o_no, o_yes, oiO_s, sl_t, sl_l, i_zip, zipI_t, zipI_l, add_ii, sub_ii, neg_i, lt_ii, le_ii, gt_ii, ge_ii, eq_ii, ne_ii, eq_ss, ne_ss, eq_bb, ne_bb, len_t, len_l, min_ii, max_ii, int_i, int_b, tup_l, tup_t, lst_l, lst_t, sum_ints, e_tup, e_lst, itO_s, i_any, itA_t, itA_l, i_r1, i_r2, bindT, bindTs, unpk_t, un_L, un_P, mkSq, allD, wipeE, LINE, List.map_cons, List.map_nil, List.length_cons, List.length_nil, List.replicate, List.cons_append, List.nil_append, Nat.sub_self, Nat.reduceSub, Nat.reduceAdd, List.getElem?_cons_zero, List.getElem?_cons_succ, List.set_cons_zero, List.set_cons_succ, reduceIte, Bool.false_eq_true, Bool.not_true, Bool.not_false, Nat.reduceLeDiff, if_true, if_false, decide_true, decide_false]
    try rfl
  by_cases h0 : l.2.1 = 0
  · have d : decide (l.2.1 = 0) = true := decide_eq_true h0
    refine fin (r := .rt (.d .none) []) ?_ ⟨[], ?_⟩
    · simp only [d, ix_L1, ix_P0, startE, rb_ok, rb_exc, rs_ok, rs_exc, s_seq, seq_nx, seq_rt, seq_bk, seq_ct, seq_exc, nxO_s, s_asg, s_par, s_par3, s_ret, s_expr, s_next, s_bk, s_ct, s_raise, s_if, ifS_t, ifS_f, ifS_exc, s_for, eVar, e_c, wOf_s, rOf_s, bOf_s, e_ix, asD_d, ob_s, om_s, e_d1, e_d2, e_dN, asDs_1, asDs_2, bvO_s, e_t, o1_s, o2_s, a_nil, a_cons, prO_ok, prO_exc, e_cp, e_cg, call_1, call_2, call_3, call_4, call_5, call_6, b_not, b_and, b_or, andB_t, andB_f, orB_t, orB_f, b_tr, truW_b, e_if, ifE_t, ifE_f, e_isN, e_notN, e_notV, notV_s, e_andV, andV_t, andV_f, e_ch, chO_t, chO_f, e_sl, o_no, o_yes, oiO_s, sl_t, sl_l, i_zip, zipI_t, zipI_l, add_ii, sub_ii, neg_i, lt_ii, le_ii, gt_ii, ge_ii, eq_ii, ne_ii, eq_ss, ne_ss, eq_bb, ne_bb, len_t, len_l, min_ii, max_ii, int_i, int_b, tup_l, tup_t, lst_l, lst_t, sum_ints, e_tup, e_lst, itO_s, i_any, itA_t, itA_l, i_r1, i_r2, bindT, bindTs, unpk_t, un_L, un_P, mkSq, allD, wipeE, LINE, List.map_cons, List.map_nil, List.length_cons, List.length_nil, List.replicate, List.cons_append, List.nil_append, Nat.sub_self, Nat.reduceSub, Nat.reduceAdd, List.getElem?_cons_zero, List.getElem?_cons_succ, List.set_cons_zero, List.set_cons_succ, reduceIte, Bool.false_eq_true, Bool.not_true, Bool.not_false, Nat.reduceLeDiff, if_true, if_false, decide_true, decide_false]
    · unfold edgesOf; rw [if_pos (.inl h0)]; rfl
  · have d : decide (l.2.1 = 0) = false := decide_eq_false h0
    by_cases h1 : l.2.1 = p.1
    · have d1 : decide (l.2.1 = p.1) = true := decide_eq_true h1
      refine fin (r := .rt (.d .none) []) ?_ ⟨[], ?_⟩
      · simp only [d, d1, ix_L1, ix_P0, startE, rb_ok, rb_exc, rs_ok, rs_exc, s_seq, seq_nx, seq_rt, seq_bk, seq_ct, seq_exc, nxO_s, s_asg, s_par, s_par3, s_ret, s_expr, s_next, s_bk, s_ct, s_raise, s_if, ifS_t, ifS_f, ifS_exc, s_for, eVar, e_c, wOf_s, rOf_s, bOf_s, e_ix, asD_d, ob_s, om_s, e_d1, e_d2, e_dN, asDs_1, asDs_2, bvO_s, e_t, o1_s, o2_s, a_nil, a_cons, prO_ok, prO_exc, e_cp, e_cg, call_1, call_2, call_3, call_4, call_5, call_6, b_not, b_and, b_or, andB_t, andB_f, orB_t, orB_f, b_tr, truW_b, e_if, ifE_t, ifE_f, e_isN, e_notN, e_notV, notV_s, e_andV, andV_t, andV_f, e_ch, chO_t, chO_f, e_sl, o_no, o_yes, oiO_s, sl_t, sl_l, i_zip, zipI_t, zipI_l, add_ii, sub_ii, neg_i, lt_ii, le_ii, gt_ii, ge_ii, eq_ii, ne_ii, eq_ss, ne_ss, eq_bb, ne_bb, len_t, len_l, min_ii, max_ii, int_i, int_b, tup_l, tup_t, lst_l, lst_t, sum_ints, e_tup, e_lst, itO_s, i_any, itA_t, itA_l, i_r1, i_r2, bindT, bindTs, unpk_t, un_L, un_P, mkSq, allD, wipeE, LINE, List.map_cons, List.map_nil, List.length_cons, List.length_nil, List.replicate, List.cons_append, List.nil_append, Nat.sub_self, Nat.reduceSub, Nat.reduceAdd, List.getElem?_cons_zero, List.getElem?_cons_succ, List.set_cons_zero, List.set_cons_succ, reduceIte, Bool.false_eq_true, Bool.not_true, Bool.not_false, Nat.reduceLeDiff, if_true, if_false, decide_true, decide_false]
      · unfold edgesOf; rw [if_pos (.inr h1)]; rfl
    · have d1 : decide (l.2.1 = p.1) = false := decide_eq_false h1
      apply step
      · simp only [d, d1, ix_L1, ix_P0, startE, rb_ok, rb_exc, rs_ok, rs_exc, s_seq, seq_nx, seq_rt, seq_bk, seq_ct, seq_exc, nxO_s, s_asg, s_par, s_par3, s_ret, s_expr, s_next, s_bk, s_ct, s_raise, s_if, ifS_t, ifS_f, ifS_exc, s_for, eVar, e_c, wOf_s, rOf_s, bOf_s, e_ix, asD_d, ob_s, om_s, e_d1, e_d2, e_dN, asDs_1, asDs_2, bvO_s, e_t, o1_s, o2_s, a_nil, a_cons, prO_ok, prO_exc, e_cp, e_cg, call_1, call_2, call_3, call_4, call_5, call_6, b_not, b_and, b_or, andB_t, andB_f, orB_t, orB_f, b_tr, truW_b, e_if, ifE_t, ifE_f, e_isN, e_notN, e_notV, notV_s, e_andV, andV_t, andV_f, e_ch, chO_t, chO_f, e_sl, o_no, o_yes, oiO_s, sl_t, sl_l, i_zip, zipI_t, zipI_l, add_ii, sub_ii, neg_i, lt_ii, le_ii, gt_ii, ge_ii, eq_ii, ne_ii, eq_ss, ne_ss, eq_bb, ne_bb, len_t, len_l, min_ii, max_ii, int_i, int_b, tup_l, tup_t, lst_l, lst_t, sum_ints, e_tup, e_lst, itO_s, i_any, itA_t, itA_l, i_r1, i_r2, bindT, bindTs, unpk_t, un_L, un_P, mkSq, allD, wipeE, LINE, List.map_cons, List.map_nil, List.length_cons, List.length_nil, List.replicate, List.cons_append, List.nil_append, Nat.sub_self, Nat.reduceSub, Nat.reduceAdd, List.getElem?_cons_zero, List.getElem?_cons_succ, List.set_cons_zero, List.set_cons_succ, reduceIte, Bool.false_eq_true, Bool.not_true, Bool.not_false, Nat.reduceLeDiff, if_true, if_false, decide_true, decide_false]
        try rfl
      apply fin
      · simp only [ix_L1, ix_L2, ix_P0, mod_ii hb, startE, rb_ok, rb_exc, rs_ok, rs_exc, s_seq, seq_nx, seq_rt, seq_bk, seq_ct, seq_exc, nxO_s, s_asg, s_par, s_par3, s_ret, s_expr, s_next, s_bk, s_ct, s_raise, s_if, ifS_t, ifS_f, ifS_exc, s_for, eVar, e_c, wOf_s, rOf_s, bOf_s, e_ix, asD_d, ob_s, om_s, e_d1, e_d2, e_dN, asDs_1, asDs_2, bvO_s, e_t, o1_s, o2_s, a_nil, a_cons, prO_ok, prO_exc, e_cp, e_cg, call_1, call_2, call_3, call_4, call_5, call_6, b_not, b_and, b_or, andB_t, andB_f, orB_t, orB_f, b_tr, truW_b, e_if, ifE_t, ifE_f, e_isN, e_notN, e_notV, notV_s, e_andV, andV_t, andV_f, e_ch, chO_t, chO_f, e_sl, o_no, o_yes, oiO_s, sl_t, sl_l, i_zip, zipI_t, zipI_l, add_ii, sub_ii, neg_i, lt_ii, le_ii, gt_ii, ge_ii, eq_ii, ne_ii, eq_ss, ne_ss, eq_bb, ne_bb, len_t, len_l, min_ii, max_ii, int_i, int_b, tup_l, tup_t, lst_l, lst_t, sum_ints, e_tup, e_lst, itO_s, i_any, itA_t, itA_l, i_r1, i_r2, bindT, bindTs, unpk_t, un_L, un_P, mkSq, allD, wipeE, LINE, List.map_cons, List.map_nil, List.length_cons, List.length_nil, List.replicate, List.cons_append, List.nil_append, Nat.sub_self, Nat.reduceSub, Nat.reduceAdd, List.getElem?_cons_zero, List.getElem?_cons_succ, List.set_cons_zero, List.set_cons_succ, reduceIte, Bool.false_eq_true, Bool.not_true, Bool.not_false, Nat.reduceLeDiff, if_true, if_false, decide_true, decide_false]
        try rfl
      exact ⟨_, by unfold edgesOf; rw [if_neg (by omega)]; rfl⟩
theorem line_edges_no {p : Pl} {n : Str} (h : lineOf p n = none) : f_line_edges [dP p, .str n] = .exc "NoLine" := by
  have e : f_line_of [dP p, .str n] = .exc "NoLine" := by rw [line_of_eq, h]
  refine runP_exc (ρ := [some (.d (dP p)), some (.d (.str n)), none]) (S := []) ?_
  simp only [b_line_edges, e, startE, rb_ok, rb_exc, rs_ok, rs_exc, s_seq, seq_nx, seq_rt, seq_bk, seq_ct, seq_exc, nxO_s, s_asg, s_par, s_par3, s_ret, s_expr, s_next, s_bk, s_ct, s_raise, s_if, ifS_t, ifS_f, ifS_exc, s_for, eVar, e_c, wOf_s, rOf_s, bOf_s, e_ix, asD_d, ob_s, om_s, e_d1, e_d2, e_dN, asDs_1, asDs_2, bvO_s, e_t, o1_s, o2_s, a_nil, a_cons, prO_ok, prO_exc, e_cp, e_cg, call_1, call_2, call_3, call_4, call_5, call_6, b_not, b_and, b_or, andB_t, andB_f, orB_t, orB_f, b_tr, truW_b, e_if, ifE_t, ifE_f, e_isN, e_notN, e_notV, notV_s, e_andV, andV_t, andV_f, e_ch, chO_t, chO_f, e_sl, o_no, o_yes, oiO_s, sl_t, sl_l, i_zip, zipI_t, zipI_l, add_ii, sub_ii, neg_i, lt_ii, le_ii, gt_ii, ge_ii, eq_ii, ne_ii, eq_ss, ne_ss, eq_bb, ne_bb, len_t, len_l, min_ii, max_ii, int_i, int_b, tup_l, tup_t, lst_l, lst_t, sum_ints, e_tup, e_lst, itO_s, i_any, itA_t, itA_l, i_r1, i_r2, bindT, bindTs, unpk_t, un_L, un_P, mkSq, allD, wipeE, LINE, List.map_cons, List.map_nil, List.length_cons, List.length_nil, List.replicate, List.cons_append, List.nil_append, Nat.sub_self, Nat.reduceSub, Nat.reduceAdd, List.getElem?_cons_zero, List.getElem?_cons_succ, List.set_cons_zero, List.set_cons_succ, reduceIte, Bool.false_eq_true, Bool.not_true, Bool.not_false, Nat.reduceLeDiff, if_true, if_false, decide_true, decide_false]
/-- the line changes in this beat -/
def chg (p : Pl) (l : Ln) (e : Int) : Bool := isOn p l e != isOn p l (e - 1)
theorem mod_pred {a n : Int} (hn : 0 < n) : (a - 1) % n = if a % n = 0 then n - 1 else a % n - 1 := by
  have h1 := Int.emod_nonneg a (by omega : n ≠ 0)
  have h2 := Int.emod_lt_of_pos a hn
  have h3 := Int.emod_add_mul_ediv a n
  split
  · rename_i h
    have e : a - 1 = (n - 1) + n * (a / n - 1) := by rw [Int.mul_sub]; omega
    rw [e, Int.add_mul_emod_self_left, Int.emod_eq_of_lt (by omega) (by omega)]
  · have e : a - 1 = (a % n - 1) + n * (a / n) := by omega
    rw [e, Int.add_mul_emod_self_left, Int.emod_eq_of_lt (by omega) (by omega)]
theorem mod_is {e s n w : Int} (hn : 0 < n) (h0 : 0 ≤ w) (h1 : w < n) : e % n = (s + w) % n ↔ (e - s) % n = w := by
  rw [Int.emod_eq_emod_iff_emod_sub_eq_zero]
  have k : (e - s) % n = w ↔ (e - s) % n = w % n := by rw [Int.emod_eq_of_lt h0 h1]
  rw [k, Int.emod_eq_emod_iff_emod_sub_eq_zero]
  have : e - (s + w) = e - s - w := by omega
  rw [this]
theorem mod_is0 {e s n : Int} (hn : 0 < n) (h0 : 0 ≤ s) (h1 : s < n) : e % n = s ↔ (e - s) % n = 0 := by
  have := mod_is (e := e) (s := s) (n := n) (w := 0) hn (by omega) hn
  rw [Int.add_zero, Int.emod_eq_of_lt h0 h1] at this
  exact this
/-- what happens in a beat -/
theorem chg_cases {p : Pl} {l : Ln} (hn : 0 < p.1) (hw0 : 0 ≤ l.2.1) (hw1 : l.2.1 ≤ p.1) (e : Int) :
    (edgesOf p l = none ∧ chg p l e = false) ∨ (∃ a b, edgesOf p l = some (a, b) ∧ a = l.2.2 ∧ b = (l.2.2 + l.2.1) % p.1 ∧ 0 < l.2.1 ∧ l.2.1 < p.1) := by
  unfold edgesOf
  by_cases h : l.2.1 = 0 ∨ l.2.1 = p.1
  · left
    rw [if_pos h]
    refine ⟨rfl, ?_⟩
    have r1 := Int.emod_nonneg (e - l.2.2) (by omega : p.1 ≠ 0)
    have r2 := Int.emod_lt_of_pos (e - l.2.2) hn
    have s1 := Int.emod_nonneg (e - 1 - l.2.2) (by omega : p.1 ≠ 0)
    have s2 := Int.emod_lt_of_pos (e - 1 - l.2.2) hn
    unfold chg isOn
    rcases h with h | h
    · rw [decide_eq_false (by omega), decide_eq_false (by omega)]; rfl
    · rw [decide_eq_true (by omega), decide_eq_true (by omega)]; rfl
  · right
    rw [if_neg h]
    exact ⟨_, _, rfl, rfl, rfl, by omega, by omega⟩
theorem edge_at {p : Pl} {l : Ln} (hn : 0 < p.1) (hs0 : 0 ≤ l.2.2) (hs1 : l.2.2 < p.1) (hw0 : 0 < l.2.1) (hw1 : l.2.1 < p.1) (e : Int) :
    (e % p.1 = l.2.2 ∧ isOn p l e = true ∧ chg p l e = true ∧ e % p.1 ≠ (l.2.2 + l.2.1) % p.1) ∨ (e % p.1 = (l.2.2 + l.2.1) % p.1 ∧ isOn p l e = false ∧ chg p l e = true ∧ e % p.1 ≠ l.2.2) ∨ (e % p.1 ≠ l.2.2 ∧ e % p.1 ≠ (l.2.2 + l.2.1) % p.1 ∧ chg p l e = false) := by
  have k1 := mod_is0 (e := e) hn hs0 hs1
  have k2 := mod_is (e := e) (s := l.2.2) hn (Int.le_of_lt hw0) hw1
  have r1 := Int.emod_nonneg (e - l.2.2) (by omega : p.1 ≠ 0)
  have r2 := Int.emod_lt_of_pos (e - l.2.2) hn
  have m := mod_pred (a := e - l.2.2) hn
  have ee : e - l.2.2 - 1 = e - 1 - l.2.2 := by omega
  rw [ee] at m
  by_cases h0 : (e - l.2.2) % p.1 = 0
  · left
    rw [if_pos h0] at m
    refine ⟨k1.mpr h0, decide_eq_true (by omega), ?_, fun q => ?_⟩
    · unfold chg isOn
      rw [m, h0, decide_eq_true hw0, decide_eq_false (by omega)]; rfl
    · have := k2.mp q; omega
  · rw [if_neg h0] at m
    right
    by_cases h1 : (e - l.2.2) % p.1 = l.2.1
    · left
      refine ⟨k2.mpr h1, decide_eq_false (by omega), ?_, fun q => h0 (k1.mp q)⟩
      unfold chg isOn
      rw [m, decide_eq_false (by omega), decide_eq_true (by omega)]; rfl
    · right
      refine ⟨fun q => h0 (k1.mp q), fun q => h1 (k2.mp q), ?_⟩
      unfold chg isOn
      rw [m]
      by_cases h2 : (e - l.2.2) % p.1 < l.2.1
      · rw [decide_eq_true h2, decide_eq_true (by omega)]; rfl
      · rw [decide_eq_false h2, decide_eq_false (by omega)]; rfl

/-! ### events -/
abbrev Ev := Int × Str × Bool
def dE (e : Ev) : PyData := .tuple [.int e.1, .str e.2.1, .bool e.2.2]
/-- what a line does in a beat -/
def evAt (p : Pl) (l : Ln) (e : Int) : List Ev := if chg p l e = true then [(e, l.1, isOn p l e)] else []
def evL (p : Pl) (l : Ln) (a b : Int) : List Ev := (rng a b).flatMap fun e => evAt p l e
theorem evAt_len (p : Pl) (l : Ln) (e : Int) : (evAt p l e).length ≤ 1 := by unfold evAt; split <;> simp
theorem flatMap_len {α β : Type} (f : α → List β) (k : Nat) (h : ∀ x, (f x).length ≤ k) : ∀ xs : List α, (xs.flatMap f).length ≤ k * xs.length
  | [] => by simp
  | x :: r => by
    have h1 := flatMap_len f k h r
    have h2 := h x
    rw [List.flatMap_cons, List.length_append, List.length_cons, Nat.mul_add]
    omega
theorem evL_len (p : Pl) (l : Ln) (a b : Int) : (evL p l a b).length ≤ (b - a).toNat := by
  have := flatMap_len (fun e => evAt p l e) 1 (evAt_len p l) (rng a b)
  rw [rng_len] at this
  unfold evL
  omega
theorem line_events_eq {p : Pl} (g : Good p) {l : Ln} (hl : l ∈ p.2) {a b : Int} (sa : small a) (sb : small b) (hab : b - a ≤ 1000000) : f_line_events [dP p, .str l.1, .int a, .int b] = .ok (.tuple ((evL p l a b).map dE)) := by
  have hp := g.b
  have hw := g.w l hl
  have h := g.line hl
  refine runP_gs ?_
  simp only [startE, startE, rb_ok, rb_exc, rs_ok, rs_exc, s_seq, seq_nx, seq_rt, seq_bk, seq_ct, seq_exc, nxO_s, s_asg, s_par, s_par3, s_ret, s_expr, s_next, s_bk, s_ct, s_raise, s_if, ifS_t, ifS_f, ifS_exc, s_for, eVar, e_c, wOf_s, rOf_s, bOf_s, e_ix, asD_d, ob_s, om_s, e_d1, e_d2, e_dN, asDs_1, asDs_2, bvO_s, e_t, o1_s, o2_s, a_nil, a_cons, prO_ok, prO_exc, e_cp, e_cg, call_1, call_2, call_3, call_4, call_5, call_6, b_not, b_and, b_or, andB_t, andB_f, orB_t, orB_f, b_tr, truW_b, e_if, ifE_t, ifE_f, e_isN, e_notN, e_notV, notV_s, e_andV, andV_t, andV_f, e_ch, chO_t, chO_f, e_sl, o_no, o_yes, oiO_s, sl_t, sl_l, i_zip, zipI_t, zipI_l, add_ii, sub_ii, neg_i, lt_ii, le_ii, gt_ii, ge_ii, eq_ii, ne_ii, eq_ss, ne_ss, eq_bb, ne_bb, len_t, len_l, min_ii, max_ii, int_i, int_b, tup_l, tup_t, lst_l, lst_t, sum_ints, e_tup, e_lst, itO_s, i_any, itA_t, itA_l, i_r1, i_r2, bindT, bindTs, unpk_t, un_L, un_P, mkSq, allD, wipeE, LINE, List.map_cons, List.map_nil, List.length_cons, List.length_nil, List.replicate, List.cons_append, List.nil_append, Nat.sub_self, Nat.reduceSub, Nat.reduceAdd, List.getElem?_cons_zero, List.getElem?_cons_succ, List.set_cons_zero, List.set_cons_succ, reduceIte, Bool.false_eq_true, Bool.not_true, Bool.not_false, Nat.reduceLeDiff, if_true, if_false, decide_true, decide_false]
  rcases chg_cases (p := p) (l := l) hp.1 hw.1 hw.2.1 0 with ⟨e0, -⟩ | ⟨s, t, e0, rfl, rfl, w0, w1⟩
  · have z : evL p l a b = [] := by
      unfold evL
      rw [List.flatMap_eq_nil_iff]
      intro e _
      rcases chg_cases (p := p) (l := l) hp.1 hw.1 hw.2.1 e with ⟨-, c⟩ | ⟨s, t, e1, -⟩
      · unfold evAt; rw [c]; rfl
      · rw [e0] at e1; cases e1
    have le : f_line_edges [dP p, .str l.1] = .ok .none := by rw [line_edges_eq hp.1 h, e0]; rfl
    apply step
    · simp only [le, startE, rb_ok, rb_exc, rs_ok, rs_exc, s_seq, seq_nx, seq_rt, seq_bk, seq_ct, seq_exc, nxO_s, s_asg, s_par, s_par3, s_ret, s_expr, s_next, s_bk, s_ct, s_raise, s_if, ifS_t, ifS_f, ifS_exc, s_for, eVar, e_c, wOf_s, rOf_s, bOf_s, e_ix, asD_d, ob_s, om_s, e_d1, e_d2, e_dN, asDs_1, asDs_2, bvO_s, e_t, o1_s, o2_s, a_nil, a_cons, prO_ok, prO_exc, e_cp, e_cg, call_1, call_2, call_3, call_4, call_5, call_6, b_not, b_and, b_or, andB_t, andB_f, orB_t, orB_f, b_tr, truW_b, e_if, ifE_t, ifE_f, e_isN, e_notN, e_notV, notV_s, e_andV, andV_t, andV_f, e_ch, chO_t, chO_f, e_sl, o_no, o_yes, oiO_s, sl_t, sl_l, i_zip, zipI_t, zipI_l, add_ii, sub_ii, neg_i, lt_ii, le_ii, gt_ii, ge_ii, eq_ii, ne_ii, eq_ss, ne_ss, eq_bb, ne_bb, len_t, len_l, min_ii, max_ii, int_i, int_b, tup_l, tup_t, lst_l, lst_t, sum_ints, e_tup, e_lst, itO_s, i_any, itA_t, itA_l, i_r1, i_r2, bindT, bindTs, unpk_t, un_L, un_P, mkSq, allD, wipeE, LINE, List.map_cons, List.map_nil, List.length_cons, List.length_nil, List.replicate, List.cons_append, List.nil_append, Nat.sub_self, Nat.reduceSub, Nat.reduceAdd, List.getElem?_cons_zero, List.getElem?_cons_succ, List.set_cons_zero, List.set_cons_succ, reduceIte, Bool.false_eq_true, Bool.not_true, Bool.not_false, Nat.reduceLeDiff, if_true, if_false, decide_true, decide_false]
      try rfl
    apply step
    · simp only [startE, rb_ok, rb_exc, rs_ok, rs_exc, s_seq, seq_nx, seq_rt, seq_bk, seq_ct, seq_exc, nxO_s, s_asg, s_par, s_par3, s_ret, s_expr, s_next, s_bk, s_ct, s_raise, s_if, ifS_t, ifS_f, ifS_exc, s_for, eVar, e_c, wOf_s, rOf_s, bOf_s, e_ix, asD_d, ob_s, om_s, e_d1, e_d2, e_dN, asDs_1, asDs_2, bvO_s, e_t, o1_s, o2_s, a_nil, a_cons, prO_ok, prO_exc, e_cp, e_cg, call_1, call_2, call_3, call_4, call_5, call_6, b_not, b_and, b_or, andB_t, andB_f, orB_t, orB_f, b_tr, truW_b, e_if, ifE_t, ifE_f, e_isN, e_notN, e_notV, notV_s, e_andV, andV_t, andV_f, e_ch, chO_t, chO_f, e_sl, o_no, o_yes, oiO_s, sl_t, sl_l, i_zip, zipI_t, zipI_l, add_ii, sub_ii, neg_i, lt_ii, le_ii, gt_ii, ge_ii, eq_ii, ne_ii, eq_ss, ne_ss, eq_bb, ne_bb, len_t, len_l, min_ii, max_ii, int_i, int_b, tup_l, tup_t, lst_l, lst_t, sum_ints, e_tup, e_lst, itO_s, i_any, itA_t, itA_l, i_r1, i_r2, bindT, bindTs, unpk_t, un_L, un_P, mkSq, allD, wipeE, LINE, List.map_cons, List.map_nil, List.length_cons, List.length_nil, List.replicate, List.cons_append, List.nil_append, Nat.sub_self, Nat.reduceSub, Nat.reduceAdd, List.getElem?_cons_zero, List.getElem?_cons_succ, List.set_cons_zero, List.set_cons_succ, reduceIte, Bool.false_eq_true, Bool.not_true, Bool.not_false, Nat.reduceLeDiff, if_true, if_false, decide_true, decide_false]
      try rfl
    apply step
    · simp only [isNW, startE, rb_ok, rb_exc, rs_ok, rs_exc, s_seq, seq_nx, seq_rt, seq_bk, seq_ct, seq_exc, nxO_s, s_asg, s_par, s_par3, s_ret, s_expr, s_next, s_bk, s_ct, s_raise, s_if, ifS_t, ifS_f, ifS_exc, s_for, eVar, e_c, wOf_s, rOf_s, bOf_s, e_ix, asD_d, ob_s, om_s, e_d1, e_d2, e_dN, asDs_1, asDs_2, bvO_s, e_t, o1_s, o2_s, a_nil, a_cons, prO_ok, prO_exc, e_cp, e_cg, call_1, call_2, call_3, call_4, call_5, call_6, b_not, b_and, b_or, andB_t, andB_f, orB_t, orB_f, b_tr, truW_b, e_if, ifE_t, ifE_f, e_isN, e_notN, e_notV, notV_s, e_andV, andV_t, andV_f, e_ch, chO_t, chO_f, e_sl, o_no, o_yes, oiO_s, sl_t, sl_l, i_zip, zipI_t, zipI_l, add_ii, sub_ii, neg_i, lt_ii, le_ii, gt_ii, ge_ii, eq_ii, ne_ii, eq_ss, ne_ss, eq_bb, ne_bb, len_t, len_l, min_ii, max_ii, int_i, int_b, tup_l, tup_t, lst_l, lst_t, sum_ints, e_tup, e_lst, itO_s, i_any, itA_t, itA_l, i_r1, i_r2, bindT, bindTs, unpk_t, un_L, un_P, mkSq, allD, wipeE, LINE, List.map_cons, List.map_nil, List.length_cons, List.length_nil, List.replicate, List.cons_append, List.nil_append, Nat.sub_self, Nat.reduceSub, Nat.reduceAdd, List.getElem?_cons_zero, List.getElem?_cons_succ, List.set_cons_zero, List.set_cons_succ, reduceIte, Bool.false_eq_true, Bool.not_true, Bool.not_false, Nat.reduceLeDiff, if_true, if_false, decide_true, decide_false]
      try rfl
    apply fin
    · simp only [startE, rb_ok, rb_exc, rs_ok, rs_exc, s_seq, seq_nx, seq_rt, seq_bk, seq_ct, seq_exc, nxO_s, s_asg, s_par, s_par3, s_ret, s_expr, s_next, s_bk, s_ct, s_raise, s_if, ifS_t, ifS_f, ifS_exc, s_for, eVar, e_c, wOf_s, rOf_s, bOf_s, e_ix, asD_d, ob_s, om_s, e_d1, e_d2, e_dN, asDs_1, asDs_2, bvO_s, e_t, o1_s, o2_s, a_nil, a_cons, prO_ok, prO_exc, e_cp, e_cg, call_1, call_2, call_3, call_4, call_5, call_6, b_not, b_and, b_or, andB_t, andB_f, orB_t, orB_f, b_tr, truW_b, e_if, ifE_t, ifE_f, e_isN, e_notN, e_notV, notV_s, e_andV, andV_t, andV_f, e_ch, chO_t, chO_f, e_sl, o_no, o_yes, oiO_s, sl_t, sl_l, i_zip, zipI_t, zipI_l, add_ii, sub_ii, neg_i, lt_ii, le_ii, gt_ii, ge_ii, eq_ii, ne_ii, eq_ss, ne_ss, eq_bb, ne_bb, len_t, len_l, min_ii, max_ii, int_i, int_b, tup_l, tup_t, lst_l, lst_t, sum_ints, e_tup, e_lst, itO_s, i_any, itA_t, itA_l, i_r1, i_r2, bindT, bindTs, unpk_t, un_L, un_P, mkSq, allD, wipeE, LINE, List.map_cons, List.map_nil, List.length_cons, List.length_nil, List.replicate, List.cons_append, List.nil_append, Nat.sub_self, Nat.reduceSub, Nat.reduceAdd, List.getElem?_cons_zero, List.getElem?_cons_succ, List.set_cons_zero, List.set_cons_succ, reduceIte, Bool.false_eq_true, Bool.not_true, Bool.not_false, Nat.reduceLeDiff, if_true, if_false, decide_true, decide_false]
      try rfl
    exact ⟨_, by rw [z]; rfl⟩
  · have le : f_line_edges [dP p, .str l.1] = .ok (.tuple [.int l.2.2, .int ((l.2.2 + l.2.1) % p.1)]) := by rw [line_edges_eq hp.1 h, e0]; rfl
    have i1 : ∀ S, ixW S (.d (.tuple [.int l.2.2, .int ((l.2.2 + l.2.1) % p.1)])) (.d (.int 1)) = some (.d (.int ((l.2.2 + l.2.1) % p.1))) := fun _ => rfl
    apply step
    · simp only [le, startE, rb_ok, rb_exc, rs_ok, rs_exc, s_seq, seq_nx, seq_rt, seq_bk, seq_ct, seq_exc, nxO_s, s_asg, s_par, s_par3, s_ret, s_expr, s_next, s_bk, s_ct, s_raise, s_if, ifS_t, ifS_f, ifS_exc, s_for, eVar, e_c, wOf_s, rOf_s, bOf_s, e_ix, asD_d, ob_s, om_s, e_d1, e_d2, e_dN, asDs_1, asDs_2, bvO_s, e_t, o1_s, o2_s, a_nil, a_cons, prO_ok, prO_exc, e_cp, e_cg, call_1, call_2, call_3, call_4, call_5, call_6, b_not, b_and, b_or, andB_t, andB_f, orB_t, orB_f, b_tr, truW_b, e_if, ifE_t, ifE_f, e_isN, e_notN, e_notV, notV_s, e_andV, andV_t, andV_f, e_ch, chO_t, chO_f, e_sl, o_no, o_yes, oiO_s, sl_t, sl_l, i_zip, zipI_t, zipI_l, add_ii, sub_ii, neg_i, lt_ii, le_ii, gt_ii, ge_ii, eq_ii, ne_ii, eq_ss, ne_ss, eq_bb, ne_bb, len_t, len_l, min_ii, max_ii, int_i, int_b, tup_l, tup_t, lst_l, lst_t, sum_ints, e_tup, e_lst, itO_s, i_any, itA_t, itA_l, i_r1, i_r2, bindT, bindTs, unpk_t, un_L, un_P, mkSq, allD, wipeE, LINE, List.map_cons, List.map_nil, List.length_cons, List.length_nil, List.replicate, List.cons_append, List.nil_append, Nat.sub_self, Nat.reduceSub, Nat.reduceAdd, List.getElem?_cons_zero, List.getElem?_cons_succ, List.set_cons_zero, List.set_cons_succ, reduceIte, Bool.false_eq_true, Bool.not_true, Bool.not_false, Nat.reduceLeDiff, if_true, if_false, decide_true, decide_false]
      try rfl
    apply step
    · simp only [startE, rb_ok, rb_exc, rs_ok, rs_exc, s_seq, seq_nx, seq_rt, seq_bk, seq_ct, seq_exc, nxO_s, s_asg, s_par, s_par3, s_ret, s_expr, s_next, s_bk, s_ct, s_raise, s_if, ifS_t, ifS_f, ifS_exc, s_for, eVar, e_c, wOf_s, rOf_s, bOf_s, e_ix, asD_d, ob_s, om_s, e_d1, e_d2, e_dN, asDs_1, asDs_2, bvO_s, e_t, o1_s, o2_s, a_nil, a_cons, prO_ok, prO_exc, e_cp, e_cg, call_1, call_2, call_3, call_4, call_5, call_6, b_not, b_and, b_or, andB_t, andB_f, orB_t, orB_f, b_tr, truW_b, e_if, ifE_t, ifE_f, e_isN, e_notN, e_notV, notV_s, e_andV, andV_t, andV_f, e_ch, chO_t, chO_f, e_sl, o_no, o_yes, oiO_s, sl_t, sl_l, i_zip, zipI_t, zipI_l, add_ii, sub_ii, neg_i, lt_ii, le_ii, gt_ii, ge_ii, eq_ii, ne_ii, eq_ss, ne_ss, eq_bb, ne_bb, len_t, len_l, min_ii, max_ii, int_i, int_b, tup_l, tup_t, lst_l, lst_t, sum_ints, e_tup, e_lst, itO_s, i_any, itA_t, itA_l, i_r1, i_r2, bindT, bindTs, unpk_t, un_L, un_P, mkSq, allD, wipeE, LINE, List.map_cons, List.map_nil, List.length_cons, List.length_nil, List.replicate, List.cons_append, List.nil_append, Nat.sub_self, Nat.reduceSub, Nat.reduceAdd, List.getElem?_cons_zero, List.getElem?_cons_succ, List.set_cons_zero, List.set_cons_succ, reduceIte, Bool.false_eq_true, Bool.not_true, Bool.not_false, Nat.reduceLeDiff, if_true, if_false, decide_true, decide_false]
      try rfl
    have lp : Gs (sFor (iR2 (aCons (eVar 2) (aCons (eVar 3) aNil))) (.nm 6) l1_line_events) [some (.d (dP p)), some (.d (.str l.1)), some (.d (.int a)), some (.d (.int b)), some (.d (.tuple [.int l.2.2, .int ((l.2.2 + l.2.1) % p.1)])), some (.d (.tuple [])), none] [] (Nx fun ρ S => (∃ f : Nat → Option Wv, ρ = [some (.d (dP p)), some (.d (.str l.1)), some (.d (.int a)), some (.d (.int b)), some (.d (.tuple [.int l.2.2, .int ((l.2.2 + l.2.1) % p.1)])), some (.d (.tuple ((evL p l a b).map dE))), f 6]) ∧ S = []) := by
      have fx := for_fin (tg := .nm 6) (body := l1_line_events) (it := iR2 (aCons (eVar 2) (aCons (eVar 3) aNil))) (ρ := [some (.d (dP p)), some (.d (.str l.1)), some (.d (.int a)), some (.d (.int b)), some (.d (.tuple [.int l.2.2, .int ((l.2.2 + l.2.1) % p.1)])), some (.d (.tuple [])), none]) (S := []) (S' := []) (rng a b) (fun e => .d (.int e)) (fun i ρ S => (∃ f : Nat → Option Wv, ρ = [some (.d (dP p)), some (.d (.str l.1)), some (.d (.int a)), some (.d (.int b)), some (.d (.tuple [.int l.2.2, .int ((l.2.2 + l.2.1) % p.1)])), some (.d (.tuple ((((rng a b).take i).flatMap fun e => evAt p l e).map dE))), f 6]) ∧ S = []) ?_ ⟨slots rfl, rfl⟩ ?_
      · rw [List.take_length] at fx
        exact fx
      · simp only [r2O_s sa sb, rngW_eq, startE, rb_ok, rb_exc, rs_ok, rs_exc, s_seq, seq_nx, seq_rt, seq_bk, seq_ct, seq_exc, nxO_s, s_asg, s_par, s_par3, s_ret, s_expr, s_next, s_bk, s_ct, s_raise, s_if, ifS_t, ifS_f, ifS_exc, s_for, eVar, e_c, wOf_s, rOf_s, bOf_s, e_ix, asD_d, ob_s, om_s, e_d1, e_d2, e_dN, asDs_1, asDs_2, bvO_s, e_t, o1_s, o2_s, a_nil, a_cons, prO_ok, prO_exc, e_cp, e_cg, call_1, call_2, call_3, call_4, call_5, call_6, b_not, b_and, b_or, andB_t, andB_f, orB_t, orB_f, b_tr, truW_b, e_if, ifE_t, ifE_f, e_isN, e_notN, e_notV, notV_s, e_andV, andV_t, andV_f, e_ch, chO_t, chO_f, e_sl, o_no, o_yes, oiO_s, sl_t, sl_l, i_zip, zipI_t, zipI_l, add_ii, sub_ii, neg_i, lt_ii, le_ii, gt_ii, ge_ii, eq_ii, ne_ii, eq_ss, ne_ss, eq_bb, ne_bb, len_t, len_l, min_ii, max_ii, int_i, int_b, tup_l, tup_t, lst_l, lst_t, sum_ints, e_tup, e_lst, itO_s, i_any, itA_t, itA_l, i_r1, i_r2, bindT, bindTs, unpk_t, un_L, un_P, mkSq, allD, wipeE, LINE, List.map_cons, List.map_nil, List.length_cons, List.length_nil, List.replicate, List.cons_append, List.nil_append, Nat.sub_self, Nat.reduceSub, Nat.reduceAdd, List.getElem?_cons_zero, List.getElem?_cons_succ, List.set_cons_zero, List.set_cons_succ, reduceIte, Bool.false_eq_true, Bool.not_true, Bool.not_false, Nat.reduceLeDiff, if_true, if_false, decide_true, decide_false]
      · rintro i e hi ρ S ⟨⟨f, rfl⟩, rfl⟩
        refine ⟨_, rfl, ?_⟩
        have hil := (List.getElem?_eq_some_iff.mp hi).1
        have tk : (rng a b).take (i + 1) = (rng a b).take i ++ [e] := by rw [List.take_add_one, hi]; rfl
        have hz : ((((rng a b).take i).flatMap fun e => evAt p l e).map dE).length + 1 ≤ 16777216 := by
          have z := flatMap_len (fun e => evAt p l e) 1 (evAt_len p l) ((rng a b).take i)
          rw [List.length_take] at z
          have := rng_len a b
          rw [List.length_map]
          omega
        rw [tk]
        rcases edge_at (p := p) (l := l) hp.1 hw.2.2.1 hw.2.2.2 w0 w1 e with ⟨c1, c2, c3, c4⟩ | ⟨c1, c2, c3, c4⟩ | ⟨c1, c2, c3⟩
        · have ev : evAt p l e = [(e, l.1, true)] := by unfold evAt; rw [c3, c2]; rfl
          have d : decide (e % p.1 = l.2.2) = true := decide_eq_true c1
          apply fin
          · simp only [l1_line_events, ix_P0, ix_head, mod_ii hp.1, d, startE, rb_ok, rb_exc, rs_ok, rs_exc, s_seq, seq_nx, seq_rt, seq_bk, seq_ct, seq_exc, nxO_s, s_asg, s_par, s_par3, s_ret, s_expr, s_next, s_bk, s_ct, s_raise, s_if, ifS_t, ifS_f, ifS_exc, s_for, eVar, e_c, wOf_s, rOf_s, bOf_s, e_ix, asD_d, ob_s, om_s, e_d1, e_d2, e_dN, asDs_1, asDs_2, bvO_s, e_t, o1_s, o2_s, a_nil, a_cons, prO_ok, prO_exc, e_cp, e_cg, call_1, call_2, call_3, call_4, call_5, call_6, b_not, b_and, b_or, andB_t, andB_f, orB_t, orB_f, b_tr, truW_b, e_if, ifE_t, ifE_f, e_isN, e_notN, e_notV, notV_s, e_andV, andV_t, andV_f, e_ch, chO_t, chO_f, e_sl, o_no, o_yes, oiO_s, sl_t, sl_l, i_zip, zipI_t, zipI_l, add_ii, sub_ii, neg_i, lt_ii, le_ii, gt_ii, ge_ii, eq_ii, ne_ii, eq_ss, ne_ss, eq_bb, ne_bb, len_t, len_l, min_ii, max_ii, int_i, int_b, tup_l, tup_t, lst_l, lst_t, sum_ints, e_tup, e_lst, itO_s, i_any, itA_t, itA_l, i_r1, i_r2, bindT, bindTs, unpk_t, un_L, un_P, mkSq, allD, wipeE, LINE, List.map_cons, List.map_nil, List.length_cons, List.length_nil, List.replicate, List.cons_append, List.nil_append, Nat.sub_self, Nat.reduceSub, Nat.reduceAdd, List.getElem?_cons_zero, List.getElem?_cons_succ, List.set_cons_zero, List.set_cons_succ, reduceIte, Bool.false_eq_true, Bool.not_true, Bool.not_false, Nat.reduceLeDiff, if_true, if_false, decide_true, decide_false]
            rw [add_tt (by show _ + 1 ≤ _; exact hz)]
          · refine ⟨_, _, rfl, slots ?_, rfl⟩
            rw [List.flatMap_append, List.map_append, List.flatMap_cons, ev]
            rfl
        · have ev : evAt p l e = [(e, l.1, false)] := by unfold evAt; rw [c3, c2]; rfl
          have d : decide (e % p.1 = l.2.2) = false := decide_eq_false c4
          have d2 : decide (e % p.1 = (l.2.2 + l.2.1) % p.1) = true := decide_eq_true c1
          apply fin
          · simp only [l1_line_events, ix_P0, ix_head, i1, mod_ii hp.1, d, d2, startE, rb_ok, rb_exc, rs_ok, rs_exc, s_seq, seq_nx, seq_rt, seq_bk, seq_ct, seq_exc, nxO_s, s_asg, s_par, s_par3, s_ret, s_expr, s_next, s_bk, s_ct, s_raise, s_if, ifS_t, ifS_f, ifS_exc, s_for, eVar, e_c, wOf_s, rOf_s, bOf_s, e_ix, asD_d, ob_s, om_s, e_d1, e_d2, e_dN, asDs_1, asDs_2, bvO_s, e_t, o1_s, o2_s, a_nil, a_cons, prO_ok, prO_exc, e_cp, e_cg, call_1, call_2, call_3, call_4, call_5, call_6, b_not, b_and, b_or, andB_t, andB_f, orB_t, orB_f, b_tr, truW_b, e_if, ifE_t, ifE_f, e_isN, e_notN, e_notV, notV_s, e_andV, andV_t, andV_f, e_ch, chO_t, chO_f, e_sl, o_no, o_yes, oiO_s, sl_t, sl_l, i_zip, zipI_t, zipI_l, add_ii, sub_ii, neg_i, lt_ii, le_ii, gt_ii, ge_ii, eq_ii, ne_ii, eq_ss, ne_ss, eq_bb, ne_bb, len_t, len_l, min_ii, max_ii, int_i, int_b, tup_l, tup_t, lst_l, lst_t, sum_ints, e_tup, e_lst, itO_s, i_any, itA_t, itA_l, i_r1, i_r2, bindT, bindTs, unpk_t, un_L, un_P, mkSq, allD, wipeE, LINE, List.map_cons, List.map_nil, List.length_cons, List.length_nil, List.replicate, List.cons_append, List.nil_append, Nat.sub_self, Nat.reduceSub, Nat.reduceAdd, List.getElem?_cons_zero, List.getElem?_cons_succ, List.set_cons_zero, List.set_cons_succ, reduceIte, Bool.false_eq_true, Bool.not_true, Bool.not_false, Nat.reduceLeDiff, if_true, if_false, decide_true, decide_false]
            rw [add_tt (by show _ + 1 ≤ _; exact hz)]
          · refine ⟨_, _, rfl, slots ?_, rfl⟩
            rw [List.flatMap_append, List.map_append, List.flatMap_cons, ev]
            rfl
        · have ev : evAt p l e = [] := by unfold evAt; rw [c3]; rfl
          have d : decide (e % p.1 = l.2.2) = false := decide_eq_false c1
          have d2 : decide (e % p.1 = (l.2.2 + l.2.1) % p.1) = false := decide_eq_false c2
          apply fin
          · simp only [l1_line_events, ix_P0, ix_head, i1, mod_ii hp.1, d, d2, startE, rb_ok, rb_exc, rs_ok, rs_exc, s_seq, seq_nx, seq_rt, seq_bk, seq_ct, seq_exc, nxO_s, s_asg, s_par, s_par3, s_ret, s_expr, s_next, s_bk, s_ct, s_raise, s_if, ifS_t, ifS_f, ifS_exc, s_for, eVar, e_c, wOf_s, rOf_s, bOf_s, e_ix, asD_d, ob_s, om_s, e_d1, e_d2, e_dN, asDs_1, asDs_2, bvO_s, e_t, o1_s, o2_s, a_nil, a_cons, prO_ok, prO_exc, e_cp, e_cg, call_1, call_2, call_3, call_4, call_5, call_6, b_not, b_and, b_or, andB_t, andB_f, orB_t, orB_f, b_tr, truW_b, e_if, ifE_t, ifE_f, e_isN, e_notN, e_notV, notV_s, e_andV, andV_t, andV_f, e_ch, chO_t, chO_f, e_sl, o_no, o_yes, oiO_s, sl_t, sl_l, i_zip, zipI_t, zipI_l, add_ii, sub_ii, neg_i, lt_ii, le_ii, gt_ii, ge_ii, eq_ii, ne_ii, eq_ss, ne_ss, eq_bb, ne_bb, len_t, len_l, min_ii, max_ii, int_i, int_b, tup_l, tup_t, lst_l, lst_t, sum_ints, e_tup, e_lst, itO_s, i_any, itA_t, itA_l, i_r1, i_r2, bindT, bindTs, unpk_t, un_L, un_P, mkSq, allD, wipeE, LINE, List.map_cons, List.map_nil, List.length_cons, List.length_nil, List.replicate, List.cons_append, List.nil_append, Nat.sub_self, Nat.reduceSub, Nat.reduceAdd, List.getElem?_cons_zero, List.getElem?_cons_succ, List.set_cons_zero, List.set_cons_succ, reduceIte, Bool.false_eq_true, Bool.not_true, Bool.not_false, Nat.reduceLeDiff, if_true, if_false, decide_true, decide_false]
            rfl
          · refine ⟨_, _, rfl, slots ?_, rfl⟩
            rw [List.flatMap_append, List.flatMap_cons, ev]
            simp only [List.flatMap_nil, List.append_nil]
            rfl
    obtain ⟨ρ2, S2, e2, ⟨f, rfl⟩, rfl⟩ := lp
    apply step
    · simp only [isNW, e2, startE, rb_ok, rb_exc, rs_ok, rs_exc, s_seq, seq_nx, seq_rt, seq_bk, seq_ct, seq_exc, nxO_s, s_asg, s_par, s_par3, s_ret, s_expr, s_next, s_bk, s_ct, s_raise, s_if, ifS_t, ifS_f, ifS_exc, s_for, eVar, e_c, wOf_s, rOf_s, bOf_s, e_ix, asD_d, ob_s, om_s, e_d1, e_d2, e_dN, asDs_1, asDs_2, bvO_s, e_t, o1_s, o2_s, a_nil, a_cons, prO_ok, prO_exc, e_cp, e_cg, call_1, call_2, call_3, call_4, call_5, call_6, b_not, b_and, b_or, andB_t, andB_f, orB_t, orB_f, b_tr, truW_b, e_if, ifE_t, ifE_f, e_isN, e_notN, e_notV, notV_s, e_andV, andV_t, andV_f, e_ch, chO_t, chO_f, e_sl, o_no, o_yes, oiO_s, sl_t, sl_l, i_zip, zipI_t, zipI_l, add_ii, sub_ii, neg_i, lt_ii, le_ii, gt_ii, ge_ii, eq_ii, ne_ii, eq_ss, ne_ss, eq_bb, ne_bb, len_t, len_l, min_ii, max_ii, int_i, int_b, tup_l, tup_t, lst_l, lst_t, sum_ints, e_tup, e_lst, itO_s, i_any, itA_t, itA_l, i_r1, i_r2, bindT, bindTs, unpk_t, un_L, un_P, mkSq, allD, wipeE, LINE, List.map_cons, List.map_nil, List.length_cons, List.length_nil, List.replicate, List.cons_append, List.nil_append, Nat.sub_self, Nat.reduceSub, Nat.reduceAdd, List.getElem?_cons_zero, List.getElem?_cons_succ, List.set_cons_zero, List.set_cons_succ, reduceIte, Bool.false_eq_true, Bool.not_true, Bool.not_false, Nat.reduceLeDiff, if_true, if_false, decide_true, decide_false]
      rfl
    apply fin
    · simp only [startE, rb_ok, rb_exc, rs_ok, rs_exc, s_seq, seq_nx, seq_rt, seq_bk, seq_ct, seq_exc, nxO_s, s_asg, s_par, s_par3, s_ret, s_expr, s_next, s_bk, s_ct, s_raise, s_if, ifS_t, ifS_f, ifS_exc, s_for, eVar, e_c, wOf_s, rOf_s, bOf_s, e_ix, asD_d, ob_s, om_s, e_d1, e_d2, e_dN, asDs_1, asDs_2, bvO_s, e_t, o1_s, o2_s, a_nil, a_cons, prO_ok, prO_exc, e_cp, e_cg, call_1, call_2, call_3, call_4, call_5, call_6, b_not, b_and, b_or, andB_t, andB_f, orB_t, orB_f, b_tr, truW_b, e_if, ifE_t, ifE_f, e_isN, e_notN, e_notV, notV_s, e_andV, andV_t, andV_f, e_ch, chO_t, chO_f, e_sl, o_no, o_yes, oiO_s, sl_t, sl_l, i_zip, zipI_t, zipI_l, add_ii, sub_ii, neg_i, lt_ii, le_ii, gt_ii, ge_ii, eq_ii, ne_ii, eq_ss, ne_ss, eq_bb, ne_bb, len_t, len_l, min_ii, max_ii, int_i, int_b, tup_l, tup_t, lst_l, lst_t, sum_ints, e_tup, e_lst, itO_s, i_any, itA_t, itA_l, i_r1, i_r2, bindT, bindTs, unpk_t, un_L, un_P, mkSq, allD, wipeE, LINE, List.map_cons, List.map_nil, List.length_cons, List.length_nil, List.replicate, List.cons_append, List.nil_append, Nat.sub_self, Nat.reduceSub, Nat.reduceAdd, List.getElem?_cons_zero, List.getElem?_cons_succ, List.set_cons_zero, List.set_cons_succ, reduceIte, Bool.false_eq_true, Bool.not_true, Bool.not_false, Nat.reduceLeDiff, if_true, if_false, decide_true, decide_false]
      try rfl
    exact ⟨_, rfl⟩
/-! ### mutable lists -/
theorem e_ext {f : Ef} {g : Lf} {ρ : En} {S S1 : Store} {k : Nat} {l : List Wv} {ds : List PyData} (h1 : f ρ S = .ok (.o k) S) (h2 : S[k]? = some (.lst l)) (h3 : g ρ S = .ok [.d (.list ds)] S1) (h4 : S1[k]? = some (.lst l)) (hz : l.length + ds.length ≤ LINE) :
    eExt f g ρ S = .ok (.d .none) (S1.set k (.lst (l ++ ds.map .d))) := by
  have a : lstAt S (.o k) = some (k, l) := by unfold lstAt; dsimp only; rw [h2]
  have b : lstAt S1 (.o k) = some (k, l) := by unfold lstAt; dsimp only; rw [h4]
  unfold eExt
  rw [h1]
  show (match lstAt S (.o k) with | none => Res.bad | some _ => (g ρ S).bind fun ws S2 => extW (.o k) ws S2) = _
  rw [a, h3]
  show extW (.o k) [.d (.list ds)] S1 = _
  unfold extW
  dsimp only [itL]
  rw [b]
  dsimp only
  rw [List.length_map, if_pos hz]
theorem gs_frz {g : Sf} {ρ : En} {S : Store} {Q : SRes → Prop} {i k : Nat} {l : List Wv} (h1 : ρ[i]? = some (some (.o k))) (h2 : S[k]? = some (.lst l)) (c : Gs g (ρ.set i (some (mkSq false l))) (S.set k .dead) Q) : Gs (frz i g) ρ S Q := by
  have a : lstAt S (.o k) = some (k, l) := by unfold lstAt; dsimp only; rw [h2]
  unfold Gs frz at *
  rw [h1]
  dsimp only
  rw [a]
  exact c
theorem mkSq_ds (b : Bool) (ds : List PyData) : mkSq b (ds.map .d) = .d (if b then .tuple ds else .list ds) := by
  have := mkSq_map b (fun d : PyData => d) ds
  rw [List.map_id'] at this
  exact this

/-! ### all events -/
theorem swap_flat {α β γ : Type} (f : α → β → List γ) (ys : List β) : ∀ xs : List α, (xs.flatMap fun x => ys.flatMap fun y => f x y).Perm (ys.flatMap fun y => xs.flatMap fun x => f x y)
  | [] => by simp
  | x :: r => by
    have ih := swap_flat f ys r
    have key : ∀ (g h : β → List γ) (ys : List β), (ys.flatMap g ++ ys.flatMap h).Perm (ys.flatMap fun y => g y ++ h y) := by
      intro g h ys
      induction ys with
      | nil => simp
      | cons y t iy =>
        simp only [List.flatMap_cons, List.append_assoc]
        refine List.Perm.append_left _ ?_
        refine List.Perm.trans ?_ (List.Perm.append_left _ iy)
        rw [← List.append_assoc, ← List.append_assoc]
        exact List.Perm.append_right _ List.perm_append_comm
    simp only [List.flatMap_cons]
    exact (List.Perm.append_left _ ih).trans (key _ _ ys)
def evs (p : Pl) (a b : Int) : List Ev := (rng a b).flatMap fun e => p.2.flatMap fun l => evAt p l e
theorem mem_evAt {p : Pl} {l : Ln} {e : Int} {x : Ev} (h : x ∈ evAt p l e) : x = (e, l.1, isOn p l e) ∧ chg p l e = true := by
  unfold evAt at h
  split at h
  · rename_i c; exact ⟨List.mem_singleton.mp h, c⟩
  · cases h
theorem rng_up (a b : Int) : (rng a b).Pairwise (· < ·) := by
  unfold rng
  rw [List.pairwise_map]
  exact List.Pairwise.imp (fun {i j} h => by omega) List.pairwise_lt_range
theorem evs_up {p : Pl} (r : Rise p) (a b : Int) : ((evs p a b).map dE).Pairwise Ah := by
  rw [List.pairwise_map]
  unfold evs
  rw [List.pairwise_flatMap]
  refine ⟨fun e _ => ?_, ?_⟩
  · rw [List.pairwise_flatMap]
    refine ⟨fun l _ => ?_, ?_⟩
    · unfold evAt; split <;> simp
    · refine List.Pairwise.imp (fun {l k} h => ?_) r
      intro x hx y hy
      rw [(mem_evAt hx).1, (mem_evAt hy).1]
      exact ah_tsame (ah_tstr h)
  · refine List.Pairwise.imp (fun {e e'} h => ?_) (rng_up a b)
    intro x hx y hy
    obtain ⟨l, _, hx⟩ := List.mem_flatMap.mp hx
    obtain ⟨k, _, hy⟩ := List.mem_flatMap.mp hy
    rw [(mem_evAt hx).1, (mem_evAt hy).1]
    exact ah_tint h
theorem evs_perm (p : Pl) (a b : Int) : ((p.2.flatMap fun l => evL p l a b).map dE).Perm ((evs p a b).map dE) := (swap_flat (fun l e => evAt p l e) (rng a b) p.2).map dE
theorem dep_all {ds : List PyData} {k : Nat} (h : ∀ d ∈ ds, d.depth ≤ k) : PyData.depthAll ds ≤ k := by
  induction ds with
  | nil => exact Nat.zero_le _
  | cons x r ih =>
    show max (PyData.depth x) (PyData.depthAll r) ≤ k
    have h1 := h x List.mem_cons_self
    have h2 := ih fun d hd => h d (List.mem_cons_of_mem _ hd)
    omega
/-- what may be sorted: tuples alike -/
theorem sortB_map {α : Type} (f : α → PyData) {xs : List α} (h1 : ∀ x ∈ xs, ∀ y ∈ xs, alike (f x) (f y) = true) (h2 : ∀ x ∈ xs, isTup1 (f x) = true) (h3 : ∀ x ∈ xs, (f x).depth ≤ 60) (h4 : xs.length ≤ LINE) : sortB (xs.map f) = true := by
  unfold sortB
  have a : (xs.map f).all (fun x => (xs.map f).all fun y => alike x y) = true := by
    rw [List.all_eq_true]
    intro x hx
    obtain ⟨a, ha, rfl⟩ := List.mem_map.mp hx
    rw [List.all_eq_true]
    intro y hy
    obtain ⟨b, hb, rfl⟩ := List.mem_map.mp hy
    exact h1 a ha b hb
  have b : (xs.map f).all isTup1 = true := by
    rw [List.all_eq_true]
    intro x hx
    obtain ⟨a, ha, rfl⟩ := List.mem_map.mp hx
    exact h2 a ha
  have c : PyData.depthAll (xs.map f) ≤ 60 := dep_all fun d hd => by
    obtain ⟨a, ha, rfl⟩ := List.mem_map.mp hd
    exact h3 a ha
  rw [a, b, decide_eq_true c, decide_eq_true (by rw [List.length_map]; exact h4)]; rfl
/-- what may be sorted: numbers, texts -/
theorem sortB_flat {α : Type} (f : α → PyData) {xs : List α} (h1 : ∀ x ∈ xs, ∀ y ∈ xs, alike (f x) (f y) = true) (h2 : ∀ x ∈ xs, flatB (f x) = true) (h3 : ∀ x ∈ xs, (f x).depth ≤ 60) (h4 : xs.length ≤ LINE) : sortB (xs.map f) = true := by
  unfold sortB
  have a : (xs.map f).all (fun x => (xs.map f).all fun y => alike x y) = true := by
    rw [List.all_eq_true]
    intro x hx
    obtain ⟨a, ha, rfl⟩ := List.mem_map.mp hx
    rw [List.all_eq_true]
    intro y hy
    obtain ⟨b, hb, rfl⟩ := List.mem_map.mp hy
    exact h1 a ha b hb
  have b : (xs.map f).all flatB = true := by
    rw [List.all_eq_true]
    intro x hx
    obtain ⟨a, ha, rfl⟩ := List.mem_map.mp hx
    exact h2 a ha
  have c : PyData.depthAll (xs.map f) ≤ 60 := dep_all fun d hd => by
    obtain ⟨a, ha, rfl⟩ := List.mem_map.mp hd
    exact h3 a ha
  rw [a, b, decide_eq_true c, decide_eq_true (by rw [List.length_map]; exact h4), Bool.or_true]; rfl
theorem srt_l {ds : List PyData} (h : sortB ds = true) : oSrt (.list ds) = some (.list (srt ds)) := if_pos h
theorem srt_t {ds : List PyData} (h : sortB ds = true) : oSrt (.tuple ds) = some (.list (srt ds)) := if_pos h
theorem sortB_ev {xs : List Ev} (h : xs.length ≤ LINE) : sortB (xs.map dE) = true := sortB_map dE (fun _ _ _ _ => rfl) (fun _ _ => rfl) (fun _ _ => by show (1 : Nat) ≤ 60; omega) h
theorem allev_len (p : Pl) (a b : Int) : ∀ ls : List Ln, (ls.flatMap fun l => evL p l a b).length ≤ (b - a).toNat * ls.length := flatMap_len (fun l => evL p l a b) _ fun l => evL_len p l a b
theorem events_eq {p : Pl} (g : Good p) (r : Rise p) {a b : Int} (sa : small a) (sb : small b) (hab : b - a ≤ 100000) : f_events [dP p, .int a, .int b] = .ok (.tuple ((evs p a b).map dE)) := by
  have hL : ∀ ls : List Ln, ls.length ≤ 100 → (ls.flatMap fun l => evL p l a b).length ≤ 10000000 := fun ls h => by
    have h1 := allev_len p a b ls
    have h2 : (b - a).toNat * ls.length ≤ 100000 * 100 := Nat.mul_le_mul (by omega) h
    omega
  have gl := g.len
  refine runP_gs ?_
  simp only [startE, startE, rb_ok, rb_exc, rs_ok, rs_exc, s_seq, seq_nx, seq_rt, seq_bk, seq_ct, seq_exc, nxO_s, s_asg, s_par, s_par3, s_ret, s_expr, s_next, s_bk, s_ct, s_raise, s_if, ifS_t, ifS_f, ifS_exc, s_for, eVar, e_c, wOf_s, rOf_s, bOf_s, e_ix, asD_d, ob_s, om_s, e_d1, e_d2, e_dN, asDs_1, asDs_2, bvO_s, e_t, o1_s, o2_s, a_nil, a_cons, prO_ok, prO_exc, e_cp, e_cg, call_1, call_2, call_3, call_4, call_5, call_6, b_not, b_and, b_or, andB_t, andB_f, orB_t, orB_f, b_tr, truW_b, e_if, ifE_t, ifE_f, e_isN, e_notN, e_notV, notV_s, e_andV, andV_t, andV_f, e_ch, chO_t, chO_f, e_sl, o_no, o_yes, oiO_s, sl_t, sl_l, i_zip, zipI_t, zipI_l, add_ii, sub_ii, neg_i, lt_ii, le_ii, gt_ii, ge_ii, eq_ii, ne_ii, eq_ss, ne_ss, eq_bb, ne_bb, len_t, len_l, min_ii, max_ii, int_i, int_b, tup_l, tup_t, lst_l, lst_t, sum_ints, e_tup, e_lst, itO_s, i_any, itA_t, itA_l, i_r1, i_r2, bindT, bindTs, unpk_t, un_L, un_P, mkSq, allD, wipeE, LINE, List.map_cons, List.map_nil, List.length_cons, List.length_nil, List.replicate, List.cons_append, List.nil_append, Nat.sub_self, Nat.reduceSub, Nat.reduceAdd, List.getElem?_cons_zero, List.getElem?_cons_succ, List.set_cons_zero, List.set_cons_succ, reduceIte, Bool.false_eq_true, Bool.not_true, Bool.not_false, Nat.reduceLeDiff, if_true, if_false, decide_true, decide_false]
  apply step
  · simp only [e_newL0, startE, rb_ok, rb_exc, rs_ok, rs_exc, s_seq, seq_nx, seq_rt, seq_bk, seq_ct, seq_exc, nxO_s, s_asg, s_par, s_par3, s_ret, s_expr, s_next, s_bk, s_ct, s_raise, s_if, ifS_t, ifS_f, ifS_exc, s_for, eVar, e_c, wOf_s, rOf_s, bOf_s, e_ix, asD_d, ob_s, om_s, e_d1, e_d2, e_dN, asDs_1, asDs_2, bvO_s, e_t, o1_s, o2_s, a_nil, a_cons, prO_ok, prO_exc, e_cp, e_cg, call_1, call_2, call_3, call_4, call_5, call_6, b_not, b_and, b_or, andB_t, andB_f, orB_t, orB_f, b_tr, truW_b, e_if, ifE_t, ifE_f, e_isN, e_notN, e_notV, notV_s, e_andV, andV_t, andV_f, e_ch, chO_t, chO_f, e_sl, o_no, o_yes, oiO_s, sl_t, sl_l, i_zip, zipI_t, zipI_l, add_ii, sub_ii, neg_i, lt_ii, le_ii, gt_ii, ge_ii, eq_ii, ne_ii, eq_ss, ne_ss, eq_bb, ne_bb, len_t, len_l, min_ii, max_ii, int_i, int_b, tup_l, tup_t, lst_l, lst_t, sum_ints, e_tup, e_lst, itO_s, i_any, itA_t, itA_l, i_r1, i_r2, bindT, bindTs, unpk_t, un_L, un_P, mkSq, allD, wipeE, LINE, List.map_cons, List.map_nil, List.length_cons, List.length_nil, List.replicate, List.cons_append, List.nil_append, Nat.sub_self, Nat.reduceSub, Nat.reduceAdd, List.getElem?_cons_zero, List.getElem?_cons_succ, List.set_cons_zero, List.set_cons_succ, reduceIte, Bool.false_eq_true, Bool.not_true, Bool.not_false, Nat.reduceLeDiff, if_true, if_false, decide_true, decide_false]
    try rfl
  refine for_step p.2 (fun l => .d (dL l)) (fun i ρ S => (∃ f : Nat → Option Wv, ρ = [some (.d (dP p)), some (.d (.int a)), some (.d (.int b)), some (.o 0), f 4]) ∧ S = [.lst ((((p.2.take i).flatMap fun l => evL p l a b).map dE).map .d)]) (S' := [.lst []]) ?_ ⟨slots rfl, rfl⟩ ?_ ?_
  · simp only [ix_P1, mapLd, startE, rb_ok, rb_exc, rs_ok, rs_exc, s_seq, seq_nx, seq_rt, seq_bk, seq_ct, seq_exc, nxO_s, s_asg, s_par, s_par3, s_ret, s_expr, s_next, s_bk, s_ct, s_raise, s_if, ifS_t, ifS_f, ifS_exc, s_for, eVar, e_c, wOf_s, rOf_s, bOf_s, e_ix, asD_d, ob_s, om_s, e_d1, e_d2, e_dN, asDs_1, asDs_2, bvO_s, e_t, o1_s, o2_s, a_nil, a_cons, prO_ok, prO_exc, e_cp, e_cg, call_1, call_2, call_3, call_4, call_5, call_6, b_not, b_and, b_or, andB_t, andB_f, orB_t, orB_f, b_tr, truW_b, e_if, ifE_t, ifE_f, e_isN, e_notN, e_notV, notV_s, e_andV, andV_t, andV_f, e_ch, chO_t, chO_f, e_sl, o_no, o_yes, oiO_s, sl_t, sl_l, i_zip, zipI_t, zipI_l, add_ii, sub_ii, neg_i, lt_ii, le_ii, gt_ii, ge_ii, eq_ii, ne_ii, eq_ss, ne_ss, eq_bb, ne_bb, len_t, len_l, min_ii, max_ii, int_i, int_b, tup_l, tup_t, lst_l, lst_t, sum_ints, e_tup, e_lst, itO_s, i_any, itA_t, itA_l, i_r1, i_r2, bindT, bindTs, unpk_t, un_L, un_P, mkSq, allD, wipeE, LINE, List.map_cons, List.map_nil, List.length_cons, List.length_nil, List.replicate, List.cons_append, List.nil_append, Nat.sub_self, Nat.reduceSub, Nat.reduceAdd, List.getElem?_cons_zero, List.getElem?_cons_succ, List.set_cons_zero, List.set_cons_succ, reduceIte, Bool.false_eq_true, Bool.not_true, Bool.not_false, Nat.reduceLeDiff, if_true, if_false, decide_true, decide_false]
  · rintro i l hi ρ S ⟨⟨f, rfl⟩, rfl⟩
    have hm : l ∈ p.2 := List.mem_of_getElem? hi
    have hl := (List.getElem?_eq_some_iff.mp hi).1
    refine ⟨_, rfl, ?_⟩
    have tk : p.2.take (i + 1) = p.2.take i ++ [l] := by rw [List.take_add_one, hi]; rfl
    have le := line_events_eq g hm sa sb (by omega)
    have h1 := hL (p.2.take i) (by rw [List.length_take]; omega)
    have h2 := evL_len p l a b
    have ex := fun (ρ : En) (e3 : ρ = [some (.d (dP p)), some (.d (.int a)), some (.d (.int b)), some (.o 0), some (.d (dL l))]) => e_ext (f := eVar 3) (g := aCons (eDN (o1 oList) (aCons (eCallP f_line_events (aCons (eVar 0) (aCons (eIx (eVar 4) (eC (.int 0))) (aCons (eVar 1) (aCons (eVar 2) aNil))))) aNil)) aNil) (ρ := ρ) (S := [.lst ((((p.2.take i).flatMap fun l => evL p l a b).map dE).map .d)]) (S1 := [.lst ((((p.2.take i).flatMap fun l => evL p l a b).map dE).map .d)]) (k := 0) (ds := (evL p l a b).map dE) (by rw [e3]; rfl) rfl (by rw [e3]; simp only [ix_L0, le, startE, rb_ok, rb_exc, rs_ok, rs_exc, s_seq, seq_nx, seq_rt, seq_bk, seq_ct, seq_exc, nxO_s, s_asg, s_par, s_par3, s_ret, s_expr, s_next, s_bk, s_ct, s_raise, s_if, ifS_t, ifS_f, ifS_exc, s_for, eVar, e_c, wOf_s, rOf_s, bOf_s, e_ix, asD_d, ob_s, om_s, e_d1, e_d2, e_dN, asDs_1, asDs_2, bvO_s, e_t, o1_s, o2_s, a_nil, a_cons, prO_ok, prO_exc, e_cp, e_cg, call_1, call_2, call_3, call_4, call_5, call_6, b_not, b_and, b_or, andB_t, andB_f, orB_t, orB_f, b_tr, truW_b, e_if, ifE_t, ifE_f, e_isN, e_notN, e_notV, notV_s, e_andV, andV_t, andV_f, e_ch, chO_t, chO_f, e_sl, o_no, o_yes, oiO_s, sl_t, sl_l, i_zip, zipI_t, zipI_l, add_ii, sub_ii, neg_i, lt_ii, le_ii, gt_ii, ge_ii, eq_ii, ne_ii, eq_ss, ne_ss, eq_bb, ne_bb, len_t, len_l, min_ii, max_ii, int_i, int_b, tup_l, tup_t, lst_l, lst_t, sum_ints, e_tup, e_lst, itO_s, i_any, itA_t, itA_l, i_r1, i_r2, bindT, bindTs, unpk_t, un_L, un_P, mkSq, allD, wipeE, LINE, List.map_cons, List.map_nil, List.length_cons, List.length_nil, List.replicate, List.cons_append, List.nil_append, Nat.sub_self, Nat.reduceSub, Nat.reduceAdd, List.getElem?_cons_zero, List.getElem?_cons_succ, List.set_cons_zero, List.set_cons_succ, reduceIte, Bool.false_eq_true, Bool.not_true, Bool.not_false, Nat.reduceLeDiff, if_true, if_false, decide_true, decide_false]) rfl (by rw [List.length_map, List.length_map, List.length_map]; unfold LINE; omega)
    have ex1 := ex _ rfl
    refine fin (r := .nx [some (.d (dP p)), some (.d (.int a)), some (.d (.int b)), some (.o 0), some (.d (dL l))] [.lst ((((p.2.take (i + 1)).flatMap fun l => evL p l a b).map dE).map .d)]) ?_ ⟨_, _, rfl, slots rfl, rfl⟩
    simp only [l1_events, startE, rb_ok, rb_exc, rs_ok, rs_exc, s_seq, seq_nx, seq_rt, seq_bk, seq_ct, seq_exc, nxO_s, s_asg, s_par, s_par3, s_ret, s_expr, s_next, s_bk, s_ct, s_raise, s_if, ifS_t, ifS_f, ifS_exc, s_for, eVar, e_c, wOf_s, rOf_s, bOf_s, e_ix, asD_d, ob_s, om_s, e_d1, e_d2, e_dN, asDs_1, asDs_2, bvO_s, e_t, o1_s, o2_s, a_nil, a_cons, prO_ok, prO_exc, e_cp, e_cg, call_1, call_2, call_3, call_4, call_5, call_6, b_not, b_and, b_or, andB_t, andB_f, orB_t, orB_f, b_tr, truW_b, e_if, ifE_t, ifE_f, e_isN, e_notN, e_notV, notV_s, e_andV, andV_t, andV_f, e_ch, chO_t, chO_f, e_sl, o_no, o_yes, oiO_s, sl_t, sl_l, i_zip, zipI_t, zipI_l, add_ii, sub_ii, neg_i, lt_ii, le_ii, gt_ii, ge_ii, eq_ii, ne_ii, eq_ss, ne_ss, eq_bb, ne_bb, len_t, len_l, min_ii, max_ii, int_i, int_b, tup_l, tup_t, lst_l, lst_t, sum_ints, e_tup, e_lst, itO_s, i_any, itA_t, itA_l, i_r1, i_r2, bindT, bindTs, unpk_t, un_L, un_P, mkSq, allD, wipeE, LINE, List.map_cons, List.map_nil, List.length_cons, List.length_nil, List.replicate, List.cons_append, List.nil_append, Nat.sub_self, Nat.reduceSub, Nat.reduceAdd, List.getElem?_cons_zero, List.getElem?_cons_succ, List.set_cons_zero, List.set_cons_succ, reduceIte, Bool.false_eq_true, Bool.not_true, Bool.not_false, Nat.reduceLeDiff, if_true, if_false, decide_true, decide_false] at ex1 ⊢
    rw [ex1, tk]
    simp only [List.flatMap_append, List.flatMap_cons, List.flatMap_nil, List.append_nil, List.map_append, startE, rb_ok, rb_exc, rs_ok, rs_exc, s_seq, seq_nx, seq_rt, seq_bk, seq_ct, seq_exc, nxO_s, s_asg, s_par, s_par3, s_ret, s_expr, s_next, s_bk, s_ct, s_raise, s_if, ifS_t, ifS_f, ifS_exc, s_for, eVar, e_c, wOf_s, rOf_s, bOf_s, e_ix, asD_d, ob_s, om_s, e_d1, e_d2, e_dN, asDs_1, asDs_2, bvO_s, e_t, o1_s, o2_s, a_nil, a_cons, prO_ok, prO_exc, e_cp, e_cg, call_1, call_2, call_3, call_4, call_5, call_6, b_not, b_and, b_or, andB_t, andB_f, orB_t, orB_f, b_tr, truW_b, e_if, ifE_t, ifE_f, e_isN, e_notN, e_notV, notV_s, e_andV, andV_t, andV_f, e_ch, chO_t, chO_f, e_sl, o_no, o_yes, oiO_s, sl_t, sl_l, i_zip, zipI_t, zipI_l, add_ii, sub_ii, neg_i, lt_ii, le_ii, gt_ii, ge_ii, eq_ii, ne_ii, eq_ss, ne_ss, eq_bb, ne_bb, len_t, len_l, min_ii, max_ii, int_i, int_b, tup_l, tup_t, lst_l, lst_t, sum_ints, e_tup, e_lst, itO_s, i_any, itA_t, itA_l, i_r1, i_r2, bindT, bindTs, unpk_t, un_L, un_P, mkSq, allD, wipeE, LINE, List.map_cons, List.map_nil, List.length_cons, List.length_nil, List.replicate, List.cons_append, List.nil_append, Nat.sub_self, Nat.reduceSub, Nat.reduceAdd, List.getElem?_cons_zero, List.getElem?_cons_succ, List.set_cons_zero, List.set_cons_succ, reduceIte, Bool.false_eq_true, Bool.not_true, Bool.not_false, Nat.reduceLeDiff, if_true, if_false, decide_true, decide_false]
  · rintro ρ S ⟨⟨f, rfl⟩, rfl⟩
    rw [List.take_length]
    refine gs_frz (k := 0) rfl rfl ?_
    rw [mkSq_ds]
    have hs := srt_l (sortB_ev (xs := p.2.flatMap fun l => evL p l a b) (by have := hL p.2 gl; unfold LINE; omega))
    rw [srt_of (evs_perm p a b) (evs_up r a b)] at hs
    apply fin
    · simp only [hs, startE, rb_ok, rb_exc, rs_ok, rs_exc, s_seq, seq_nx, seq_rt, seq_bk, seq_ct, seq_exc, nxO_s, s_asg, s_par, s_par3, s_ret, s_expr, s_next, s_bk, s_ct, s_raise, s_if, ifS_t, ifS_f, ifS_exc, s_for, eVar, e_c, wOf_s, rOf_s, bOf_s, e_ix, asD_d, ob_s, om_s, e_d1, e_d2, e_dN, asDs_1, asDs_2, bvO_s, e_t, o1_s, o2_s, a_nil, a_cons, prO_ok, prO_exc, e_cp, e_cg, call_1, call_2, call_3, call_4, call_5, call_6, b_not, b_and, b_or, andB_t, andB_f, orB_t, orB_f, b_tr, truW_b, e_if, ifE_t, ifE_f, e_isN, e_notN, e_notV, notV_s, e_andV, andV_t, andV_f, e_ch, chO_t, chO_f, e_sl, o_no, o_yes, oiO_s, sl_t, sl_l, i_zip, zipI_t, zipI_l, add_ii, sub_ii, neg_i, lt_ii, le_ii, gt_ii, ge_ii, eq_ii, ne_ii, eq_ss, ne_ss, eq_bb, ne_bb, len_t, len_l, min_ii, max_ii, int_i, int_b, tup_l, tup_t, lst_l, lst_t, sum_ints, e_tup, e_lst, itO_s, i_any, itA_t, itA_l, i_r1, i_r2, bindT, bindTs, unpk_t, un_L, un_P, mkSq, allD, wipeE, LINE, List.map_cons, List.map_nil, List.length_cons, List.length_nil, List.replicate, List.cons_append, List.nil_append, Nat.sub_self, Nat.reduceSub, Nat.reduceAdd, List.getElem?_cons_zero, List.getElem?_cons_succ, List.set_cons_zero, List.set_cons_succ, reduceIte, Bool.false_eq_true, Bool.not_true, Bool.not_false, Nat.reduceLeDiff, if_true, if_false, decide_true, decide_false]
      try rfl
    exact ⟨_, rfl⟩

/-! ### wakes -/
def edL (p : Pl) (l : Ln) : List Int := match edgesOf p l with
  | none => []
  | some (a, b) => [a, b]
def wk (p : Pl) : List Int := (rng 0 p.1).filter fun b => p.2.any fun l => chg p l b
theorem wk_up (p : Pl) : (wk p).Pairwise (· < ·) := List.Pairwise.sublist List.filter_sublist (rng_up 0 p.1)
theorem mem_edL {p : Pl} (g : Good p) {l : Ln} (hl : l ∈ p.2) (k : Int) : k ∈ edL p l ↔ (0 ≤ k ∧ k < p.1) ∧ chg p l k = true := by
  have hb := g.b
  have hw := g.w l hl
  unfold edL
  rcases chg_cases (p := p) (l := l) hb.1 hw.1 hw.2.1 k with ⟨e0, c⟩ | ⟨s, t, e0, rfl, rfl, w0, w1⟩
  · rw [e0, c]; simp
  · rw [e0]
    have m0 := Int.emod_nonneg (l.2.2 + l.2.1) (by omega : p.1 ≠ 0)
    have m1 := Int.emod_lt_of_pos (l.2.2 + l.2.1) hb.1
    simp only [List.mem_cons, List.not_mem_nil, or_false]
    constructor
    · intro h
      have hk : 0 ≤ k ∧ k < p.1 := by rcases h with h | h <;> omega
      refine ⟨hk, ?_⟩
      have mk := Int.emod_eq_of_lt hk.1 hk.2
      rcases edge_at (p := p) (l := l) hb.1 hw.2.2.1 hw.2.2.2 w0 w1 k with ⟨_, _, c, _⟩ | ⟨_, _, c, _⟩ | ⟨c1, c2, _⟩
      · exact c
      · exact c
      · rw [mk] at c1 c2
        rcases h with h | h
        · exact absurd h c1
        · exact absurd h c2
    · rintro ⟨hk, hc⟩
      have mk := Int.emod_eq_of_lt hk.1 hk.2
      rcases edge_at (p := p) (l := l) hb.1 hw.2.2.1 hw.2.2.2 w0 w1 k with ⟨c1, _⟩ | ⟨c1, _⟩ | ⟨_, _, c⟩
      · rw [mk] at c1; exact .inl c1
      · rw [mk] at c1; exact .inr c1
      · rw [c] at hc; cases hc
theorem mem_wk {p : Pl} {k : Int} : k ∈ wk p ↔ (0 ≤ k ∧ k < p.1) ∧ ∃ l ∈ p.2, chg p l k = true := by
  unfold wk
  rw [List.mem_filter, List.any_eq_true]
  constructor
  · rintro ⟨h, h2⟩; exact ⟨rng_mem h, h2⟩
  · rintro ⟨h, h2⟩; exact ⟨mem_rng h.1 h.2, h2⟩
theorem sset_wk {p : Pl} (g : Good p) : sset (p.2.flatMap fun l => edL p l) = wk p := by
  refine up_ext (sset_up _) (wk_up p) fun k => ?_
  rw [mem_sset, List.mem_flatMap, mem_wk]
  constructor
  · rintro ⟨l, hl, h⟩
    have := (mem_edL g hl k).mp h
    exact ⟨this.1, l, hl, this.2⟩
  · rintro ⟨hk, l, hl, h⟩
    exact ⟨l, hl, (mem_edL g hl k).mpr ⟨hk, h⟩⟩
theorem edL_len (p : Pl) (l : Ln) : (edL p l).length ≤ 2 := by
  unfold edL
  split <;> simp
theorem sset_l {ns : List Int} (h : ns.length < 64) : oSSet (.list (ns.map .int)) = some (.list ((sset ns).map .int)) := by
  show (match intsOf (ns.map .int) with | some ns => if ns.length < 64 then some (PyData.list ((sset ns).map .int)) else none | none => none) = _
  rw [intsOf_map]; exact if_pos h
theorem sset_t {ns : List Int} (h : ns.length < 64) : oSSet (.tuple (ns.map .int)) = some (.list ((sset ns).map .int)) := by
  show (match intsOf (ns.map .int) with | some ns => if ns.length < 64 then some (PyData.list ((sset ns).map .int)) else none | none => none) = _
  rw [intsOf_map]; exact if_pos h
theorem wakes_eq {p : Pl} (g : Good p) (h31 : p.2.length ≤ 31) : f_wakes [dP p] = .ok (.tuple ((wk p).map .int)) := by
  have hb := g.b
  have hL : ∀ ls : List Ln, (ls.flatMap fun l => edL p l).length ≤ 2 * ls.length := flatMap_len (fun l => edL p l) _ fun l => edL_len p l
  refine runP_gs ?_
  simp only [startE, startE, rb_ok, rb_exc, rs_ok, rs_exc, s_seq, seq_nx, seq_rt, seq_bk, seq_ct, seq_exc, nxO_s, s_asg, s_par, s_par3, s_ret, s_expr, s_next, s_bk, s_ct, s_raise, s_if, ifS_t, ifS_f, ifS_exc, s_for, eVar, e_c, wOf_s, rOf_s, bOf_s, e_ix, asD_d, ob_s, om_s, e_d1, e_d2, e_dN, asDs_1, asDs_2, bvO_s, e_t, o1_s, o2_s, a_nil, a_cons, prO_ok, prO_exc, e_cp, e_cg, call_1, call_2, call_3, call_4, call_5, call_6, b_not, b_and, b_or, andB_t, andB_f, orB_t, orB_f, b_tr, truW_b, e_if, ifE_t, ifE_f, e_isN, e_notN, e_notV, notV_s, e_andV, andV_t, andV_f, e_ch, chO_t, chO_f, e_sl, o_no, o_yes, oiO_s, sl_t, sl_l, i_zip, zipI_t, zipI_l, add_ii, sub_ii, neg_i, lt_ii, le_ii, gt_ii, ge_ii, eq_ii, ne_ii, eq_ss, ne_ss, eq_bb, ne_bb, len_t, len_l, min_ii, max_ii, int_i, int_b, tup_l, tup_t, lst_l, lst_t, sum_ints, e_tup, e_lst, itO_s, i_any, itA_t, itA_l, i_r1, i_r2, bindT, bindTs, unpk_t, un_L, un_P, mkSq, allD, wipeE, LINE, List.map_cons, List.map_nil, List.length_cons, List.length_nil, List.replicate, List.cons_append, List.nil_append, Nat.sub_self, Nat.reduceSub, Nat.reduceAdd, List.getElem?_cons_zero, List.getElem?_cons_succ, List.set_cons_zero, List.set_cons_succ, reduceIte, Bool.false_eq_true, Bool.not_true, Bool.not_false, Nat.reduceLeDiff, if_true, if_false, decide_true, decide_false]
  apply step
  · simp only [e_newL0, startE, rb_ok, rb_exc, rs_ok, rs_exc, s_seq, seq_nx, seq_rt, seq_bk, seq_ct, seq_exc, nxO_s, s_asg, s_par, s_par3, s_ret, s_expr, s_next, s_bk, s_ct, s_raise, s_if, ifS_t, ifS_f, ifS_exc, s_for, eVar, e_c, wOf_s, rOf_s, bOf_s, e_ix, asD_d, ob_s, om_s, e_d1, e_d2, e_dN, asDs_1, asDs_2, bvO_s, e_t, o1_s, o2_s, a_nil, a_cons, prO_ok, prO_exc, e_cp, e_cg, call_1, call_2, call_3, call_4, call_5, call_6, b_not, b_and, b_or, andB_t, andB_f, orB_t, orB_f, b_tr, truW_b, e_if, ifE_t, ifE_f, e_isN, e_notN, e_notV, notV_s, e_andV, andV_t, andV_f, e_ch, chO_t, chO_f, e_sl, o_no, o_yes, oiO_s, sl_t, sl_l, i_zip, zipI_t, zipI_l, add_ii, sub_ii, neg_i, lt_ii, le_ii, gt_ii, ge_ii, eq_ii, ne_ii, eq_ss, ne_ss, eq_bb, ne_bb, len_t, len_l, min_ii, max_ii, int_i, int_b, tup_l, tup_t, lst_l, lst_t, sum_ints, e_tup, e_lst, itO_s, i_any, itA_t, itA_l, i_r1, i_r2, bindT, bindTs, unpk_t, un_L, un_P, mkSq, allD, wipeE, LINE, List.map_cons, List.map_nil, List.length_cons, List.length_nil, List.replicate, List.cons_append, List.nil_append, Nat.sub_self, Nat.reduceSub, Nat.reduceAdd, List.getElem?_cons_zero, List.getElem?_cons_succ, List.set_cons_zero, List.set_cons_succ, reduceIte, Bool.false_eq_true, Bool.not_true, Bool.not_false, Nat.reduceLeDiff, if_true, if_false, decide_true, decide_false]
    try rfl
  refine for_step p.2 (fun l => .d (dL l)) (fun i ρ S => (∃ f : Nat → Option Wv, ρ = [some (.d (dP p)), some (.o 0), f 2, f 3]) ∧ S = [.lst ((((p.2.take i).flatMap fun l => edL p l).map .int).map .d)]) (S' := [.lst []]) ?_ ⟨slots rfl, rfl⟩ ?_ ?_
  · simp only [ix_P1, mapLd, startE, rb_ok, rb_exc, rs_ok, rs_exc, s_seq, seq_nx, seq_rt, seq_bk, seq_ct, seq_exc, nxO_s, s_asg, s_par, s_par3, s_ret, s_expr, s_next, s_bk, s_ct, s_raise, s_if, ifS_t, ifS_f, ifS_exc, s_for, eVar, e_c, wOf_s, rOf_s, bOf_s, e_ix, asD_d, ob_s, om_s, e_d1, e_d2, e_dN, asDs_1, asDs_2, bvO_s, e_t, o1_s, o2_s, a_nil, a_cons, prO_ok, prO_exc, e_cp, e_cg, call_1, call_2, call_3, call_4, call_5, call_6, b_not, b_and, b_or, andB_t, andB_f, orB_t, orB_f, b_tr, truW_b, e_if, ifE_t, ifE_f, e_isN, e_notN, e_notV, notV_s, e_andV, andV_t, andV_f, e_ch, chO_t, chO_f, e_sl, o_no, o_yes, oiO_s, sl_t, sl_l, i_zip, zipI_t, zipI_l, add_ii, sub_ii, neg_i, lt_ii, le_ii, gt_ii, ge_ii, eq_ii, ne_ii, eq_ss, ne_ss, eq_bb, ne_bb, len_t, len_l, min_ii, max_ii, int_i, int_b, tup_l, tup_t, lst_l, lst_t, sum_ints, e_tup, e_lst, itO_s, i_any, itA_t, itA_l, i_r1, i_r2, bindT, bindTs, unpk_t, un_L, un_P, mkSq, allD, wipeE, LINE, List.map_cons, List.map_nil, List.length_cons, List.length_nil, List.replicate, List.cons_append, List.nil_append, Nat.sub_self, Nat.reduceSub, Nat.reduceAdd, List.getElem?_cons_zero, List.getElem?_cons_succ, List.set_cons_zero, List.set_cons_succ, reduceIte, Bool.false_eq_true, Bool.not_true, Bool.not_false, Nat.reduceLeDiff, if_true, if_false, decide_true, decide_false]
  · rintro i l hi ρ S ⟨⟨f, rfl⟩, rfl⟩
    have hm : l ∈ p.2 := List.mem_of_getElem? hi
    refine ⟨_, rfl, ?_⟩
    have tk : p.2.take (i + 1) = p.2.take i ++ [l] := by rw [List.take_add_one, hi]; rfl
    have le := line_edges_eq hb.1 (g.line hm)
    have h1 := hL (p.2.take i)
    rw [List.length_take] at h1
    cases e : edgesOf p l with
    | none =>
      have ez : edL p l = [] := by unfold edL; rw [e]
      rw [e] at le
      apply step
      · simp only [ix_L0, le, startE, rb_ok, rb_exc, rs_ok, rs_exc, s_seq, seq_nx, seq_rt, seq_bk, seq_ct, seq_exc, nxO_s, s_asg, s_par, s_par3, s_ret, s_expr, s_next, s_bk, s_ct, s_raise, s_if, ifS_t, ifS_f, ifS_exc, s_for, eVar, e_c, wOf_s, rOf_s, bOf_s, e_ix, asD_d, ob_s, om_s, e_d1, e_d2, e_dN, asDs_1, asDs_2, bvO_s, e_t, o1_s, o2_s, a_nil, a_cons, prO_ok, prO_exc, e_cp, e_cg, call_1, call_2, call_3, call_4, call_5, call_6, b_not, b_and, b_or, andB_t, andB_f, orB_t, orB_f, b_tr, truW_b, e_if, ifE_t, ifE_f, e_isN, e_notN, e_notV, notV_s, e_andV, andV_t, andV_f, e_ch, chO_t, chO_f, e_sl, o_no, o_yes, oiO_s, sl_t, sl_l, i_zip, zipI_t, zipI_l, add_ii, sub_ii, neg_i, lt_ii, le_ii, gt_ii, ge_ii, eq_ii, ne_ii, eq_ss, ne_ss, eq_bb, ne_bb, len_t, len_l, min_ii, max_ii, int_i, int_b, tup_l, tup_t, lst_l, lst_t, sum_ints, e_tup, e_lst, itO_s, i_any, itA_t, itA_l, i_r1, i_r2, bindT, bindTs, unpk_t, un_L, un_P, mkSq, allD, wipeE, LINE, List.map_cons, List.map_nil, List.length_cons, List.length_nil, List.replicate, List.cons_append, List.nil_append, Nat.sub_self, Nat.reduceSub, Nat.reduceAdd, List.getElem?_cons_zero, List.getElem?_cons_succ, List.set_cons_zero, List.set_cons_succ, reduceIte, Bool.false_eq_true, Bool.not_true, Bool.not_false, Nat.reduceLeDiff, if_true, if_false, decide_true, decide_false]
        try rfl
      apply fin
      · simp only [edgesD, isNW, startE, rb_ok, rb_exc, rs_ok, rs_exc, s_seq, seq_nx, seq_rt, seq_bk, seq_ct, seq_exc, nxO_s, s_asg, s_par, s_par3, s_ret, s_expr, s_next, s_bk, s_ct, s_raise, s_if, ifS_t, ifS_f, ifS_exc, s_for, eVar, e_c, wOf_s, rOf_s, bOf_s, e_ix, asD_d, ob_s, om_s, e_d1, e_d2, e_dN, asDs_1, asDs_2, bvO_s, e_t, o1_s, o2_s, a_nil, a_cons, prO_ok, prO_exc, e_cp, e_cg, call_1, call_2, call_3, call_4, call_5, call_6, b_not, b_and, b_or, andB_t, andB_f, orB_t, orB_f, b_tr, truW_b, e_if, ifE_t, ifE_f, e_isN, e_notN, e_notV, notV_s, e_andV, andV_t, andV_f, e_ch, chO_t, chO_f, e_sl, o_no, o_yes, oiO_s, sl_t, sl_l, i_zip, zipI_t, zipI_l, add_ii, sub_ii, neg_i, lt_ii, le_ii, gt_ii, ge_ii, eq_ii, ne_ii, eq_ss, ne_ss, eq_bb, ne_bb, len_t, len_l, min_ii, max_ii, int_i, int_b, tup_l, tup_t, lst_l, lst_t, sum_ints, e_tup, e_lst, itO_s, i_any, itA_t, itA_l, i_r1, i_r2, bindT, bindTs, unpk_t, un_L, un_P, mkSq, allD, wipeE, LINE, List.map_cons, List.map_nil, List.length_cons, List.length_nil, List.replicate, List.cons_append, List.nil_append, Nat.sub_self, Nat.reduceSub, Nat.reduceAdd, List.getElem?_cons_zero, List.getElem?_cons_succ, List.set_cons_zero, List.set_cons_succ, reduceIte, Bool.false_eq_true, Bool.not_true, Bool.not_false, Nat.reduceLeDiff, if_true, if_false, decide_true, decide_false]
        try rfl
      exact ⟨_, _, rfl, slots rfl, by rw [tk]; simp [ez]⟩
    | some q =>
      obtain ⟨x, y⟩ := q
      have ez : edL p l = [x, y] := by unfold edL; rw [e]
      rw [e] at le
      apply step
      · simp only [ix_L0, le, startE, rb_ok, rb_exc, rs_ok, rs_exc, s_seq, seq_nx, seq_rt, seq_bk, seq_ct, seq_exc, nxO_s, s_asg, s_par, s_par3, s_ret, s_expr, s_next, s_bk, s_ct, s_raise, s_if, ifS_t, ifS_f, ifS_exc, s_for, eVar, e_c, wOf_s, rOf_s, bOf_s, e_ix, asD_d, ob_s, om_s, e_d1, e_d2, e_dN, asDs_1, asDs_2, bvO_s, e_t, o1_s, o2_s, a_nil, a_cons, prO_ok, prO_exc, e_cp, e_cg, call_1, call_2, call_3, call_4, call_5, call_6, b_not, b_and, b_or, andB_t, andB_f, orB_t, orB_f, b_tr, truW_b, e_if, ifE_t, ifE_f, e_isN, e_notN, e_notV, notV_s, e_andV, andV_t, andV_f, e_ch, chO_t, chO_f, e_sl, o_no, o_yes, oiO_s, sl_t, sl_l, i_zip, zipI_t, zipI_l, add_ii, sub_ii, neg_i, lt_ii, le_ii, gt_ii, ge_ii, eq_ii, ne_ii, eq_ss, ne_ss, eq_bb, ne_bb, len_t, len_l, min_ii, max_ii, int_i, int_b, tup_l, tup_t, lst_l, lst_t, sum_ints, e_tup, e_lst, itO_s, i_any, itA_t, itA_l, i_r1, i_r2, bindT, bindTs, unpk_t, un_L, un_P, mkSq, allD, wipeE, LINE, List.map_cons, List.map_nil, List.length_cons, List.length_nil, List.replicate, List.cons_append, List.nil_append, Nat.sub_self, Nat.reduceSub, Nat.reduceAdd, List.getElem?_cons_zero, List.getElem?_cons_succ, List.set_cons_zero, List.set_cons_succ, reduceIte, Bool.false_eq_true, Bool.not_true, Bool.not_false, Nat.reduceLeDiff, if_true, if_false, decide_true, decide_false]
        try rfl
      have ex := fun (ρ : En) (e3 : ρ = [some (.d (dP p)), some (.o 0), some (.d (dL l)), some (.d (.tuple [.int x, .int y]))]) => e_ext (f := eVar 1) (g := aCons (eDN (o1 oList) (aCons (eVar 3) aNil)) aNil) (ρ := ρ) (S := [.lst ((((p.2.take i).flatMap fun l => edL p l).map .int).map .d)]) (S1 := [.lst ((((p.2.take i).flatMap fun l => edL p l).map .int).map .d)]) (k := 0) (ds := [.int x, .int y]) (by rw [e3]; rfl) rfl (by rw [e3]; simp only [startE, rb_ok, rb_exc, rs_ok, rs_exc, s_seq, seq_nx, seq_rt, seq_bk, seq_ct, seq_exc, nxO_s, s_asg, s_par, s_par3, s_ret, s_expr, s_next, s_bk, s_ct, s_raise, s_if, ifS_t, ifS_f, ifS_exc, s_for, eVar, e_c, wOf_s, rOf_s, bOf_s, e_ix, asD_d, ob_s, om_s, e_d1, e_d2, e_dN, asDs_1, asDs_2, bvO_s, e_t, o1_s, o2_s, a_nil, a_cons, prO_ok, prO_exc, e_cp, e_cg, call_1, call_2, call_3, call_4, call_5, call_6, b_not, b_and, b_or, andB_t, andB_f, orB_t, orB_f, b_tr, truW_b, e_if, ifE_t, ifE_f, e_isN, e_notN, e_notV, notV_s, e_andV, andV_t, andV_f, e_ch, chO_t, chO_f, e_sl, o_no, o_yes, oiO_s, sl_t, sl_l, i_zip, zipI_t, zipI_l, add_ii, sub_ii, neg_i, lt_ii, le_ii, gt_ii, ge_ii, eq_ii, ne_ii, eq_ss, ne_ss, eq_bb, ne_bb, len_t, len_l, min_ii, max_ii, int_i, int_b, tup_l, tup_t, lst_l, lst_t, sum_ints, e_tup, e_lst, itO_s, i_any, itA_t, itA_l, i_r1, i_r2, bindT, bindTs, unpk_t, un_L, un_P, mkSq, allD, wipeE, LINE, List.map_cons, List.map_nil, List.length_cons, List.length_nil, List.replicate, List.cons_append, List.nil_append, Nat.sub_self, Nat.reduceSub, Nat.reduceAdd, List.getElem?_cons_zero, List.getElem?_cons_succ, List.set_cons_zero, List.set_cons_succ, reduceIte, Bool.false_eq_true, Bool.not_true, Bool.not_false, Nat.reduceLeDiff, if_true, if_false, decide_true, decide_false]) rfl (by rw [List.length_map, List.length_map]; simp only [List.length_cons, List.length_nil]; unfold LINE; omega)
      have ex1 := ex _ rfl
      refine fin (r := .nx [some (.d (dP p)), some (.o 0), some (.d (dL l)), some (.d (.tuple [.int x, .int y]))] [.lst ((((p.2.take (i + 1)).flatMap fun l => edL p l).map .int).map .d)]) ?_ ⟨_, _, rfl, slots rfl, rfl⟩
      simp only [edgesD, isNW, startE, rb_ok, rb_exc, rs_ok, rs_exc, s_seq, seq_nx, seq_rt, seq_bk, seq_ct, seq_exc, nxO_s, s_asg, s_par, s_par3, s_ret, s_expr, s_next, s_bk, s_ct, s_raise, s_if, ifS_t, ifS_f, ifS_exc, s_for, eVar, e_c, wOf_s, rOf_s, bOf_s, e_ix, asD_d, ob_s, om_s, e_d1, e_d2, e_dN, asDs_1, asDs_2, bvO_s, e_t, o1_s, o2_s, a_nil, a_cons, prO_ok, prO_exc, e_cp, e_cg, call_1, call_2, call_3, call_4, call_5, call_6, b_not, b_and, b_or, andB_t, andB_f, orB_t, orB_f, b_tr, truW_b, e_if, ifE_t, ifE_f, e_isN, e_notN, e_notV, notV_s, e_andV, andV_t, andV_f, e_ch, chO_t, chO_f, e_sl, o_no, o_yes, oiO_s, sl_t, sl_l, i_zip, zipI_t, zipI_l, add_ii, sub_ii, neg_i, lt_ii, le_ii, gt_ii, ge_ii, eq_ii, ne_ii, eq_ss, ne_ss, eq_bb, ne_bb, len_t, len_l, min_ii, max_ii, int_i, int_b, tup_l, tup_t, lst_l, lst_t, sum_ints, e_tup, e_lst, itO_s, i_any, itA_t, itA_l, i_r1, i_r2, bindT, bindTs, unpk_t, un_L, un_P, mkSq, allD, wipeE, LINE, List.map_cons, List.map_nil, List.length_cons, List.length_nil, List.replicate, List.cons_append, List.nil_append, Nat.sub_self, Nat.reduceSub, Nat.reduceAdd, List.getElem?_cons_zero, List.getElem?_cons_succ, List.set_cons_zero, List.set_cons_succ, reduceIte, Bool.false_eq_true, Bool.not_true, Bool.not_false, Nat.reduceLeDiff, if_true, if_false, decide_true, decide_false] at ex1 ⊢
      rw [ex1, tk]
      simp only [List.flatMap_append, List.flatMap_cons, List.flatMap_nil, List.append_nil, List.map_append, ez, startE, rb_ok, rb_exc, rs_ok, rs_exc, s_seq, seq_nx, seq_rt, seq_bk, seq_ct, seq_exc, nxO_s, s_asg, s_par, s_par3, s_ret, s_expr, s_next, s_bk, s_ct, s_raise, s_if, ifS_t, ifS_f, ifS_exc, s_for, eVar, e_c, wOf_s, rOf_s, bOf_s, e_ix, asD_d, ob_s, om_s, e_d1, e_d2, e_dN, asDs_1, asDs_2, bvO_s, e_t, o1_s, o2_s, a_nil, a_cons, prO_ok, prO_exc, e_cp, e_cg, call_1, call_2, call_3, call_4, call_5, call_6, b_not, b_and, b_or, andB_t, andB_f, orB_t, orB_f, b_tr, truW_b, e_if, ifE_t, ifE_f, e_isN, e_notN, e_notV, notV_s, e_andV, andV_t, andV_f, e_ch, chO_t, chO_f, e_sl, o_no, o_yes, oiO_s, sl_t, sl_l, i_zip, zipI_t, zipI_l, add_ii, sub_ii, neg_i, lt_ii, le_ii, gt_ii, ge_ii, eq_ii, ne_ii, eq_ss, ne_ss, eq_bb, ne_bb, len_t, len_l, min_ii, max_ii, int_i, int_b, tup_l, tup_t, lst_l, lst_t, sum_ints, e_tup, e_lst, itO_s, i_any, itA_t, itA_l, i_r1, i_r2, bindT, bindTs, unpk_t, un_L, un_P, mkSq, allD, wipeE, LINE, List.map_cons, List.map_nil, List.length_cons, List.length_nil, List.replicate, List.cons_append, List.nil_append, Nat.sub_self, Nat.reduceSub, Nat.reduceAdd, List.getElem?_cons_zero, List.getElem?_cons_succ, List.set_cons_zero, List.set_cons_succ, reduceIte, Bool.false_eq_true, Bool.not_true, Bool.not_false, Nat.reduceLeDiff, if_true, if_false, decide_true, decide_false]
  · rintro ρ S ⟨⟨f, rfl⟩, rfl⟩
    rw [List.take_length]
    refine gs_frz (k := 0) rfl rfl ?_
    rw [mkSq_ds]
    have hs := sset_l (ns := p.2.flatMap fun l => edL p l) (by have := hL p.2; omega)
    rw [sset_wk g] at hs
    apply fin
    · simp only [hs, startE, rb_ok, rb_exc, rs_ok, rs_exc, s_seq, seq_nx, seq_rt, seq_bk, seq_ct, seq_exc, nxO_s, s_asg, s_par, s_par3, s_ret, s_expr, s_next, s_bk, s_ct, s_raise, s_if, ifS_t, ifS_f, ifS_exc, s_for, eVar, e_c, wOf_s, rOf_s, bOf_s, e_ix, asD_d, ob_s, om_s, e_d1, e_d2, e_dN, asDs_1, asDs_2, bvO_s, e_t, o1_s, o2_s, a_nil, a_cons, prO_ok, prO_exc, e_cp, e_cg, call_1, call_2, call_3, call_4, call_5, call_6, b_not, b_and, b_or, andB_t, andB_f, orB_t, orB_f, b_tr, truW_b, e_if, ifE_t, ifE_f, e_isN, e_notN, e_notV, notV_s, e_andV, andV_t, andV_f, e_ch, chO_t, chO_f, e_sl, o_no, o_yes, oiO_s, sl_t, sl_l, i_zip, zipI_t, zipI_l, add_ii, sub_ii, neg_i, lt_ii, le_ii, gt_ii, ge_ii, eq_ii, ne_ii, eq_ss, ne_ss, eq_bb, ne_bb, len_t, len_l, min_ii, max_ii, int_i, int_b, tup_l, tup_t, lst_l, lst_t, sum_ints, e_tup, e_lst, itO_s, i_any, itA_t, itA_l, i_r1, i_r2, bindT, bindTs, unpk_t, un_L, un_P, mkSq, allD, wipeE, LINE, List.map_cons, List.map_nil, List.length_cons, List.length_nil, List.replicate, List.cons_append, List.nil_append, Nat.sub_self, Nat.reduceSub, Nat.reduceAdd, List.getElem?_cons_zero, List.getElem?_cons_succ, List.set_cons_zero, List.set_cons_succ, reduceIte, Bool.false_eq_true, Bool.not_true, Bool.not_false, Nat.reduceLeDiff, if_true, if_false, decide_true, decide_false]
      try rfl
    exact ⟨_, rfl⟩
end PL

/-! # PL, part 8: a, b, c = a list -/
namespace PL
open PySem PySem.Spec PyProof.Rows L2
def sAsgL (l : List Tg) (f : Ef) : Sf := fun ρ S => (f ρ S).bindS ρ fun w S1 => match itL w with
  | some ws => match bindTs l ws ρ with
    | some ρ' => .nx ρ' S1
    | none => .bad
  | none => .bad
def nxL (o : Option (List Wv)) (l : List Tg) (ρ : En) (S : Store) : SRes := match o with
  | some ws => match bindTs l ws ρ with
    | some ρ' => .nx ρ' S
    | none => .bad
  | none => .bad
theorem s_asgL {l : List Tg} {f : Ef} {ρ : En} {S : Store} : sAsgL l f ρ S = (f ρ S).bindS ρ fun w S1 => nxL (itL w) l ρ S1 := by unfold sAsgL nxL; rfl
theorem nxL_s {ws : List Wv} {l : List Tg} {ρ : En} {S : Store} : nxL (some ws) l ρ S = nxO (bindTs l ws ρ) S := by unfold nxL nxO; rfl
theorem itL_l {xs : List PyData} : itL (.d (.list xs)) = some (xs.map .d) := rfl
section
variable {X : Cx} {ct : Str → Addr} {ex : WX} {e : Expr} {f : Ef} {pos tp : Pos}
theorem ss_asgL {es : List Expr} {k : Nat} {ts : List Tg} (hc : X.calm = true) (he : PE X e (tE (CC X ct ex) f)) (hg : PGs X es (tGs (CC X ct ex) ts)) (hl : (assignEach es X.env).length = ts.length := by rfl) (hst : (assignEach es X.env).findIdx? (·.1) = none := by rfl)
    (hs : swapsWithSole [.Tuple es k tp] e pos.line X.env = pure false := by rfl) (hw : swappedStores [.Tuple es k tp] e X.env = pure none := by rfl) (h1 : (assignEach [.Tuple es k tp] X.env).map (·.2) = [assign (.Tuple es k tp) X.env] := by rfl) :
    PS X (.Assign [.Tuple es k tp] e pos) (tS (CC X ct ex) (sAsgL ts f)) := by
  refine PS.imp (ps_asg he (pg_lst (n := ts.length) hc hg hl hst) hs hw h1) fun D σ H ⟨W, ρ, S, k, p⟩ => ?_
  refine tE_S k p fun v w W1 S1 H1 k1 r1 p1 => ?_
  cases e1 : itL w with
  | none => rw [e1] at p1; exact p1.elim
  | some ws =>
    rw [e1] at p1
    dsimp only at p1
    cases e2 : bindTs ts ws ρ with
    | none => rw [e2] at p1; exact p1.elim
    | some ρ' =>
      rw [e2] at p1
      obtain ⟨a, vs, rfl, hs', hr⟩ := itL_of r1 e1
      exact ⟨a, vs, rfl, (mask_same _ _).seq hs', by rw [hr.length, bindTs_len e2], W1, ρ, S1, ws, ρ', k1, hr, e2, fun σ' k' => p1 W1 σ' H1 (Le.refl _ _) k'⟩
end
end PL

/-! # PL, part 9: how far apart; near; comprehensions that draw -/
namespace PL
open PySem PySem.Spec PyProof.Rows L2 PySem.SeqAt PySem.W
def ap (n a b : Int) : Int := min ((a - b) % n) ((b - a) % n)
theorem apart_eq {n : Int} (hn : 0 < n) (a b : Int) : f_apart [.int n, .int a, .int b] = .ok (.int (ap n a b)) := by
  refine runP_rt (S := []) ?_
  simp only [b_apart, mod_ii hn, startE, rb_ok, rb_exc, rs_ok, rs_exc, s_seq, seq_nx, seq_rt, seq_bk, seq_ct, seq_exc, nxO_s, s_asg, s_par, s_par3, s_ret, s_expr, s_next, s_bk, s_ct, s_raise, s_if, ifS_t, ifS_f, ifS_exc, s_for, eVar, e_c, wOf_s, rOf_s, bOf_s, e_ix, asD_d, ob_s, om_s, e_d1, e_d2, e_dN, asDs_1, asDs_2, bvO_s, e_t, o1_s, o2_s, a_nil, a_cons, prO_ok, prO_exc, e_cp, e_cg, call_1, call_2, call_3, call_4, call_5, call_6, b_not, b_and, b_or, andB_t, andB_f, orB_t, orB_f, b_tr, truW_b, e_if, ifE_t, ifE_f, e_isN, e_notN, e_notV, notV_s, e_andV, andV_t, andV_f, e_ch, chO_t, chO_f, e_sl, o_no, o_yes, oiO_s, sl_t, sl_l, i_zip, zipI_t, zipI_l, add_ii, sub_ii, neg_i, lt_ii, le_ii, gt_ii, ge_ii, eq_ii, ne_ii, eq_ss, ne_ss, eq_bb, ne_bb, len_t, len_l, min_ii, max_ii, int_i, int_b, tup_l, tup_t, lst_l, lst_t, sum_ints, e_tup, e_lst, itO_s, i_any, itA_t, itA_l, i_r1, i_r2, bindT, bindTs, unpk_t, un_L, un_P, mkSq, allD, wipeE, LINE, List.map_cons, List.map_nil, List.length_cons, List.length_nil, List.replicate, List.cons_append, List.nil_append, Nat.sub_self, Nat.reduceSub, Nat.reduceAdd, List.getElem?_cons_zero, List.getElem?_cons_succ, List.set_cons_zero, List.set_cons_succ, reduceIte, Bool.false_eq_true, Bool.not_true, Bool.not_false, Nat.reduceLeDiff, if_true, if_false, decide_true, decide_false, ap]
theorem ap_comm (n a b : Int) : ap n a b = ap n b a := Int.min_comm _ _
theorem ap_self (n a : Int) : ap n a a = 0 := by unfold ap; rw [Int.sub_self, Int.zero_emod]; rfl
theorem ap_nonneg {n : Int} (hn : 0 < n) (a b : Int) : 0 ≤ ap n a b := by
  have h1 := Int.emod_nonneg (a - b) (by omega : n ≠ 0)
  have h2 := Int.emod_nonneg (b - a) (by omega : n ≠ 0)
  unfold ap; omega
theorem sub_mod {n a b : Int} (hb0 : 0 ≤ b) (hb1 : b < n) (ha0 : 0 ≤ a) (ha1 : a < n) : (a - b) % n = if b ≤ a then a - b else a - b + n := by
  split
  · exact Int.emod_eq_of_lt (by omega) (by omega)
  · have e : a - b = (a - b + n) + n * (-1) := by omega
    conv => lhs; rw [e]
    rw [Int.add_mul_emod_self_left, Int.emod_eq_of_lt (by omega) (by omega)]
theorem ap_in {n a b : Int} (ha0 : 0 ≤ a) (ha1 : a < n) (hb0 : 0 ≤ b) (hb1 : b < n) : ap n a b = if a = b then 0 else min (max a b - min a b) (n - (max a b - min a b)) := by
  unfold ap
  rw [sub_mod hb0 hb1 ha0 ha1, sub_mod ha0 ha1 hb0 hb1]
  split <;> split <;> split <;> omega
theorem ap_mod {n : Int} (a b : Int) : ap n (a % n) (b % n) = ap n a b := by
  unfold ap
  rw [← Int.sub_emod, ← Int.sub_emod]
theorem ap_shift (n a b k : Int) : ap n (a + k) (b + k) = ap n a b := by
  unfold ap
  have e1 : a + k - (b + k) = a - b := by omega
  have e2 : b + k - (a + k) = b - a := by omega
  rw [e1, e2]
theorem ap_tri {n a b c : Int} (ha0 : 0 ≤ a) (ha1 : a < n) (hb0 : 0 ≤ b) (hb1 : b < n) (hc0 : 0 ≤ c) (hc1 : c < n) : ap n a b ≤ ap n a c + ap n c b := by
  rw [ap_in ha0 ha1 hb0 hb1, ap_in ha0 ha1 hc0 hc1, ap_in hc0 hc1 hb0 hb1]
  split <;> split <;> split <;> omega

/-! ### near -/
def nearB (p : Pl) (some : List Int) (k : Int) : Bool := (wk p).all fun e => some.any fun o => decide (ap p.1 e o ≤ k)
theorem nearB_iff {p : Pl} {xs : List Int} {k : Int} : nearB p xs k = true ↔ ∀ e ∈ wk p, ∃ o ∈ xs, ap p.1 e o ≤ k := by
  unfold nearB
  simp only [List.all_eq_true, List.any_eq_true, decide_eq_true_eq]
theorem wk_len {p : Pl} (g : Good p) : (wk p).length ≤ 100000 := by
  have h := List.length_filter_le (fun b => p.2.any fun l => chg p l b) (rng 0 p.1)
  rw [rng_len] at h
  have := g.b
  unfold wk
  omega
theorem map_bl {α : Type} (f : α → Bool) (xs : List α) : (xs.map fun x => PyData.bool (f x)) = (xs.map f).map .bool := by rw [List.map_map]; rfl
theorem map_in {α : Type} (f : α → Int) (xs : List α) : (xs.map fun x => PyData.int (f x)) = (xs.map f).map .int := by rw [List.map_map]; rfl
theorem map_st {α : Type} (f : α → Str) (xs : List α) : (xs.map fun x => PyData.str (f x)) = (xs.map f).map .str := by rw [List.map_map]; rfl
theorem mapd {α : Type} (f : α → PyData) (xs : List α) : (xs.map f).map Wv.d = xs.map fun x => Wv.d (f x) := by rw [List.map_map]; rfl
theorem is_near_eq {p : Pl} (g : Good p) (h31 : p.2.length ≤ 31) {xs : List Int} (hx : xs.length ≤ 1000000) (k : Int) : f_is_near [dP p, .tuple (xs.map .int), .int k] = .ok (.bool (nearB p xs k)) := by
  have hb := g.b
  have hw := wk_len g
  have inner : ∀ (e : Int) (S : Store) (y4 : Option Wv), eComp (iAny (eVar 1)) (.nm 4) bYes e1_is_near [4] [some (.d (dP p)), some (.d (.tuple (xs.map .int))), some (.d (.int k)), some (.d (.int e)), y4] S = .ok (.d (.list ((xs.map fun o => decide (ap p.1 e o ≤ k)).map .bool))) S := by
    intro e S y4
    have c1 := fun (y4 : Option Wv) (S : Store) => eComp_all (it := (iAny (eVar 1))) (tg := (.nm 4)) (f := e1_is_near) (vs := [4]) (ρ := [some (.d (dP p)), some (.d (.tuple (xs.map .int))), some (.d (.int (k))), some (.d (.int (e))), y4]) (S := S) (xs := xs) (fun o => .d (.int o)) (fun o => .bool (decide (ap p.1 e o ≤ k))) (fun o => [some (.d (dP p)), some (.d (.tuple (xs.map .int))), some (.d (.int (k))), some (.d (.int (e))), some (.d (.int o))]) (by simp only [mapd, startE, rb_ok, rb_exc, rs_ok, rs_exc, s_seq, seq_nx, seq_rt, seq_bk, seq_ct, seq_exc, nxO_s, s_asg, s_par, s_par3, s_ret, s_expr, s_next, s_bk, s_ct, s_raise, s_if, ifS_t, ifS_f, ifS_exc, s_for, eVar, e_c, wOf_s, rOf_s, bOf_s, e_ix, asD_d, ob_s, om_s, e_d1, e_d2, e_dN, asDs_1, asDs_2, bvO_s, e_t, o1_s, o2_s, a_nil, a_cons, prO_ok, prO_exc, e_cp, e_cg, call_1, call_2, call_3, call_4, call_5, call_6, b_not, b_and, b_or, andB_t, andB_f, orB_t, orB_f, b_tr, truW_b, e_if, ifE_t, ifE_f, e_isN, e_notN, e_notV, notV_s, e_andV, andV_t, andV_f, e_ch, chO_t, chO_f, e_sl, o_no, o_yes, oiO_s, sl_t, sl_l, i_zip, zipI_t, zipI_l, add_ii, sub_ii, neg_i, lt_ii, le_ii, gt_ii, ge_ii, eq_ii, ne_ii, eq_ss, ne_ss, eq_bb, ne_bb, len_t, len_l, min_ii, max_ii, int_i, int_b, tup_l, tup_t, lst_l, lst_t, sum_ints, e_tup, e_lst, itO_s, i_any, itA_t, itA_l, i_r1, i_r2, bindT, bindTs, unpk_t, un_L, un_P, mkSq, allD, wipeE, LINE, List.map_cons, List.map_nil, List.length_cons, List.length_nil, List.replicate, List.cons_append, List.nil_append, Nat.sub_self, Nat.reduceSub, Nat.reduceAdd, List.getElem?_cons_zero, List.getElem?_cons_succ, List.set_cons_zero, List.set_cons_succ, reduceIte, Bool.false_eq_true, Bool.not_true, Bool.not_false, Nat.reduceLeDiff, if_true, if_false, decide_true, decide_false]) (by unfold LINE; omega) (fun o _ => rfl) (fun o ho => by simp only [e1_is_near, ix_P0, apart_eq hb.1, startE, rb_ok, rb_exc, rs_ok, rs_exc, s_seq, seq_nx, seq_rt, seq_bk, seq_ct, seq_exc, nxO_s, s_asg, s_par, s_par3, s_ret, s_expr, s_next, s_bk, s_ct, s_raise, s_if, ifS_t, ifS_f, ifS_exc, s_for, eVar, e_c, wOf_s, rOf_s, bOf_s, e_ix, asD_d, ob_s, om_s, e_d1, e_d2, e_dN, asDs_1, asDs_2, bvO_s, e_t, o1_s, o2_s, a_nil, a_cons, prO_ok, prO_exc, e_cp, e_cg, call_1, call_2, call_3, call_4, call_5, call_6, b_not, b_and, b_or, andB_t, andB_f, orB_t, orB_f, b_tr, truW_b, e_if, ifE_t, ifE_f, e_isN, e_notN, e_notV, notV_s, e_andV, andV_t, andV_f, e_ch, chO_t, chO_f, e_sl, o_no, o_yes, oiO_s, sl_t, sl_l, i_zip, zipI_t, zipI_l, add_ii, sub_ii, neg_i, lt_ii, le_ii, gt_ii, ge_ii, eq_ii, ne_ii, eq_ss, ne_ss, eq_bb, ne_bb, len_t, len_l, min_ii, max_ii, int_i, int_b, tup_l, tup_t, lst_l, lst_t, sum_ints, e_tup, e_lst, itO_s, i_any, itA_t, itA_l, i_r1, i_r2, bindT, bindTs, unpk_t, un_L, un_P, mkSq, allD, wipeE, LINE, List.map_cons, List.map_nil, List.length_cons, List.length_nil, List.replicate, List.cons_append, List.nil_append, Nat.sub_self, Nat.reduceSub, Nat.reduceAdd, List.getElem?_cons_zero, List.getElem?_cons_succ, List.set_cons_zero, List.set_cons_succ, reduceIte, Bool.false_eq_true, Bool.not_true, Bool.not_false, Nat.reduceLeDiff, if_true, if_false, decide_true, decide_false])
    rw [c1 y4 S, map_bl]
  have c2 := fun (x4 y3 : Option Wv) (S : Store) => eComp_all (it := (iAny (eCallP f_wakes (aCons (eVar 0) aNil)))) (tg := (.nm 3)) (f := e2_is_near) (vs := [3]) (ρ := [some (.d (dP p)), some (.d (.tuple (xs.map .int))), some (.d (.int (k))), y3, x4]) (S := S) (xs := wk p) (fun e => .d (.int e)) (fun e => .bool (xs.any fun o => decide (ap p.1 e o ≤ k))) (fun e => [some (.d (dP p)), some (.d (.tuple (xs.map .int))), some (.d (.int (k))), some (.d (.int e)), x4]) (by simp only [wakes_eq g h31, mapd, startE, rb_ok, rb_exc, rs_ok, rs_exc, s_seq, seq_nx, seq_rt, seq_bk, seq_ct, seq_exc, nxO_s, s_asg, s_par, s_par3, s_ret, s_expr, s_next, s_bk, s_ct, s_raise, s_if, ifS_t, ifS_f, ifS_exc, s_for, eVar, e_c, wOf_s, rOf_s, bOf_s, e_ix, asD_d, ob_s, om_s, e_d1, e_d2, e_dN, asDs_1, asDs_2, bvO_s, e_t, o1_s, o2_s, a_nil, a_cons, prO_ok, prO_exc, e_cp, e_cg, call_1, call_2, call_3, call_4, call_5, call_6, b_not, b_and, b_or, andB_t, andB_f, orB_t, orB_f, b_tr, truW_b, e_if, ifE_t, ifE_f, e_isN, e_notN, e_notV, notV_s, e_andV, andV_t, andV_f, e_ch, chO_t, chO_f, e_sl, o_no, o_yes, oiO_s, sl_t, sl_l, i_zip, zipI_t, zipI_l, add_ii, sub_ii, neg_i, lt_ii, le_ii, gt_ii, ge_ii, eq_ii, ne_ii, eq_ss, ne_ss, eq_bb, ne_bb, len_t, len_l, min_ii, max_ii, int_i, int_b, tup_l, tup_t, lst_l, lst_t, sum_ints, e_tup, e_lst, itO_s, i_any, itA_t, itA_l, i_r1, i_r2, bindT, bindTs, unpk_t, un_L, un_P, mkSq, allD, wipeE, LINE, List.map_cons, List.map_nil, List.length_cons, List.length_nil, List.replicate, List.cons_append, List.nil_append, Nat.sub_self, Nat.reduceSub, Nat.reduceAdd, List.getElem?_cons_zero, List.getElem?_cons_succ, List.set_cons_zero, List.set_cons_succ, reduceIte, Bool.false_eq_true, Bool.not_true, Bool.not_false, Nat.reduceLeDiff, if_true, if_false, decide_true, decide_false]) (by unfold LINE; omega) (fun e _ => rfl) (fun e he => by simp only [e2_is_near, inner, any_bls, startE, rb_ok, rb_exc, rs_ok, rs_exc, s_seq, seq_nx, seq_rt, seq_bk, seq_ct, seq_exc, nxO_s, s_asg, s_par, s_par3, s_ret, s_expr, s_next, s_bk, s_ct, s_raise, s_if, ifS_t, ifS_f, ifS_exc, s_for, eVar, e_c, wOf_s, rOf_s, bOf_s, e_ix, asD_d, ob_s, om_s, e_d1, e_d2, e_dN, asDs_1, asDs_2, bvO_s, e_t, o1_s, o2_s, a_nil, a_cons, prO_ok, prO_exc, e_cp, e_cg, call_1, call_2, call_3, call_4, call_5, call_6, b_not, b_and, b_or, andB_t, andB_f, orB_t, orB_f, b_tr, truW_b, e_if, ifE_t, ifE_f, e_isN, e_notN, e_notV, notV_s, e_andV, andV_t, andV_f, e_ch, chO_t, chO_f, e_sl, o_no, o_yes, oiO_s, sl_t, sl_l, i_zip, zipI_t, zipI_l, add_ii, sub_ii, neg_i, lt_ii, le_ii, gt_ii, ge_ii, eq_ii, ne_ii, eq_ss, ne_ss, eq_bb, ne_bb, len_t, len_l, min_ii, max_ii, int_i, int_b, tup_l, tup_t, lst_l, lst_t, sum_ints, e_tup, e_lst, itO_s, i_any, itA_t, itA_l, i_r1, i_r2, bindT, bindTs, unpk_t, un_L, un_P, mkSq, allD, wipeE, LINE, List.map_cons, List.map_nil, List.length_cons, List.length_nil, List.replicate, List.cons_append, List.nil_append, Nat.sub_self, Nat.reduceSub, Nat.reduceAdd, List.getElem?_cons_zero, List.getElem?_cons_succ, List.set_cons_zero, List.set_cons_succ, reduceIte, Bool.false_eq_true, Bool.not_true, Bool.not_false, Nat.reduceLeDiff, if_true, if_false, decide_true, decide_false, List.any_map, Function.comp_def, id])
  refine runP_gs ?_
  simp only [startE, startE, rb_ok, rb_exc, rs_ok, rs_exc, s_seq, seq_nx, seq_rt, seq_bk, seq_ct, seq_exc, nxO_s, s_asg, s_par, s_par3, s_ret, s_expr, s_next, s_bk, s_ct, s_raise, s_if, ifS_t, ifS_f, ifS_exc, s_for, eVar, e_c, wOf_s, rOf_s, bOf_s, e_ix, asD_d, ob_s, om_s, e_d1, e_d2, e_dN, asDs_1, asDs_2, bvO_s, e_t, o1_s, o2_s, a_nil, a_cons, prO_ok, prO_exc, e_cp, e_cg, call_1, call_2, call_3, call_4, call_5, call_6, b_not, b_and, b_or, andB_t, andB_f, orB_t, orB_f, b_tr, truW_b, e_if, ifE_t, ifE_f, e_isN, e_notN, e_notV, notV_s, e_andV, andV_t, andV_f, e_ch, chO_t, chO_f, e_sl, o_no, o_yes, oiO_s, sl_t, sl_l, i_zip, zipI_t, zipI_l, add_ii, sub_ii, neg_i, lt_ii, le_ii, gt_ii, ge_ii, eq_ii, ne_ii, eq_ss, ne_ss, eq_bb, ne_bb, len_t, len_l, min_ii, max_ii, int_i, int_b, tup_l, tup_t, lst_l, lst_t, sum_ints, e_tup, e_lst, itO_s, i_any, itA_t, itA_l, i_r1, i_r2, bindT, bindTs, unpk_t, un_L, un_P, mkSq, allD, wipeE, LINE, List.map_cons, List.map_nil, List.length_cons, List.length_nil, List.replicate, List.cons_append, List.nil_append, Nat.sub_self, Nat.reduceSub, Nat.reduceAdd, List.getElem?_cons_zero, List.getElem?_cons_succ, List.set_cons_zero, List.set_cons_succ, reduceIte, Bool.false_eq_true, Bool.not_true, Bool.not_false, Nat.reduceLeDiff, if_true, if_false, decide_true, decide_false]
  apply fin
  · simp only [b_is_near, c2, map_bl, all_bls, startE, rb_ok, rb_exc, rs_ok, rs_exc, s_seq, seq_nx, seq_rt, seq_bk, seq_ct, seq_exc, nxO_s, s_asg, s_par, s_par3, s_ret, s_expr, s_next, s_bk, s_ct, s_raise, s_if, ifS_t, ifS_f, ifS_exc, s_for, eVar, e_c, wOf_s, rOf_s, bOf_s, e_ix, asD_d, ob_s, om_s, e_d1, e_d2, e_dN, asDs_1, asDs_2, bvO_s, e_t, o1_s, o2_s, a_nil, a_cons, prO_ok, prO_exc, e_cp, e_cg, call_1, call_2, call_3, call_4, call_5, call_6, b_not, b_and, b_or, andB_t, andB_f, orB_t, orB_f, b_tr, truW_b, e_if, ifE_t, ifE_f, e_isN, e_notN, e_notV, notV_s, e_andV, andV_t, andV_f, e_ch, chO_t, chO_f, e_sl, o_no, o_yes, oiO_s, sl_t, sl_l, i_zip, zipI_t, zipI_l, add_ii, sub_ii, neg_i, lt_ii, le_ii, gt_ii, ge_ii, eq_ii, ne_ii, eq_ss, ne_ss, eq_bb, ne_bb, len_t, len_l, min_ii, max_ii, int_i, int_b, tup_l, tup_t, lst_l, lst_t, sum_ints, e_tup, e_lst, itO_s, i_any, itA_t, itA_l, i_r1, i_r2, bindT, bindTs, unpk_t, un_L, un_P, mkSq, allD, wipeE, LINE, List.map_cons, List.map_nil, List.length_cons, List.length_nil, List.replicate, List.cons_append, List.nil_append, Nat.sub_self, Nat.reduceSub, Nat.reduceAdd, List.getElem?_cons_zero, List.getElem?_cons_succ, List.set_cons_zero, List.set_cons_succ, reduceIte, Bool.false_eq_true, Bool.not_true, Bool.not_false, Nat.reduceLeDiff, if_true, if_false, decide_true, decide_false]
    try rfl
  exact ⟨_, by unfold nearB; rw [List.all_map]; rfl⟩

/-! ### t[::-1] -/
theorem stepIx_rev (n : Nat) : stepIx none none (-1) n = (List.range n).map fun m => n - 1 - m := by
  unfold stepIx
  have a : Builtin.Slice.sliceAdjust none none (-1) (n : Int) = ((n : Int) - 1, -1) := rfl
  rw [a]
  dsimp only
  have b : Builtin.Slice.slicePlaces ((n : Int) - 1) (-1) (-1) = n := by
    unfold Builtin.Slice.slicePlaces
    rw [if_neg (by decide)]
    by_cases h : (n : Int) - 1 > -1
    · rw [if_pos h]
      have : -(-1 : Int) = 1 := rfl
      rw [this, Int.ediv_one]
      omega
    · rw [if_neg h]; omega
  rw [b]
  apply List.map_congr_left
  intro m hm
  have := List.mem_range.mp hm
  omega
theorem pick_congr {α : Type} {xs ys : List α} : ∀ {ks : List Nat}, (∀ k ∈ ks, xs[k]? = ys[k]?) → pickL xs ks = pickL ys ks
  | [], _ => rfl
  | k :: r, h => by
    have ih := pick_congr (ks := r) fun j hj => h j (List.mem_cons_of_mem _ hj)
    unfold pickL at ih ⊢
    rw [List.filterMap_cons, List.filterMap_cons, h k List.mem_cons_self, ih]
theorem pick_rev' {α : Type} : ∀ zs : List α, pickL zs.reverse ((List.range zs.length).map fun m => zs.length - 1 - m) = zs
  | [] => rfl
  | z :: r => by
    have ih := pick_rev' r
    rw [List.length_cons, List.range_succ_eq_map, List.map_cons, List.map_map]
    have e : ((fun m => r.length + 1 - 1 - m) ∘ Nat.succ) = fun m => r.length - 1 - m := by funext m; show r.length + 1 - 1 - (m + 1) = _; omega
    rw [e]
    unfold pickL at ih ⊢
    have h0 : (z :: r).reverse[r.length + 1 - 1 - 0]? = some z := by
      rw [List.reverse_cons, List.getElem?_append_right (by rw [List.length_reverse]; omega), List.length_reverse]
      simp
    rw [List.filterMap_cons, h0]
    dsimp only
    congr 1
    refine Eq.trans ?_ ih
    refine pick_congr (xs := (z :: r).reverse) (ys := r.reverse) fun k hk => ?_
    obtain ⟨m, hm, rfl⟩ := List.mem_map.mp hk
    have := List.mem_range.mp hm
    rw [List.reverse_cons, List.getElem?_append_left (by rw [List.length_reverse]; omega)]
theorem pick_rev {α : Type} (xs : List α) : pickL xs (stepIx none none (-1) xs.length) = xs.reverse := by
  rw [stepIx_rev]
  have := pick_rev' xs.reverse
  rwa [List.reverse_reverse, List.length_reverse] at this
theorem stepIx_len (n : Nat) : (stepIx none none (-1) n).length = n := by rw [stepIx_rev, List.length_map, List.length_range]
theorem slS_rev {xs : List PyData} (h : xs.length ≤ LINE) : oSlS (.tuple xs) none none (some (-1)) = some (.tuple xs.reverse) := by
  have c : (-1 : Int) ≠ 0 ∧ (-1 : Int) ≠ 1 ∧ (stepIx none none (-1) xs.length).length ≤ LINE := ⟨by decide, by decide, by rw [stepIx_len]; exact h⟩
  show (if (-1 : Int) ≠ 0 ∧ (-1 : Int) ≠ 1 ∧ (stepIx none none (-1) xs.length).length ≤ LINE then some (PyData.tuple (pickL xs (stepIx none none (-1) xs.length))) else none) = _
  rw [if_pos c, pick_rev]
theorem e_slS {f : Ef} {lo hi st : Of} {ρ : En} {S : Store} : eSlS f lo hi st ρ S = (f ρ S).bind fun x S1 => (lo ρ S1).bind fun l S2 => (hi ρ S2).bind fun h S3 => (st ρ S3).bind fun c S4 => rOf ((asD S4 x).bind fun d => oSlS d l h c) S4 := rfl

/-! ### comprehensions that draw -/
theorem compL_st {α : Type} {tg : Tg} {t : Bf} {f : Ef} {ρ : En} {T : Store} (g : α → Wv) (ρ1 : α → En) (P : α → PyData → Prop) (k B : Nat) : ∀ (xs : List α) (n : Nat) (S : Store), n + k * xs.length ≤ B → Tn n T S → (∀ x ∈ xs, bindT tg (g x) ρ = some (ρ1 x)) →
    (∀ x ∈ xs, ∀ n S, n ≤ B → Tn n T S → (∃ S', t (ρ1 x) S = .ok false S' ∧ Tn (n + k) T S') ∨ ∃ S1 d S', t (ρ1 x) S = .ok true S1 ∧ f (ρ1 x) S1 = .ok (.d d) S' ∧ P x d ∧ Tn (n + k) T S') →
    ∃ (zs : List (α × PyData)) (S' : Store), (zs.map (·.1)).Sublist xs ∧ (∀ z ∈ zs, P z.1 z.2) ∧ compL tg t f ρ (xs.map g) S = .ok (zs.map fun z => .d z.2) S' ∧ Tn (n + k * xs.length) T S'
  | [], n, S, _, tn, _, _ => ⟨[], S, .slnil, (fun z h => by cases h), rfl, by simpa using tn⟩
  | x :: r, n, S, hB, tn, h1, h2 => by
    rw [List.length_cons, Nat.mul_add] at hB
    have b1 := h1 x List.mem_cons_self
    rcases h2 x List.mem_cons_self n S (by omega) tn with ⟨S1, e1, t1⟩ | ⟨S1, d, S2, e1, e2, hP, t1⟩
    · obtain ⟨zs, S', z1, z2, z3, z4⟩ := compL_st g ρ1 P k B r (n + k) S1 (by omega) t1 (fun y hy => h1 y (List.mem_cons_of_mem _ hy)) (fun y hy => h2 y (List.mem_cons_of_mem _ hy))
      refine ⟨zs, S', z1.cons _, z2, ?_, z4.mono (by rw [List.length_cons, Nat.mul_add]; omega)⟩
      rw [List.map_cons, compL, b1]
      dsimp only
      rw [e1]
      exact z3
    · obtain ⟨zs, S', z1, z2, z3, z4⟩ := compL_st g ρ1 P k B r (n + k) S2 (by omega) t1 (fun y hy => h1 y (List.mem_cons_of_mem _ hy)) (fun y hy => h2 y (List.mem_cons_of_mem _ hy))
      refine ⟨(x, d) :: zs, S', z1.cons_cons _, ?_, ?_, z4.mono (by rw [List.length_cons, Nat.mul_add]; omega)⟩
      · intro z hz
        rcases List.mem_cons.mp hz with e | e
        · subst e; exact hP
        · exact z2 z e
      · rw [List.map_cons, compL, b1]
        dsimp only
        rw [e1]
        dsimp only
        rw [e2]
        dsimp only
        rw [z3]; rfl
theorem compL_stA {α : Type} {tg : Tg} {f : Ef} {ρ : En} {T : Store} (g : α → Wv) (ρ1 : α → En) (P : α → PyData → Prop) (k B : Nat) : ∀ (xs : List α) (n : Nat) (S : Store), n + k * xs.length ≤ B → Tn n T S → (∀ x ∈ xs, bindT tg (g x) ρ = some (ρ1 x)) →
    (∀ x ∈ xs, ∀ n S, n ≤ B → Tn n T S → ∃ d S', f (ρ1 x) S = .ok (.d d) S' ∧ P x d ∧ Tn (n + k) T S') →
    ∃ (zs : List (α × PyData)) (S' : Store), zs.map (·.1) = xs ∧ (∀ z ∈ zs, P z.1 z.2) ∧ compL tg bYes f ρ (xs.map g) S = .ok (zs.map fun z => .d z.2) S' ∧ Tn (n + k * xs.length) T S'
  | [], n, S, _, tn, _, _ => ⟨[], S, rfl, (fun z h => by cases h), rfl, by simpa using tn⟩
  | x :: r, n, S, hB, tn, h1, h2 => by
    rw [List.length_cons, Nat.mul_add] at hB
    have b1 := h1 x List.mem_cons_self
    obtain ⟨d, S2, e2, hP, t1⟩ := h2 x List.mem_cons_self n S (by omega) tn
    obtain ⟨zs, S', z1, z2, z3, z4⟩ := compL_stA g ρ1 P k B r (n + k) S2 (by omega) t1 (fun y hy => h1 y (List.mem_cons_of_mem _ hy)) (fun y hy => h2 y (List.mem_cons_of_mem _ hy))
    refine ⟨(x, d) :: zs, S', by rw [List.map_cons, z1], ?_, ?_, z4.mono (by rw [List.length_cons, Nat.mul_add]; omega)⟩
    · intro z hz
      rcases List.mem_cons.mp hz with e | e
      · subst e; exact hP
      · exact z2 z e
    · rw [List.map_cons, compL, b1]
      dsimp only
      rw [show bYes (ρ1 x) S = .ok true S from rfl]
      dsimp only
      rw [e2]
      dsimp only
      rw [z3]; rfl
/-- a comprehension that draws, as an expression -/
theorem eComp_st {α : Type} {it : If} {tg : Tg} {t : Bf} {f : Ef} {vs : List Nat} {ρ : En} {T S : Store} {xs : List α} (g : α → Wv) (ρ1 : α → En) (P : α → PyData → Prop) (k B n : Nat) (hit : it ρ S = .ok (xs.map g) S) (hl : xs.length ≤ LINE) (hB : n + k * xs.length ≤ B) (tn : Tn n T S) (h1 : ∀ x ∈ xs, bindT tg (g x) (wipeE ρ vs) = some (ρ1 x))
    (h2 : ∀ x ∈ xs, ∀ n S, n ≤ B → Tn n T S → (∃ S', t (ρ1 x) S = .ok false S' ∧ Tn (n + k) T S') ∨ ∃ S1 d S', t (ρ1 x) S = .ok true S1 ∧ f (ρ1 x) S1 = .ok (.d d) S' ∧ P x d ∧ Tn (n + k) T S') :
    ∃ (zs : List (α × PyData)) (S' : Store), (zs.map (·.1)).Sublist xs ∧ (∀ z ∈ zs, P z.1 z.2) ∧ eComp it tg t f vs ρ S = .ok (.d (.list (zs.map (·.2)))) S' ∧ Tn (n + k * xs.length) T S' := by
  obtain ⟨zs, S', z1, z2, z3, z4⟩ := compL_st g ρ1 P k B xs n S hB tn h1 h2
  refine ⟨zs, S', z1, z2, ?_, z4⟩
  unfold eComp
  rw [hit]
  show (if (xs.map g).length ≤ LINE then _ else _) = _
  rw [if_pos (by rw [List.length_map]; exact hl), z3]
  dsimp only
  rw [mkSq_map]; rfl
theorem eComp_stA {α : Type} {it : If} {tg : Tg} {f : Ef} {vs : List Nat} {ρ : En} {T S : Store} {xs : List α} (g : α → Wv) (ρ1 : α → En) (P : α → PyData → Prop) (k B n : Nat) (hit : it ρ S = .ok (xs.map g) S) (hl : xs.length ≤ LINE) (hB : n + k * xs.length ≤ B) (tn : Tn n T S) (h1 : ∀ x ∈ xs, bindT tg (g x) (wipeE ρ vs) = some (ρ1 x))
    (h2 : ∀ x ∈ xs, ∀ n S, n ≤ B → Tn n T S → ∃ d S', f (ρ1 x) S = .ok (.d d) S' ∧ P x d ∧ Tn (n + k) T S') :
    ∃ (zs : List (α × PyData)) (S' : Store), zs.map (·.1) = xs ∧ (∀ z ∈ zs, P z.1 z.2) ∧ eComp it tg bYes f vs ρ S = .ok (.d (.list (zs.map (·.2)))) S' ∧ Tn (n + k * xs.length) T S' := by
  obtain ⟨zs, S', z1, z2, z3, z4⟩ := compL_stA g ρ1 P k B xs n S hB tn h1 h2
  refine ⟨zs, S', z1, z2, ?_, z4⟩
  unfold eComp
  rw [hit]
  show (if (xs.map g).length ≤ LINE then _ else _) = _
  rw [if_pos (by rw [List.length_map]; exact hl), z3]
  dsimp only
  rw [mkSq_map]; rfl
end PL

/-! # PL, part a: small things that many laws want -/
namespace PL
open PySem PySem.Spec PyProof.Rows L2 PySem.SeqAt PySem.W
theorem mulT_i {i : Int} {y : PyData} : oMulT (.int i) y = oMul (.int i) y := rfl
theorem any_eqvI (x : Int) : ∀ ys : List Int, (ys.map PyData.int).any (fun z => PyData.eqv z (.int x)) = decide (x ∈ ys)
  | [] => by simp
  | y :: r => by
    rw [List.map_cons, List.any_cons, any_eqvI x r]
    have : PyData.eqv (.int y) (.int x) = (y == x) := rfl
    rw [this]
    by_cases h : y = x
    · subst h; simp
    · have h2 : x ≠ y := fun e => h e.symm
      rw [beq_eq_false_iff_ne.mpr h, Bool.false_or]
      simp [h2]
theorem in_ints {x : Int} {ys : List Int} : oIn (.int x) (.tuple (ys.map .int)) = some (.bool (decide (x ∈ ys))) := by
  show ((if shaped (.int x) = true ∧ shaped (.tuple (ys.map .int)) = true then some ((ys.map PyData.int).any fun z => PyData.eqv z (.int x)) else none).map PyData.bool) = _
  rw [if_pos ⟨rfl, sh_ints ys⟩, any_eqvI]; rfl
theorem in_intsL {x : Int} {ys : List Int} : oIn (.int x) (.list (ys.map .int)) = some (.bool (decide (x ∈ ys))) := by
  show ((if shaped (.int x) = true ∧ shaped (.list (ys.map .int)) = true then some ((ys.map PyData.int).any fun z => PyData.eqv z (.int x)) else none).map PyData.bool) = _
  rw [if_pos ⟨rfl, sh_intsL ys⟩, any_eqvI]; rfl
theorem mn_le_iff {l : List Int} (h : l ≠ []) {k : Int} : mn l ≤ k ↔ ∃ y ∈ l, y ≤ k :=
  ⟨fun q => ⟨mn l, mn_mem h, q⟩, fun ⟨y, hy, q⟩ => Int.le_trans (mn_le hy) q⟩
theorem le_mx_iff {l : List Int} (h : l ≠ []) {k : Int} : k ≤ mx l ↔ ∃ y ∈ l, k ≤ y :=
  ⟨fun q => ⟨mx l, mx_mem h, q⟩, fun ⟨y, hy, q⟩ => Int.le_trans q (le_mx hy)⟩
/-- (z - z // n * n) is the rest -/
theorem rest_eq (z n : Int) : z - z / n * n = z % n := by rw [Int.emod_def, Int.mul_comm]
theorem ne_selfI (x : Int) : (!decide (x = x)) = false := by simp
theorem ne_selfB (b : Bool) : (!decide (b = b)) = false := by simp
/-- three numbers drawn -/
theorem ints_of {α : Type} {P : Int → Prop} : ∀ {zs : List (α × PyData)}, (∀ z ∈ zs, ∃ v : Int, z.2 = .int v ∧ P v) → ∃ vs : List Int, zs.map (·.2) = vs.map .int ∧ vs.length = zs.length ∧ ∀ v ∈ vs, P v
  | [], _ => ⟨[], rfl, rfl, fun v h => by cases h⟩
  | z :: r, h => by
    obtain ⟨vs, h1, h2, h3⟩ := ints_of (zs := r) fun y hy => h y (List.mem_cons_of_mem _ hy)
    obtain ⟨v, e, hv⟩ := h z List.mem_cons_self
    refine ⟨v :: vs, by rw [List.map_cons, List.map_cons, h1, e], by rw [List.length_cons, List.length_cons, h2], fun w hw => ?_⟩
    rcases List.mem_cons.mp hw with q | q
    · rw [q]; exact hv
    · exact h3 w q
/-- a list of numbers, each drawn below m -/
theorem draws_ok {α : Type} {ns : List Int} {it : If} {tg : Tg} {f : Ef} {vs : List Nat} {ρ : En} {T S : Store} {xs : List α} {m : Int} {n : Nat} (g : α → Wv) (ρ1 : α → En) (tn : Tn n T S) (hs : ns.length ≤ 1000) (hn : n + xs.length < 900000) (hm : 0 < m) (hit : it ρ S = .ok (xs.map g) S) (h1 : ∀ x ∈ xs, bindT tg (g x) (wipeE ρ vs) = some (ρ1 x))
    (hf : ∀ x ∈ xs, ∀ S, f (ρ1 x) S = g__law_draw [.d (dS ns), .o 0, .d (.int m)] S) :
    ∃ (us : List Int) (S' : Store), us.length = xs.length ∧ (∀ u ∈ us, 0 ≤ u ∧ u < m) ∧ eComp it tg bYes f vs ρ S = .ok (.d (.list (us.map .int))) S' ∧ Tn (n + xs.length) T S' := by
  obtain ⟨zs, S', z1, z2, z3, z4⟩ := eComp_stA (it := it) (tg := tg) (f := f) (vs := vs) (ρ := ρ) (xs := xs) g ρ1 (fun _ d => ∃ v : Int, d = .int v ∧ 0 ≤ v ∧ v < m) 1 899999 n hit (by unfold LINE; omega) (by omega) tn h1 fun x hx n' S' hn' t' => by
    obtain ⟨v, S2, e, v0, v1, t2⟩ := draw_ok (m := m) t' hs (by omega) hm
    exact ⟨_, S2, by rw [hf x hx]; exact e, ⟨v, rfl, v0, v1⟩, t2⟩
  obtain ⟨us, u1, u2, u3⟩ := ints_of (P := fun v => 0 ≤ v ∧ v < m) z2
  rw [u1] at z3
  exact ⟨us, S', by rw [u2, ← z1, List.length_map], u3, z3, z4.mono (by omega)⟩
section
variable {ρ : En} {S : Store} {u : Bf} {b : Bool}
theorem andB_is (h : b = true) : andB (.ok b S) ρ u = u ρ S := by rw [h]; rfl
theorem andB_no (h : b = false) : andB (.ok b S) ρ u = .ok false S := by rw [h]; rfl
theorem orB_is (h : b = true) : orB (.ok b S) ρ u = .ok true S := by rw [h]; rfl
theorem orB_no (h : b = false) : orB (.ok b S) ρ u = u ρ S := by rw [h]; rfl
theorem ifS_is {g k : Sf} (h : b = true) : ifS (.ok b S) ρ g k = g ρ S := by rw [h]; rfl
theorem ifS_no {g k : Sf} (h : b = false) : ifS (.ok b S) ρ g k = k ρ S := by rw [h]; rfl
end
theorem r1_ok {fl : Lf} {ρ : En} {S S1 : Store} {j : Int} (h : fl ρ S = .ok [.d (.int j)] S1) (hs : small j) : iR1 fl ρ S = .ok (rngW 0 j.toNat) S1 := by
  rw [i_r1, h, rb_ok, r1O_s hs]
theorem r1_nat {fl : Lf} {ρ : En} {S S1 : Store} {n : Nat} (h : fl ρ S = .ok [.d (.int (n : Int))] S1) (hs : n ≤ 1000000000) : iR1 fl ρ S = .ok ((List.range n).map fun i : Nat => Wv.d (.int (0 + (i : Int)))) S1 := by
  rw [r1_ok h ⟨by omega, by omega⟩, Int.toNat_natCast, rngW_n]
theorem tf (b : Bool) : b = true ∨ b = false := by cases b <;> simp
end PL

/-! # PL, part b: a written list so many times -/
namespace PL
open PySem PySem.Spec PyProof.Rows L2
def repL (ws : List Wv) (w : Wv) (S : Store) : Res Wv := match w with
  | .d (.int k) => match allD ws with
    | some ds => if 0 ≤ k ∧ k ≤ 1000 ∧ ds.length ≤ 1000 then .ok (.d (.list (timesD ds k))) S else .bad
    | none => .bad
  | _ => .bad
def eRepL (f : Lf) (g : Ef) : Ef := fun ρ S => (f ρ S).bind fun ws S1 => if ws.length ≤ LINE then (g ρ S1).bind fun w S2 => repL ws w S2 else .bad
section
variable {X : Cx} {ct : Str → Addr} {ex : WX} {es : List Expr} {b : Expr} {fl : Lf} {g : Ef} {pos p2 : Pos}
theorem ee_repL (h : PA X es (tL (CC X ct ex) fl)) (hb : PE X b (tE (CC X ct ex) g)) : PE X (.BinOp (.List es p2) .Mult b pos) (tE (CC X ct ex) (eRepL fl g)) := by
  refine PE.imp (pe_op op_rep (pe_lst h) hb) fun σ H Q ⟨W, ρ, S, k, p⟩ => ?_
  refine tL_E k p fun vs ws W1 S1 H1 k1 r1 p1 => ?_
  by_cases hz : ws.length ≤ LINE
  case neg => rw [if_neg hz] at p1; exact p1.elim
  rw [if_pos hz] at p1
  refine ⟨by rw [r1.length, line_eq]; exact hz, fun q hq => ?_⟩
  have s := same_upd hq (.lst vs)
  have k2 := k1.le (Le.grow (W := W1) s) (k1.st.grow s)
  refine ⟨W1, ρ, S1, k2, ?_⟩
  cases e0 : g ρ S1 with
  | exc c S2 => rw [e0] at p1; exact fun W' H' m => p1 W' H' ((Le.grow s).trans m)
  | bad => rw [e0] at p1; exact p1
  | ok w S2 =>
    rw [e0] at p1
    intro v W2 H2 l st r
    have p3 : PostR (CC X ct ex) W1 σ H1 (repL ws w S2) Q := p1
    unfold repL at p3
    cases r with
    | @d _ x qx =>
      cases x <;> first | exact p3.elim | skip
      rename_i i
      cases qx
      dsimp only at p3
      cases e1 : allD ws with
      | none => rw [e1] at p3; exact p3.elim
      | some ds =>
        rw [e1] at p3
        dsimp only at p3
        by_cases hc : 0 ≤ i ∧ i ≤ 1000 ∧ ds.length ≤ 1000
        · rw [if_pos hc] at p3
          have r2 := RWs.le ((Le.grow (W := W1) s).trans l) _ _ r1
          rw [allD_eq e1] at r2
          have r3 := r2.toD
          have hl := DpAll.length r3
          have hq2 : H2 q = some (.lst vs) := l.ext q _ (.inr (k1.st.fresh hq)) upd_same
          refine ⟨q, i, vs, rfl, rfl, hq2, by omega, by omega, ?_, fun a ha => ?_⟩
          · rw [hl, line_eq]
            have : ds.length * i.toNat ≤ 1000 * 1000 := Nat.mul_le_mul hc.2.2 (by omega)
            unfold LINE; omega
          · have s2 := same_upd ha (.lst (List.replicate i.toNat vs).flatten)
            have l2 := ((Le.grow (W := W1) s).trans l).trans (Le.grow (W := W2) s2)
            refine p3 _ W2 _ l2 (st.grow s2) (.d (.lst (SqL.of (mask_of (st.fresh ha) upd_same)) ?_))
            exact DpAll.same (Le.grow (W := W2) s2).msame _ _ (DpAll.times r3 i.toNat)
        · rw [if_neg hc] at p3; exact p3.elim
    | _ => exact p3.elim
end
section
variable {fl : Lf} {g : Ef} {ρ : En} {S S1 S2 : Store}
theorem e_repL {ds : List PyData} {k : Int} (h1 : fl ρ S = .ok (ds.map .d) S1) (h2 : g ρ S1 = .ok (.d (.int k)) S2) (hk : 0 ≤ k ∧ k ≤ 1000 ∧ ds.length ≤ 1000) : eRepL fl g ρ S = .ok (.d (.list (timesD ds k))) S2 := by
  have a : allD (ds.map .d) = some ds := by
    have := allD_mapf (fun d : PyData => d) ds
    rw [List.map_id'] at this
    exact this
  unfold eRepL
  rw [h1]
  show (if (ds.map Wv.d).length ≤ LINE then (g ρ S1).bind fun w S2 => repL (ds.map .d) w S2 else .bad) = _
  rw [List.length_map, if_pos (by unfold LINE; omega), h2]
  show repL (ds.map .d) (.d (.int k)) S2 = _
  unfold repL
  dsimp only
  rw [a]
  exact if_pos hk
end
theorem times_one {x : PyData} {k : Int} : timesD [x] k = List.replicate k.toNat x := by
  unfold timesD
  induction k.toNat with
  | zero => rfl
  | succ n ih => rw [List.replicate_succ, List.flatten_cons, ih, List.replicate_succ]; rfl
end PL

/-! # PL, part c: plans turned, stretched, against -/
namespace PL
open PySem PySem.Spec PyProof.Rows L2 PySem.SeqAt PySem.W
theorem pl_ext {p q : Pl} (h1 : p.1 = q.1) (h2 : p.2 = q.2) : p = q := Prod.ext h1 h2
theorem ln_ext {l k : Ln} (h1 : l.1 = k.1) (h2 : l.2.1 = k.2.1) (h3 : l.2.2 = k.2.2) : l = k := Prod.ext h1 (Prod.ext h2 h3)
theorem map_self {α : Type} {f : α → α} : ∀ {xs : List α}, (∀ x ∈ xs, f x = x) → xs.map f = xs
  | [], _ => rfl
  | x :: r, h => by rw [List.map_cons, h x List.mem_cons_self, map_self fun y hy => h y (List.mem_cons_of_mem _ hy)]
theorem flat_congr {α β : Type} {f g : α → List β} : ∀ {xs : List α}, (∀ x ∈ xs, f x = g x) → xs.flatMap f = xs.flatMap g
  | [], _ => rfl
  | x :: r, h => by rw [List.flatMap_cons, List.flatMap_cons, h x List.mem_cons_self, flat_congr fun y hy => h y (List.mem_cons_of_mem _ hy)]
theorem lay_map {p : Pl} {n : Int} {f : Ln → Ln} (hf : ∀ l, (f l).1 = l.1) (h : ∀ l ∈ p.2, Lay l.1) : ∀ l ∈ ((n, p.2.map f) : Pl).2, Lay l.1 := fun l hl => by
  obtain ⟨k, hk, rfl⟩ := List.mem_map.mp hl
  rw [hf]; exact h k hk
theorem rise_map {p : Pl} {n : Int} {f : Ln → Ln} (hf : ∀ l, (f l).1 = l.1) (h : Rise p) : Rise ((n, p.2.map f) : Pl) := by
  unfold Rise
  show (p.2.map f).Pairwise _
  rw [List.pairwise_map]
  exact List.Pairwise.imp (fun {a b} q => by rw [hf, hf]; exact q) h
/-! ### turned -/
theorem turned_twice (p : Pl) (a b : Int) : turnedP (turnedP p a) b = turnedP p (a + b) := by
  unfold turnedP
  refine pl_ext rfl ?_
  show (p.2.map _).map _ = p.2.map _
  rw [List.map_map]
  apply List.map_congr_left
  intro l _
  refine ln_ext rfl rfl ?_
  show ((l.2.2 + a) % p.1 + b) % p.1 = (l.2.2 + (a + b)) % p.1
  rw [Int.emod_add_emod]
  congr 1
  omega
theorem turned_by {p : Pl} (g : Good p) (k : Int) : turnedP p (k * p.1) = p := by
  unfold turnedP
  refine pl_ext rfl ?_
  show p.2.map _ = p.2
  refine map_self fun l hl => ln_ext rfl rfl ?_
  have := g.w l hl
  show (l.2.2 + k * p.1) % p.1 = l.2.2
  rw [Int.add_mul_emod_self_right, Int.emod_eq_of_lt this.2.2.1 this.2.2.2]
theorem turned_0 {p : Pl} (g : Good p) : turnedP p 0 = p := by
  have := turned_by g 0
  rwa [Int.zero_mul] at this
theorem turned_n {p : Pl} (g : Good p) : turnedP p p.1 = p := by
  have := turned_by g 1
  rwa [Int.one_mul] at this
theorem onAt_turned {p : Pl} (g : Good p) (k b : Int) : onAt (turnedP p k) (b + k) = onAt p b := by
  unfold onAt
  rw [turnedP_eq]
  show ((p.2.map (turnedL p k)).filter _).map _ = _
  rw [List.filter_map, List.map_map]
  congr 1
  apply List.filter_congr
  intro l _
  exact isOn_turned g.b.1 k b
theorem chg_turned {p : Pl} (hn : 0 < p.1) (l : Ln) (k e : Int) : chg (turnedP p k) (turnedL p k l) (e + k) = chg p l e := by
  unfold chg
  have : e + k - 1 = (e - 1) + k := by omega
  rw [this, isOn_turned hn, isOn_turned hn]
theorem rng_shift (a b k : Int) : rng (a + k) (b + k) = (rng a b).map fun e => e + k := by
  unfold rng
  have : b + k - (a + k) = b - a := by omega
  rw [this, List.map_map]
  apply List.map_congr_left
  intro i _
  show a + k + (i : Int) = a + (i : Int) + k
  omega
def shE (k : Int) (e : Ev) : Ev := (e.1 + k, e.2.1, e.2.2)
theorem evs_turned {p : Pl} (g : Good p) (k a b : Int) : evs (turnedP p k) (a + k) (b + k) = (evs p a b).map (shE k) := by
  unfold evs
  rw [rng_shift, List.flatMap_map, List.map_flatMap]
  apply flat_congr
  intro e _
  show (p.2.map (turnedL p k)).flatMap _ = _
  rw [List.flatMap_map, List.map_flatMap]
  apply flat_congr
  intro l _
  unfold evAt
  rw [chg_turned g.b.1, isOn_turned g.b.1]
  cases chg p l e <;> rfl
/-! ### counts that go round -/
theorem rng_split {a b c : Int} (h1 : a ≤ b) (h2 : b ≤ c) : rng a c = rng a b ++ rng b c := by
  have e : ∀ k : Nat, rng a (b + k) = rng a b ++ rng b (b + k) := by
    intro k
    induction k with
    | zero => rw [show b + ((0 : Nat) : Int) = b by omega, rng_self, List.append_nil]
    | succ k ih =>
      have : b + ((k + 1 : Nat) : Int) = b + k + 1 := by omega
      rw [this, rng_succ (by omega), rng_succ (by omega), ih, List.append_assoc]
  have := e (c - b).toNat
  rwa [show b + ((c - b).toNat : Int) = c by omega] at this
theorem cts_cut {p : Pl} (g : Good p) {t : Int} (h0 : 0 ≤ t) (h1 : t < p.1) : (cts p).drop t.toNat ++ (cts p).take t.toNat = (rng t (t + p.1)).map fun b => ct p b := by
  have hb := g.b
  have e1 : cts p = (rng 0 t).map (fun b => ct p b) ++ (rng t p.1).map fun b => ct p b := by
    unfold cts
    rw [rng_split h0 (Int.le_of_lt h1), List.map_append]
  have l1 : ((rng 0 t).map fun b => ct p b).length = t.toNat := by rw [List.length_map, rng_len]; omega
  rw [e1, List.drop_left' l1, List.take_left' l1, rng_split (a := t) (b := p.1) (c := t + p.1) (by omega) (by omega), List.map_append]
  congr 1
  have := rng_shift 0 t p.1
  rw [Int.zero_add] at this
  rw [this, List.map_map]
  apply List.map_congr_left
  intro b _
  show ct p b = ct p (b + p.1)
  have := ct_round p b 1
  rw [Int.one_mul] at this
  exact this.symm
theorem cts_turned {p : Pl} (g : Good p) (k : Int) : cts (turnedP p k) = (cts p).drop ((0 - k) % p.1).toNat ++ (cts p).take ((0 - k) % p.1).toNat := by
  have hb := g.b
  have m0 := Int.emod_nonneg (0 - k) (by omega : p.1 ≠ 0)
  have m1 := Int.emod_lt_of_pos (0 - k) hb.1
  rw [cts_cut g m0 m1]
  have := rng_shift 0 p.1 ((0 - k) % p.1)
  rw [Int.zero_add] at this
  rw [show (0 - k) % p.1 + p.1 = p.1 + (0 - k) % p.1 by omega, this, List.map_map]
  unfold cts
  apply List.map_congr_left
  intro b _
  show ct (turnedP p k) b = ct p (b + (0 - k) % p.1)
  have e := ct_turned g k (b - k)
  rw [show b - k + k = b by omega] at e
  rw [e]
  have d := Int.emod_add_mul_ediv (0 - k) p.1
  have r := ct_round p (b + (0 - k) % p.1) ((0 - k) / p.1)
  rw [← r]
  congr 1
  rw [Int.mul_comm] at d
  omega
/-! ### against -/
theorem against_twice {p : Pl} (g : Good p) : againstP (againstP p) = p := by
  refine pl_ext rfl ?_
  show (p.2.map (againstL p)).map (againstL (againstP p)) = p.2
  rw [List.map_map]
  refine map_self fun l hl => ?_
  have := g.w l hl
  refine ln_ext rfl ?_ ?_
  · show p.1 - (p.1 - l.2.1) = l.2.1
    omega
  · show ((l.2.2 + l.2.1) % p.1 + (p.1 - l.2.1)) % p.1 = l.2.2
    rw [Int.emod_add_emod]
    have e : l.2.2 + l.2.1 + (p.1 - l.2.1) = l.2.2 + p.1 * 1 := by omega
    rw [e, Int.add_mul_emod_self_left, Int.emod_eq_of_lt this.2.2.1 this.2.2.2]
theorem chg_against {p : Pl} (g : Good p) {l : Ln} (hl : l ∈ p.2) (e : Int) : chg (againstP p) (againstL p l) e = chg p l e := by
  have := g.w l hl
  unfold chg
  rw [isOn_against g.b.1 this.1 this.2.1, isOn_against g.b.1 this.1 this.2.1]
  cases isOn p l e <;> cases isOn p l (e - 1) <;> rfl
def flE (e : Ev) : Ev := (e.1, e.2.1, !e.2.2)
theorem evs_against {p : Pl} (g : Good p) (a b : Int) : evs (againstP p) a b = (evs p a b).map flE := by
  unfold evs
  rw [List.map_flatMap]
  apply flat_congr
  intro e _
  show (p.2.map (againstL p)).flatMap _ = _
  rw [List.flatMap_map, List.map_flatMap]
  apply flat_congr
  intro l hl
  have := g.w l hl
  unfold evAt
  rw [chg_against g hl, isOn_against g.b.1 this.1 this.2.1]
  cases chg p l e <;> rfl
theorem against_turned (p : Pl) (k : Int) : againstP (turnedP p k) = turnedP (againstP p) k := by
  refine pl_ext rfl ?_
  show (p.2.map _).map _ = (p.2.map _).map _
  rw [List.map_map, List.map_map]
  apply List.map_congr_left
  intro l _
  refine ln_ext rfl rfl ?_
  show ((l.2.2 + k) % p.1 + l.2.1) % p.1 = ((l.2.2 + l.2.1) % p.1 + k) % p.1
  rw [Int.emod_add_emod, Int.emod_add_emod]
  congr 1
  omega
/-! ### stretched -/
def stL (t : Int) (l : Ln) : Ln := (l.1, l.2.1 * t, l.2.2 * t)
def stP (p : Pl) (t : Int) : Pl := (p.1 * t, p.2.map (stL t))
theorem stretched_eq {p : Pl} (g : Good p) {t : Int} (ht : 0 < t) (ht2 : t < 1000) : f_stretched [dP p, .int t] = .ok (dP (stP p t)) := by
  have ft : Fac t := ⟨by omega, by omega⟩
  have hc := fun (y2 y3 y4 : Option Wv) (S : Store) => eComp_all (it := (iAny (eIx (eVar 0) (eC (.int 1))))) (tg := (.tp [(.nm 2), (.nm 3), (.nm 4)])) (f := e1_stretched) (vs := [2, 3, 4]) (ρ := [some (.d (dP p)), some (.d (.int (t))), y2, y3, y4]) (S := S) (xs := p.2) (fun l => .d (dL l)) (fun l => dL (stL t l)) (fun l => [some (.d (dP p)), some (.d (.int (t))), some (.d (.str l.1)), some (.d (.int l.2.1)), some (.d (.int l.2.2))]) (by simp only [ix_P1, mapLd, startE, rb_ok, rb_exc, rs_ok, rs_exc, s_seq, seq_nx, seq_rt, seq_bk, seq_ct, seq_exc, nxO_s, s_asg, s_par, s_par3, s_ret, s_expr, s_next, s_bk, s_ct, s_raise, s_if, ifS_t, ifS_f, ifS_exc, s_for, eVar, e_c, wOf_s, rOf_s, bOf_s, e_ix, asD_d, ob_s, om_s, e_d1, e_d2, e_dN, asDs_1, asDs_2, bvO_s, e_t, o1_s, o2_s, a_nil, a_cons, prO_ok, prO_exc, e_cp, e_cg, call_1, call_2, call_3, call_4, call_5, call_6, b_not, b_and, b_or, andB_t, andB_f, orB_t, orB_f, b_tr, truW_b, e_if, ifE_t, ifE_f, e_isN, e_notN, e_notV, notV_s, e_andV, andV_t, andV_f, e_ch, chO_t, chO_f, e_sl, o_no, o_yes, oiO_s, sl_t, sl_l, i_zip, zipI_t, zipI_l, add_ii, sub_ii, neg_i, lt_ii, le_ii, gt_ii, ge_ii, eq_ii, ne_ii, eq_ss, ne_ss, eq_bb, ne_bb, len_t, len_l, min_ii, max_ii, int_i, int_b, tup_l, tup_t, lst_l, lst_t, sum_ints, e_tup, e_lst, itO_s, i_any, itA_t, itA_l, i_r1, i_r2, bindT, bindTs, unpk_t, un_L, un_P, mkSq, allD, wipeE, LINE, List.map_cons, List.map_nil, List.length_cons, List.length_nil, List.replicate, List.cons_append, List.nil_append, Nat.sub_self, Nat.reduceSub, Nat.reduceAdd, List.getElem?_cons_zero, List.getElem?_cons_succ, List.set_cons_zero, List.set_cons_succ, reduceIte, Bool.false_eq_true, Bool.not_true, Bool.not_false, Nat.reduceLeDiff, if_true, if_false, decide_true, decide_false, e_slS, s_asgL, nxL_s, itL_l]) (by have := g.len; unfold LINE; omega) (fun l _ => rfl) (fun l hl => by simp only [e1_stretched, mul_r ft, startE, rb_ok, rb_exc, rs_ok, rs_exc, s_seq, seq_nx, seq_rt, seq_bk, seq_ct, seq_exc, nxO_s, s_asg, s_par, s_par3, s_ret, s_expr, s_next, s_bk, s_ct, s_raise, s_if, ifS_t, ifS_f, ifS_exc, s_for, eVar, e_c, wOf_s, rOf_s, bOf_s, e_ix, asD_d, ob_s, om_s, e_d1, e_d2, e_dN, asDs_1, asDs_2, bvO_s, e_t, o1_s, o2_s, a_nil, a_cons, prO_ok, prO_exc, e_cp, e_cg, call_1, call_2, call_3, call_4, call_5, call_6, b_not, b_and, b_or, andB_t, andB_f, orB_t, orB_f, b_tr, truW_b, e_if, ifE_t, ifE_f, e_isN, e_notN, e_notV, notV_s, e_andV, andV_t, andV_f, e_ch, chO_t, chO_f, e_sl, o_no, o_yes, oiO_s, sl_t, sl_l, i_zip, zipI_t, zipI_l, add_ii, sub_ii, neg_i, lt_ii, le_ii, gt_ii, ge_ii, eq_ii, ne_ii, eq_ss, ne_ss, eq_bb, ne_bb, len_t, len_l, min_ii, max_ii, int_i, int_b, tup_l, tup_t, lst_l, lst_t, sum_ints, e_tup, e_lst, itO_s, i_any, itA_t, itA_l, i_r1, i_r2, bindT, bindTs, unpk_t, un_L, un_P, mkSq, allD, wipeE, LINE, List.map_cons, List.map_nil, List.length_cons, List.length_nil, List.replicate, List.cons_append, List.nil_append, Nat.sub_self, Nat.reduceSub, Nat.reduceAdd, List.getElem?_cons_zero, List.getElem?_cons_succ, List.set_cons_zero, List.set_cons_succ, reduceIte, Bool.false_eq_true, Bool.not_true, Bool.not_false, Nat.reduceLeDiff, if_true, if_false, decide_true, decide_false, e_slS, s_asgL, nxL_s, itL_l]; rfl)
  refine runP_gs ?_
  simp only [startE, startE, rb_ok, rb_exc, rs_ok, rs_exc, s_seq, seq_nx, seq_rt, seq_bk, seq_ct, seq_exc, nxO_s, s_asg, s_par, s_par3, s_ret, s_expr, s_next, s_bk, s_ct, s_raise, s_if, ifS_t, ifS_f, ifS_exc, s_for, eVar, e_c, wOf_s, rOf_s, bOf_s, e_ix, asD_d, ob_s, om_s, e_d1, e_d2, e_dN, asDs_1, asDs_2, bvO_s, e_t, o1_s, o2_s, a_nil, a_cons, prO_ok, prO_exc, e_cp, e_cg, call_1, call_2, call_3, call_4, call_5, call_6, b_not, b_and, b_or, andB_t, andB_f, orB_t, orB_f, b_tr, truW_b, e_if, ifE_t, ifE_f, e_isN, e_notN, e_notV, notV_s, e_andV, andV_t, andV_f, e_ch, chO_t, chO_f, e_sl, o_no, o_yes, oiO_s, sl_t, sl_l, i_zip, zipI_t, zipI_l, add_ii, sub_ii, neg_i, lt_ii, le_ii, gt_ii, ge_ii, eq_ii, ne_ii, eq_ss, ne_ss, eq_bb, ne_bb, len_t, len_l, min_ii, max_ii, int_i, int_b, tup_l, tup_t, lst_l, lst_t, sum_ints, e_tup, e_lst, itO_s, i_any, itA_t, itA_l, i_r1, i_r2, bindT, bindTs, unpk_t, un_L, un_P, mkSq, allD, wipeE, LINE, List.map_cons, List.map_nil, List.length_cons, List.length_nil, List.replicate, List.cons_append, List.nil_append, Nat.sub_self, Nat.reduceSub, Nat.reduceAdd, List.getElem?_cons_zero, List.getElem?_cons_succ, List.set_cons_zero, List.set_cons_succ, reduceIte, Bool.false_eq_true, Bool.not_true, Bool.not_false, Nat.reduceLeDiff, if_true, if_false, decide_true, decide_false, e_slS, s_asgL, nxL_s, itL_l]
  apply fin
  · simp only [b_stretched, ix_P0, mul_r ft, hc, startE, rb_ok, rb_exc, rs_ok, rs_exc, s_seq, seq_nx, seq_rt, seq_bk, seq_ct, seq_exc, nxO_s, s_asg, s_par, s_par3, s_ret, s_expr, s_next, s_bk, s_ct, s_raise, s_if, ifS_t, ifS_f, ifS_exc, s_for, eVar, e_c, wOf_s, rOf_s, bOf_s, e_ix, asD_d, ob_s, om_s, e_d1, e_d2, e_dN, asDs_1, asDs_2, bvO_s, e_t, o1_s, o2_s, a_nil, a_cons, prO_ok, prO_exc, e_cp, e_cg, call_1, call_2, call_3, call_4, call_5, call_6, b_not, b_and, b_or, andB_t, andB_f, orB_t, orB_f, b_tr, truW_b, e_if, ifE_t, ifE_f, e_isN, e_notN, e_notV, notV_s, e_andV, andV_t, andV_f, e_ch, chO_t, chO_f, e_sl, o_no, o_yes, oiO_s, sl_t, sl_l, i_zip, zipI_t, zipI_l, add_ii, sub_ii, neg_i, lt_ii, le_ii, gt_ii, ge_ii, eq_ii, ne_ii, eq_ss, ne_ss, eq_bb, ne_bb, len_t, len_l, min_ii, max_ii, int_i, int_b, tup_l, tup_t, lst_l, lst_t, sum_ints, e_tup, e_lst, itO_s, i_any, itA_t, itA_l, i_r1, i_r2, bindT, bindTs, unpk_t, un_L, un_P, mkSq, allD, wipeE, LINE, List.map_cons, List.map_nil, List.length_cons, List.length_nil, List.replicate, List.cons_append, List.nil_append, Nat.sub_self, Nat.reduceSub, Nat.reduceAdd, List.getElem?_cons_zero, List.getElem?_cons_succ, List.set_cons_zero, List.set_cons_succ, reduceIte, Bool.false_eq_true, Bool.not_true, Bool.not_false, Nat.reduceLeDiff, if_true, if_false, decide_true, decide_false, e_slS, s_asgL, nxL_s, itL_l]
    try rfl
  exact ⟨_, by unfold stP dP; rw [List.map_map]; rfl⟩
theorem Good.st {p : Pl} (g : Good p) {t : Int} (ht : 0 < t) (hb : p.1 * t < 100000) : Good (stP p t) := by
  have gb := g.b
  refine ⟨⟨Int.mul_pos gb.1 ht, hb⟩, by show (p.2.map _).length ≤ _; rw [List.length_map]; exact g.len, fun l hl => ?_, ?_⟩
  · obtain ⟨k, hk, rfl⟩ := List.mem_map.mp hl
    have := g.w k hk
    exact ⟨Int.mul_nonneg this.1 (by omega), Int.mul_le_mul_of_nonneg_right this.2.1 (by omega), Int.mul_nonneg this.2.2.1 (by omega), Int.mul_lt_mul_of_pos_right this.2.2.2 ht⟩
  · show ((p.2.map _).map _).Nodup
    rw [List.map_map]; exact g.nd
theorem st_mod {a n t r : Int} (hn : 0 < n) (ht : 0 < t) (h0 : 0 ≤ r) (h1 : r < t) : (a * t + r) % (n * t) = a % n * t + r := by
  have m0 := Int.emod_nonneg a (by omega : n ≠ 0)
  have m1 := Int.emod_lt_of_pos a hn
  have m2 := Int.emod_add_mul_ediv a n
  have e : a * t + r = (a % n * t + r) + n * t * (a / n) := by
    have : a * t = (a % n + n * (a / n)) * t := by rw [m2]
    rw [this, Int.add_mul, Int.mul_assoc, Int.mul_comm (a / n) t, ← Int.mul_assoc]
    omega
  have lo : 0 ≤ a % n * t := Int.mul_nonneg m0 (by omega)
  have hi : a % n * t + t ≤ n * t := by
    have := Int.mul_le_mul_of_nonneg_right (show a % n + 1 ≤ n by omega) (show 0 ≤ t by omega)
    rw [Int.add_mul, Int.one_mul] at this
    exact this
  rw [e, Int.add_mul_emod_self_left, Int.emod_eq_of_lt (by omega) (by omega)]
theorem st_mod0 {a n t : Int} (hn : 0 < n) (ht : 0 < t) : (a * t) % (n * t) = a % n * t := by
  have := st_mod (a := a) (n := n) (t := t) (r := 0) hn ht (by omega) ht
  rwa [Int.add_zero, Int.add_zero] at this
theorem mul_lt_iff {x w t r : Int} (ht : 0 < t) (h0 : 0 ≤ r) (h1 : r < t) : x * t + r < w * t ↔ x < w := by
  constructor
  · intro h
    by_cases q : x < w
    · exact q
    · have := Int.mul_le_mul_of_nonneg_right (show w ≤ x by omega) (show 0 ≤ t by omega)
      omega
  · intro h
    have := Int.mul_le_mul_of_nonneg_right (show x + 1 ≤ w by omega) (show 0 ≤ t by omega)
    rw [Int.add_mul, Int.one_mul] at this
    omega
theorem isOn_st {p : Pl} (hn : 0 < p.1) {t : Int} (ht : 0 < t) (l : Ln) (b : Int) : isOn (stP p t) (stL t l) b = isOn p l (b / t) := by
  unfold isOn
  show decide ((b - l.2.2 * t) % (p.1 * t) < l.2.1 * t) = _
  have r0 := Int.emod_nonneg b (by omega : t ≠ 0)
  have r1 := Int.emod_lt_of_pos b ht
  have r2 := Int.emod_add_mul_ediv b t
  have e : b - l.2.2 * t = (b / t - l.2.2) * t + b % t := by
    rw [Int.sub_mul]
    have : t * (b / t) = b / t * t := Int.mul_comm _ _
    omega
  rw [e, st_mod hn ht r0 r1]
  exact decide_eq_decide.mpr (mul_lt_iff ht r0 r1)
theorem onAt_st {p : Pl} (hn : 0 < p.1) {t : Int} (ht : 0 < t) (b : Int) : onAt (stP p t) b = onAt p (b / t) := by
  unfold onAt
  show ((p.2.map (stL t)).filter _).map _ = _
  rw [List.filter_map, List.map_map]
  congr 1
  apply List.filter_congr
  intro l _
  exact isOn_st hn ht l b
theorem st_twice (p : Pl) (t m : Int) : stP (stP p t) m = stP p (t * m) := by
  refine pl_ext (Int.mul_assoc _ _ _) ?_
  show (p.2.map _).map _ = p.2.map _
  rw [List.map_map]
  apply List.map_congr_left
  intro l _
  exact ln_ext rfl (Int.mul_assoc _ _ _) (Int.mul_assoc _ _ _)
theorem st_one (p : Pl) : stP p 1 = p := by
  refine pl_ext (Int.mul_one _) ?_
  show p.2.map _ = p.2
  exact map_self fun l _ => ln_ext rfl (Int.mul_one _) (Int.mul_one _)
theorem against_st {p : Pl} (hn : 0 < p.1) {t : Int} (ht : 0 < t) : againstP (stP p t) = stP (againstP p) t := by
  refine pl_ext rfl ?_
  show (p.2.map _).map _ = (p.2.map _).map _
  rw [List.map_map, List.map_map]
  apply List.map_congr_left
  intro l _
  refine ln_ext rfl ?_ ?_
  · show p.1 * t - l.2.1 * t = (p.1 - l.2.1) * t
    rw [Int.sub_mul]
  · show (l.2.2 * t + l.2.1 * t) % (p.1 * t) = (l.2.2 + l.2.1) % p.1 * t
    rw [← Int.add_mul, st_mod0 hn ht]
theorem turned_st {p : Pl} (hn : 0 < p.1) {t : Int} (ht : 0 < t) (k : Int) : turnedP (stP p t) (k * t) = stP (turnedP p k) t := by
  refine pl_ext rfl ?_
  show (p.2.map _).map _ = (p.2.map _).map _
  rw [List.map_map, List.map_map]
  apply List.map_congr_left
  intro l _
  refine ln_ext rfl rfl ?_
  show (l.2.2 * t + k * t) % (p.1 * t) = (l.2.2 + k) % p.1 * t
  rw [← Int.add_mul, st_mod0 hn ht]
end PL

/-! # PL, part d: defs that call themselves -/
namespace PL
open PySem PySem.Spec PyProof.Rows L2
def sBad : Sf := fun _ _ => .bad
theorem runP_bad (n : Nat) (ds : List PyData) : runP n (fun _ _ => .bad) ds = .bad := rfl
theorem ss_bad {X : Cx} {ct : Str → Addr} {ex : WX} {sts : List Stmt} : PSs X sts (tS (CC X ct ex) fun _ _ => .bad) := ⟨fun _ _ _ _ _ _ ⟨_, _, _, _, p⟩ => False.elim p⟩
section
variable {P : Program} {w : World} {K : PySem.W.Frag} {mg : Str → Option Value} {base : Heap} {x : Str} {st : Stmt} {N ps : List Str}
theorem callee_bad {k : Nat} (ct : Str → Addr) (D : DefAt K mg x st ps) (S : FnScope N ps (defScope st)) : Callee P w K mg base (k + 1) x ps (spP K ct ps.length (runP N.length fun _ _ => .bad)) :=
  mkP ct D S (fun _ _ => .bad) fun _ _ _ _ _ _ _ _ => ss_bad
end
end PL

/-! # PL, part M: the bodies of the defs that many laws share (printed by gen.py -bodies) -/
namespace PL
open PySem PySem.Spec PyProof.Rows L2
abbrev n__law_same : List Str := ["_law_got", "_law_due", "_law_one", "_law_other"]
abbrev p__law_same : List Str := ["_law_got", "_law_due"]
def e1__law_same (F : List PyData → PRes) : Ef := (eCallP F (aCons (eVar 2) (aCons (eVar 3) aNil)))
def b__law_same (F : List PyData → PRes) : Sf := (sSeq (sIf (eT (eIsN (eVar 1))) (sRet (eIsN (eVar 0))) sNext) (sSeq (sIf (bTr (eD1 (oIsi "bool") (eVar 1))) (sRet (eAnd (eD1 (oIsi "bool") (eVar 0)) (eD2 oEq (eVar 0) (eVar 1)))) sNext) (sSeq (sIf (bTr (eD1 (oIsi "tuple") (eVar 1))) (sSeq (sIf (bOr (bNot (bTr (eD1 (oIsi "tuple") (eVar 0)))) (eT (eD2 oNe (eDN (o1 oLen) (aCons (eVar 0) aNil)) (eDN (o1 oLen) (aCons (eVar 1) aNil))))) (sRet (eC (.bool false))) sNext) (sRet (eDN (o1 oAll) (aCons (eComp (iZip (aCons (eVar 0) (aCons (eVar 1) aNil))) (.tp [(.nm 2), (.nm 3)]) bYes (e1__law_same F) [2, 3]) aNil)))) sNext) (sSeq (sIf (bTr (eD1 (oIsi "str") (eVar 1))) (sRet (eAnd (eD1 (oIsi "str") (eVar 0)) (eD2 oEq (eVar 0) (eVar 1)))) sNext) (sRet (eAnd (eD1 (oIsi "int") (eVar 0)) (eAnd (eNot (eD1 (oIsi "bool") (eVar 0))) (eD2 oEq (eVar 0) (eVar 1)))))))))
def f__law_same_n : Nat → List PyData → PRes
  | 0 => runP 4 (fun _ _ => .bad)
  | n + 1 => runP 4 (b__law_same (f__law_same_n n))
def f__law_same : List PyData → PRes := f__law_same_n 12
end PL

/-! # PL, part e: the same data; what is on, and events, by hand -/
namespace PL
open PySem PySem.Spec PyProof.Rows L2 PySem.SeqAt PySem.W
/-- data that _law_same takes, n deep -/
def okD : Nat → PyData → Bool
  | 0, _ => false
  | n + 1, d => match d with
    | .tuple xs => decide (xs.length ≤ 1000000) && xs.all (okD n)
    | .list _ => false
    | .dict _ => false
    | _ => true
theorem zip_self : ∀ xs : List PyData, zipW (xs.map .d) (xs.map .d) = xs.map fun d => Wv.d (.tuple [d, d])
  | [] => rfl
  | x :: r => by simp only [List.map_cons, zipW, zip_self r]; rfl
theorem isi_no {x : PyData} {t T : String} (h : tyN x = t) (hd : t ≠ "dict") (k : kitB t T = some false) : oIsi T x = some (.bool false) := isi_of h hd k
theorem isi_bb (b : Bool) : oIsi "bool" (.bool b) = some (.bool true) := isi_of (t := "bool") rfl (by decide) (by decide +kernel : kitB "bool" "bool" = some true)
theorem isi_it (i : Int) : oIsi "tuple" (.int i) = some (.bool false) := isi_of (t := "int") rfl (by decide) (by decide +kernel : kitB "int" "tuple" = some false)
theorem isi_is (i : Int) : oIsi "str" (.int i) = some (.bool false) := isi_of (t := "int") rfl (by decide) (by decide +kernel : kitB "int" "str" = some false)
theorem isi_sb (x : Str) : oIsi "bool" (.str x) = some (.bool false) := isi_of (t := "str") rfl (by decide) (by decide +kernel : kitB "str" "bool" = some false)
theorem isi_st (x : Str) : oIsi "tuple" (.str x) = some (.bool false) := isi_of (t := "str") rfl (by decide) (by decide +kernel : kitB "str" "tuple" = some false)
theorem isi_tb (xs : List PyData) : oIsi "bool" (.tuple xs) = some (.bool false) := isi_of (t := "tuple") rfl (by decide) (by decide +kernel : kitB "tuple" "bool" = some false)
theorem all_true {α : Type} (xs : List α) : (xs.map fun _ => true).all id = true := by rw [List.all_eq_true]; intro x hx; obtain ⟨_, _, rfl⟩ := List.mem_map.mp hx; rfl
theorem same_n : ∀ (n : Nat) (d : PyData), okD n d = true → f__law_same_n n [d, d] = .ok (.bool true)
  | 0, _, h => by cases h
  | n + 1, d, h => by
    have dd : ∀ b : Bool, decide (b = b) = true := fun b => decide_eq_true rfl
    have di : ∀ b : Int, decide (b = b) = true := fun b => decide_eq_true rfl
    have ds : ∀ b : Str, decide (b = b) = true := fun b => decide_eq_true rfl
    show runP 4 (b__law_same (f__law_same_n n)) [d, d] = _
    refine runP_gs ?_
    simp only [startE, startE, rb_ok, rb_exc, rs_ok, rs_exc, s_seq, seq_nx, seq_rt, seq_bk, seq_ct, seq_exc, nxO_s, s_asg, s_par, s_par3, s_ret, s_expr, s_next, s_bk, s_ct, s_raise, s_if, ifS_t, ifS_f, ifS_exc, s_for, eVar, e_c, wOf_s, rOf_s, bOf_s, e_ix, asD_d, ob_s, om_s, e_d1, e_d2, e_dN, asDs_1, asDs_2, bvO_s, e_t, o1_s, o2_s, a_nil, a_cons, prO_ok, prO_exc, e_cp, e_cg, call_1, call_2, call_3, call_4, call_5, call_6, b_not, b_and, b_or, andB_t, andB_f, orB_t, orB_f, b_tr, truW_b, e_if, ifE_t, ifE_f, e_isN, e_notN, e_notV, notV_s, e_andV, andV_t, andV_f, e_ch, chO_t, chO_f, e_sl, o_no, o_yes, oiO_s, sl_t, sl_l, i_zip, zipI_t, zipI_l, add_ii, sub_ii, neg_i, lt_ii, le_ii, gt_ii, ge_ii, eq_ii, ne_ii, eq_ss, ne_ss, eq_bb, ne_bb, len_t, len_l, min_ii, max_ii, int_i, int_b, tup_l, tup_t, lst_l, lst_t, sum_ints, e_tup, e_lst, itO_s, i_any, itA_t, itA_l, i_r1, i_r2, bindT, bindTs, unpk_t, un_L, un_P, mkSq, allD, wipeE, LINE, List.map_cons, List.map_nil, List.length_cons, List.length_nil, List.replicate, List.cons_append, List.nil_append, Nat.sub_self, Nat.reduceSub, Nat.reduceAdd, List.getElem?_cons_zero, List.getElem?_cons_succ, List.set_cons_zero, List.set_cons_succ, reduceIte, Bool.false_eq_true, Bool.not_true, Bool.not_false, Nat.reduceLeDiff, if_true, if_false, decide_true, decide_false, e_slS, s_asgL, nxL_s, itL_l]
    cases d with
    | none =>
      refine fin (r := .rt (.d (.bool true)) []) ?_ ⟨_, rfl⟩
      simp only [b__law_same, isNW, startE, rb_ok, rb_exc, rs_ok, rs_exc, s_seq, seq_nx, seq_rt, seq_bk, seq_ct, seq_exc, nxO_s, s_asg, s_par, s_par3, s_ret, s_expr, s_next, s_bk, s_ct, s_raise, s_if, ifS_t, ifS_f, ifS_exc, s_for, eVar, e_c, wOf_s, rOf_s, bOf_s, e_ix, asD_d, ob_s, om_s, e_d1, e_d2, e_dN, asDs_1, asDs_2, bvO_s, e_t, o1_s, o2_s, a_nil, a_cons, prO_ok, prO_exc, e_cp, e_cg, call_1, call_2, call_3, call_4, call_5, call_6, b_not, b_and, b_or, andB_t, andB_f, orB_t, orB_f, b_tr, truW_b, e_if, ifE_t, ifE_f, e_isN, e_notN, e_notV, notV_s, e_andV, andV_t, andV_f, e_ch, chO_t, chO_f, e_sl, o_no, o_yes, oiO_s, sl_t, sl_l, i_zip, zipI_t, zipI_l, add_ii, sub_ii, neg_i, lt_ii, le_ii, gt_ii, ge_ii, eq_ii, ne_ii, eq_ss, ne_ss, eq_bb, ne_bb, len_t, len_l, min_ii, max_ii, int_i, int_b, tup_l, tup_t, lst_l, lst_t, sum_ints, e_tup, e_lst, itO_s, i_any, itA_t, itA_l, i_r1, i_r2, bindT, bindTs, unpk_t, un_L, un_P, mkSq, allD, wipeE, LINE, List.map_cons, List.map_nil, List.length_cons, List.length_nil, List.replicate, List.cons_append, List.nil_append, Nat.sub_self, Nat.reduceSub, Nat.reduceAdd, List.getElem?_cons_zero, List.getElem?_cons_succ, List.set_cons_zero, List.set_cons_succ, reduceIte, Bool.false_eq_true, Bool.not_true, Bool.not_false, Nat.reduceLeDiff, if_true, if_false, decide_true, decide_false, e_slS, s_asgL, nxL_s, itL_l]
    | bool b =>
      apply step
      · simp only [isNW, startE, rb_ok, rb_exc, rs_ok, rs_exc, s_seq, seq_nx, seq_rt, seq_bk, seq_ct, seq_exc, nxO_s, s_asg, s_par, s_par3, s_ret, s_expr, s_next, s_bk, s_ct, s_raise, s_if, ifS_t, ifS_f, ifS_exc, s_for, eVar, e_c, wOf_s, rOf_s, bOf_s, e_ix, asD_d, ob_s, om_s, e_d1, e_d2, e_dN, asDs_1, asDs_2, bvO_s, e_t, o1_s, o2_s, a_nil, a_cons, prO_ok, prO_exc, e_cp, e_cg, call_1, call_2, call_3, call_4, call_5, call_6, b_not, b_and, b_or, andB_t, andB_f, orB_t, orB_f, b_tr, truW_b, e_if, ifE_t, ifE_f, e_isN, e_notN, e_notV, notV_s, e_andV, andV_t, andV_f, e_ch, chO_t, chO_f, e_sl, o_no, o_yes, oiO_s, sl_t, sl_l, i_zip, zipI_t, zipI_l, add_ii, sub_ii, neg_i, lt_ii, le_ii, gt_ii, ge_ii, eq_ii, ne_ii, eq_ss, ne_ss, eq_bb, ne_bb, len_t, len_l, min_ii, max_ii, int_i, int_b, tup_l, tup_t, lst_l, lst_t, sum_ints, e_tup, e_lst, itO_s, i_any, itA_t, itA_l, i_r1, i_r2, bindT, bindTs, unpk_t, un_L, un_P, mkSq, allD, wipeE, LINE, List.map_cons, List.map_nil, List.length_cons, List.length_nil, List.replicate, List.cons_append, List.nil_append, Nat.sub_self, Nat.reduceSub, Nat.reduceAdd, List.getElem?_cons_zero, List.getElem?_cons_succ, List.set_cons_zero, List.set_cons_succ, reduceIte, Bool.false_eq_true, Bool.not_true, Bool.not_false, Nat.reduceLeDiff, if_true, if_false, decide_true, decide_false, e_slS, s_asgL, nxL_s, itL_l]
        try rfl
      refine fin (r := .rt (.d (.bool true)) []) ?_ ⟨_, rfl⟩
      simp only [isi_bb, dd, startE, rb_ok, rb_exc, rs_ok, rs_exc, s_seq, seq_nx, seq_rt, seq_bk, seq_ct, seq_exc, nxO_s, s_asg, s_par, s_par3, s_ret, s_expr, s_next, s_bk, s_ct, s_raise, s_if, ifS_t, ifS_f, ifS_exc, s_for, eVar, e_c, wOf_s, rOf_s, bOf_s, e_ix, asD_d, ob_s, om_s, e_d1, e_d2, e_dN, asDs_1, asDs_2, bvO_s, e_t, o1_s, o2_s, a_nil, a_cons, prO_ok, prO_exc, e_cp, e_cg, call_1, call_2, call_3, call_4, call_5, call_6, b_not, b_and, b_or, andB_t, andB_f, orB_t, orB_f, b_tr, truW_b, e_if, ifE_t, ifE_f, e_isN, e_notN, e_notV, notV_s, e_andV, andV_t, andV_f, e_ch, chO_t, chO_f, e_sl, o_no, o_yes, oiO_s, sl_t, sl_l, i_zip, zipI_t, zipI_l, add_ii, sub_ii, neg_i, lt_ii, le_ii, gt_ii, ge_ii, eq_ii, ne_ii, eq_ss, ne_ss, eq_bb, ne_bb, len_t, len_l, min_ii, max_ii, int_i, int_b, tup_l, tup_t, lst_l, lst_t, sum_ints, e_tup, e_lst, itO_s, i_any, itA_t, itA_l, i_r1, i_r2, bindT, bindTs, unpk_t, un_L, un_P, mkSq, allD, wipeE, LINE, List.map_cons, List.map_nil, List.length_cons, List.length_nil, List.replicate, List.cons_append, List.nil_append, Nat.sub_self, Nat.reduceSub, Nat.reduceAdd, List.getElem?_cons_zero, List.getElem?_cons_succ, List.set_cons_zero, List.set_cons_succ, reduceIte, Bool.false_eq_true, Bool.not_true, Bool.not_false, Nat.reduceLeDiff, if_true, if_false, decide_true, decide_false, e_slS, s_asgL, nxL_s, itL_l]
    | int i =>
      apply step
      · simp only [isNW, startE, rb_ok, rb_exc, rs_ok, rs_exc, s_seq, seq_nx, seq_rt, seq_bk, seq_ct, seq_exc, nxO_s, s_asg, s_par, s_par3, s_ret, s_expr, s_next, s_bk, s_ct, s_raise, s_if, ifS_t, ifS_f, ifS_exc, s_for, eVar, e_c, wOf_s, rOf_s, bOf_s, e_ix, asD_d, ob_s, om_s, e_d1, e_d2, e_dN, asDs_1, asDs_2, bvO_s, e_t, o1_s, o2_s, a_nil, a_cons, prO_ok, prO_exc, e_cp, e_cg, call_1, call_2, call_3, call_4, call_5, call_6, b_not, b_and, b_or, andB_t, andB_f, orB_t, orB_f, b_tr, truW_b, e_if, ifE_t, ifE_f, e_isN, e_notN, e_notV, notV_s, e_andV, andV_t, andV_f, e_ch, chO_t, chO_f, e_sl, o_no, o_yes, oiO_s, sl_t, sl_l, i_zip, zipI_t, zipI_l, add_ii, sub_ii, neg_i, lt_ii, le_ii, gt_ii, ge_ii, eq_ii, ne_ii, eq_ss, ne_ss, eq_bb, ne_bb, len_t, len_l, min_ii, max_ii, int_i, int_b, tup_l, tup_t, lst_l, lst_t, sum_ints, e_tup, e_lst, itO_s, i_any, itA_t, itA_l, i_r1, i_r2, bindT, bindTs, unpk_t, un_L, un_P, mkSq, allD, wipeE, LINE, List.map_cons, List.map_nil, List.length_cons, List.length_nil, List.replicate, List.cons_append, List.nil_append, Nat.sub_self, Nat.reduceSub, Nat.reduceAdd, List.getElem?_cons_zero, List.getElem?_cons_succ, List.set_cons_zero, List.set_cons_succ, reduceIte, Bool.false_eq_true, Bool.not_true, Bool.not_false, Nat.reduceLeDiff, if_true, if_false, decide_true, decide_false, e_slS, s_asgL, nxL_s, itL_l]
        try rfl
      apply step
      · simp only [isi_ib, startE, rb_ok, rb_exc, rs_ok, rs_exc, s_seq, seq_nx, seq_rt, seq_bk, seq_ct, seq_exc, nxO_s, s_asg, s_par, s_par3, s_ret, s_expr, s_next, s_bk, s_ct, s_raise, s_if, ifS_t, ifS_f, ifS_exc, s_for, eVar, e_c, wOf_s, rOf_s, bOf_s, e_ix, asD_d, ob_s, om_s, e_d1, e_d2, e_dN, asDs_1, asDs_2, bvO_s, e_t, o1_s, o2_s, a_nil, a_cons, prO_ok, prO_exc, e_cp, e_cg, call_1, call_2, call_3, call_4, call_5, call_6, b_not, b_and, b_or, andB_t, andB_f, orB_t, orB_f, b_tr, truW_b, e_if, ifE_t, ifE_f, e_isN, e_notN, e_notV, notV_s, e_andV, andV_t, andV_f, e_ch, chO_t, chO_f, e_sl, o_no, o_yes, oiO_s, sl_t, sl_l, i_zip, zipI_t, zipI_l, add_ii, sub_ii, neg_i, lt_ii, le_ii, gt_ii, ge_ii, eq_ii, ne_ii, eq_ss, ne_ss, eq_bb, ne_bb, len_t, len_l, min_ii, max_ii, int_i, int_b, tup_l, tup_t, lst_l, lst_t, sum_ints, e_tup, e_lst, itO_s, i_any, itA_t, itA_l, i_r1, i_r2, bindT, bindTs, unpk_t, un_L, un_P, mkSq, allD, wipeE, LINE, List.map_cons, List.map_nil, List.length_cons, List.length_nil, List.replicate, List.cons_append, List.nil_append, Nat.sub_self, Nat.reduceSub, Nat.reduceAdd, List.getElem?_cons_zero, List.getElem?_cons_succ, List.set_cons_zero, List.set_cons_succ, reduceIte, Bool.false_eq_true, Bool.not_true, Bool.not_false, Nat.reduceLeDiff, if_true, if_false, decide_true, decide_false, e_slS, s_asgL, nxL_s, itL_l]
        try rfl
      apply step
      · simp only [isi_it, startE, rb_ok, rb_exc, rs_ok, rs_exc, s_seq, seq_nx, seq_rt, seq_bk, seq_ct, seq_exc, nxO_s, s_asg, s_par, s_par3, s_ret, s_expr, s_next, s_bk, s_ct, s_raise, s_if, ifS_t, ifS_f, ifS_exc, s_for, eVar, e_c, wOf_s, rOf_s, bOf_s, e_ix, asD_d, ob_s, om_s, e_d1, e_d2, e_dN, asDs_1, asDs_2, bvO_s, e_t, o1_s, o2_s, a_nil, a_cons, prO_ok, prO_exc, e_cp, e_cg, call_1, call_2, call_3, call_4, call_5, call_6, b_not, b_and, b_or, andB_t, andB_f, orB_t, orB_f, b_tr, truW_b, e_if, ifE_t, ifE_f, e_isN, e_notN, e_notV, notV_s, e_andV, andV_t, andV_f, e_ch, chO_t, chO_f, e_sl, o_no, o_yes, oiO_s, sl_t, sl_l, i_zip, zipI_t, zipI_l, add_ii, sub_ii, neg_i, lt_ii, le_ii, gt_ii, ge_ii, eq_ii, ne_ii, eq_ss, ne_ss, eq_bb, ne_bb, len_t, len_l, min_ii, max_ii, int_i, int_b, tup_l, tup_t, lst_l, lst_t, sum_ints, e_tup, e_lst, itO_s, i_any, itA_t, itA_l, i_r1, i_r2, bindT, bindTs, unpk_t, un_L, un_P, mkSq, allD, wipeE, LINE, List.map_cons, List.map_nil, List.length_cons, List.length_nil, List.replicate, List.cons_append, List.nil_append, Nat.sub_self, Nat.reduceSub, Nat.reduceAdd, List.getElem?_cons_zero, List.getElem?_cons_succ, List.set_cons_zero, List.set_cons_succ, reduceIte, Bool.false_eq_true, Bool.not_true, Bool.not_false, Nat.reduceLeDiff, if_true, if_false, decide_true, decide_false, e_slS, s_asgL, nxL_s, itL_l]
        try rfl
      apply step
      · simp only [isi_is, startE, rb_ok, rb_exc, rs_ok, rs_exc, s_seq, seq_nx, seq_rt, seq_bk, seq_ct, seq_exc, nxO_s, s_asg, s_par, s_par3, s_ret, s_expr, s_next, s_bk, s_ct, s_raise, s_if, ifS_t, ifS_f, ifS_exc, s_for, eVar, e_c, wOf_s, rOf_s, bOf_s, e_ix, asD_d, ob_s, om_s, e_d1, e_d2, e_dN, asDs_1, asDs_2, bvO_s, e_t, o1_s, o2_s, a_nil, a_cons, prO_ok, prO_exc, e_cp, e_cg, call_1, call_2, call_3, call_4, call_5, call_6, b_not, b_and, b_or, andB_t, andB_f, orB_t, orB_f, b_tr, truW_b, e_if, ifE_t, ifE_f, e_isN, e_notN, e_notV, notV_s, e_andV, andV_t, andV_f, e_ch, chO_t, chO_f, e_sl, o_no, o_yes, oiO_s, sl_t, sl_l, i_zip, zipI_t, zipI_l, add_ii, sub_ii, neg_i, lt_ii, le_ii, gt_ii, ge_ii, eq_ii, ne_ii, eq_ss, ne_ss, eq_bb, ne_bb, len_t, len_l, min_ii, max_ii, int_i, int_b, tup_l, tup_t, lst_l, lst_t, sum_ints, e_tup, e_lst, itO_s, i_any, itA_t, itA_l, i_r1, i_r2, bindT, bindTs, unpk_t, un_L, un_P, mkSq, allD, wipeE, LINE, List.map_cons, List.map_nil, List.length_cons, List.length_nil, List.replicate, List.cons_append, List.nil_append, Nat.sub_self, Nat.reduceSub, Nat.reduceAdd, List.getElem?_cons_zero, List.getElem?_cons_succ, List.set_cons_zero, List.set_cons_succ, reduceIte, Bool.false_eq_true, Bool.not_true, Bool.not_false, Nat.reduceLeDiff, if_true, if_false, decide_true, decide_false, e_slS, s_asgL, nxL_s, itL_l]
        try rfl
      apply fin
      · simp only [isi_int, isi_ib, di, startE, rb_ok, rb_exc, rs_ok, rs_exc, s_seq, seq_nx, seq_rt, seq_bk, seq_ct, seq_exc, nxO_s, s_asg, s_par, s_par3, s_ret, s_expr, s_next, s_bk, s_ct, s_raise, s_if, ifS_t, ifS_f, ifS_exc, s_for, eVar, e_c, wOf_s, rOf_s, bOf_s, e_ix, asD_d, ob_s, om_s, e_d1, e_d2, e_dN, asDs_1, asDs_2, bvO_s, e_t, o1_s, o2_s, a_nil, a_cons, prO_ok, prO_exc, e_cp, e_cg, call_1, call_2, call_3, call_4, call_5, call_6, b_not, b_and, b_or, andB_t, andB_f, orB_t, orB_f, b_tr, truW_b, e_if, ifE_t, ifE_f, e_isN, e_notN, e_notV, notV_s, e_andV, andV_t, andV_f, e_ch, chO_t, chO_f, e_sl, o_no, o_yes, oiO_s, sl_t, sl_l, i_zip, zipI_t, zipI_l, add_ii, sub_ii, neg_i, lt_ii, le_ii, gt_ii, ge_ii, eq_ii, ne_ii, eq_ss, ne_ss, eq_bb, ne_bb, len_t, len_l, min_ii, max_ii, int_i, int_b, tup_l, tup_t, lst_l, lst_t, sum_ints, e_tup, e_lst, itO_s, i_any, itA_t, itA_l, i_r1, i_r2, bindT, bindTs, unpk_t, un_L, un_P, mkSq, allD, wipeE, LINE, List.map_cons, List.map_nil, List.length_cons, List.length_nil, List.replicate, List.cons_append, List.nil_append, Nat.sub_self, Nat.reduceSub, Nat.reduceAdd, List.getElem?_cons_zero, List.getElem?_cons_succ, List.set_cons_zero, List.set_cons_succ, reduceIte, Bool.false_eq_true, Bool.not_true, Bool.not_false, Nat.reduceLeDiff, if_true, if_false, decide_true, decide_false, e_slS, s_asgL, nxL_s, itL_l]
        try rfl
      exact ⟨_, rfl⟩
    | str x =>
      apply step
      · simp only [isNW, startE, rb_ok, rb_exc, rs_ok, rs_exc, s_seq, seq_nx, seq_rt, seq_bk, seq_ct, seq_exc, nxO_s, s_asg, s_par, s_par3, s_ret, s_expr, s_next, s_bk, s_ct, s_raise, s_if, ifS_t, ifS_f, ifS_exc, s_for, eVar, e_c, wOf_s, rOf_s, bOf_s, e_ix, asD_d, ob_s, om_s, e_d1, e_d2, e_dN, asDs_1, asDs_2, bvO_s, e_t, o1_s, o2_s, a_nil, a_cons, prO_ok, prO_exc, e_cp, e_cg, call_1, call_2, call_3, call_4, call_5, call_6, b_not, b_and, b_or, andB_t, andB_f, orB_t, orB_f, b_tr, truW_b, e_if, ifE_t, ifE_f, e_isN, e_notN, e_notV, notV_s, e_andV, andV_t, andV_f, e_ch, chO_t, chO_f, e_sl, o_no, o_yes, oiO_s, sl_t, sl_l, i_zip, zipI_t, zipI_l, add_ii, sub_ii, neg_i, lt_ii, le_ii, gt_ii, ge_ii, eq_ii, ne_ii, eq_ss, ne_ss, eq_bb, ne_bb, len_t, len_l, min_ii, max_ii, int_i, int_b, tup_l, tup_t, lst_l, lst_t, sum_ints, e_tup, e_lst, itO_s, i_any, itA_t, itA_l, i_r1, i_r2, bindT, bindTs, unpk_t, un_L, un_P, mkSq, allD, wipeE, LINE, List.map_cons, List.map_nil, List.length_cons, List.length_nil, List.replicate, List.cons_append, List.nil_append, Nat.sub_self, Nat.reduceSub, Nat.reduceAdd, List.getElem?_cons_zero, List.getElem?_cons_succ, List.set_cons_zero, List.set_cons_succ, reduceIte, Bool.false_eq_true, Bool.not_true, Bool.not_false, Nat.reduceLeDiff, if_true, if_false, decide_true, decide_false, e_slS, s_asgL, nxL_s, itL_l]
        try rfl
      apply step
      · simp only [isi_sb, startE, rb_ok, rb_exc, rs_ok, rs_exc, s_seq, seq_nx, seq_rt, seq_bk, seq_ct, seq_exc, nxO_s, s_asg, s_par, s_par3, s_ret, s_expr, s_next, s_bk, s_ct, s_raise, s_if, ifS_t, ifS_f, ifS_exc, s_for, eVar, e_c, wOf_s, rOf_s, bOf_s, e_ix, asD_d, ob_s, om_s, e_d1, e_d2, e_dN, asDs_1, asDs_2, bvO_s, e_t, o1_s, o2_s, a_nil, a_cons, prO_ok, prO_exc, e_cp, e_cg, call_1, call_2, call_3, call_4, call_5, call_6, b_not, b_and, b_or, andB_t, andB_f, orB_t, orB_f, b_tr, truW_b, e_if, ifE_t, ifE_f, e_isN, e_notN, e_notV, notV_s, e_andV, andV_t, andV_f, e_ch, chO_t, chO_f, e_sl, o_no, o_yes, oiO_s, sl_t, sl_l, i_zip, zipI_t, zipI_l, add_ii, sub_ii, neg_i, lt_ii, le_ii, gt_ii, ge_ii, eq_ii, ne_ii, eq_ss, ne_ss, eq_bb, ne_bb, len_t, len_l, min_ii, max_ii, int_i, int_b, tup_l, tup_t, lst_l, lst_t, sum_ints, e_tup, e_lst, itO_s, i_any, itA_t, itA_l, i_r1, i_r2, bindT, bindTs, unpk_t, un_L, un_P, mkSq, allD, wipeE, LINE, List.map_cons, List.map_nil, List.length_cons, List.length_nil, List.replicate, List.cons_append, List.nil_append, Nat.sub_self, Nat.reduceSub, Nat.reduceAdd, List.getElem?_cons_zero, List.getElem?_cons_succ, List.set_cons_zero, List.set_cons_succ, reduceIte, Bool.false_eq_true, Bool.not_true, Bool.not_false, Nat.reduceLeDiff, if_true, if_false, decide_true, decide_false, e_slS, s_asgL, nxL_s, itL_l]
        try rfl
      apply step
      · simp only [isi_st, startE, rb_ok, rb_exc, rs_ok, rs_exc, s_seq, seq_nx, seq_rt, seq_bk, seq_ct, seq_exc, nxO_s, s_asg, s_par, s_par3, s_ret, s_expr, s_next, s_bk, s_ct, s_raise, s_if, ifS_t, ifS_f, ifS_exc, s_for, eVar, e_c, wOf_s, rOf_s, bOf_s, e_ix, asD_d, ob_s, om_s, e_d1, e_d2, e_dN, asDs_1, asDs_2, bvO_s, e_t, o1_s, o2_s, a_nil, a_cons, prO_ok, prO_exc, e_cp, e_cg, call_1, call_2, call_3, call_4, call_5, call_6, b_not, b_and, b_or, andB_t, andB_f, orB_t, orB_f, b_tr, truW_b, e_if, ifE_t, ifE_f, e_isN, e_notN, e_notV, notV_s, e_andV, andV_t, andV_f, e_ch, chO_t, chO_f, e_sl, o_no, o_yes, oiO_s, sl_t, sl_l, i_zip, zipI_t, zipI_l, add_ii, sub_ii, neg_i, lt_ii, le_ii, gt_ii, ge_ii, eq_ii, ne_ii, eq_ss, ne_ss, eq_bb, ne_bb, len_t, len_l, min_ii, max_ii, int_i, int_b, tup_l, tup_t, lst_l, lst_t, sum_ints, e_tup, e_lst, itO_s, i_any, itA_t, itA_l, i_r1, i_r2, bindT, bindTs, unpk_t, un_L, un_P, mkSq, allD, wipeE, LINE, List.map_cons, List.map_nil, List.length_cons, List.length_nil, List.replicate, List.cons_append, List.nil_append, Nat.sub_self, Nat.reduceSub, Nat.reduceAdd, List.getElem?_cons_zero, List.getElem?_cons_succ, List.set_cons_zero, List.set_cons_succ, reduceIte, Bool.false_eq_true, Bool.not_true, Bool.not_false, Nat.reduceLeDiff, if_true, if_false, decide_true, decide_false, e_slS, s_asgL, nxL_s, itL_l]
        try rfl
      refine fin (r := .rt (.d (.bool true)) []) ?_ ⟨_, rfl⟩
      simp only [isi_ss, ds, startE, rb_ok, rb_exc, rs_ok, rs_exc, s_seq, seq_nx, seq_rt, seq_bk, seq_ct, seq_exc, nxO_s, s_asg, s_par, s_par3, s_ret, s_expr, s_next, s_bk, s_ct, s_raise, s_if, ifS_t, ifS_f, ifS_exc, s_for, eVar, e_c, wOf_s, rOf_s, bOf_s, e_ix, asD_d, ob_s, om_s, e_d1, e_d2, e_dN, asDs_1, asDs_2, bvO_s, e_t, o1_s, o2_s, a_nil, a_cons, prO_ok, prO_exc, e_cp, e_cg, call_1, call_2, call_3, call_4, call_5, call_6, b_not, b_and, b_or, andB_t, andB_f, orB_t, orB_f, b_tr, truW_b, e_if, ifE_t, ifE_f, e_isN, e_notN, e_notV, notV_s, e_andV, andV_t, andV_f, e_ch, chO_t, chO_f, e_sl, o_no, o_yes, oiO_s, sl_t, sl_l, i_zip, zipI_t, zipI_l, add_ii, sub_ii, neg_i, lt_ii, le_ii, gt_ii, ge_ii, eq_ii, ne_ii, eq_ss, ne_ss, eq_bb, ne_bb, len_t, len_l, min_ii, max_ii, int_i, int_b, tup_l, tup_t, lst_l, lst_t, sum_ints, e_tup, e_lst, itO_s, i_any, itA_t, itA_l, i_r1, i_r2, bindT, bindTs, unpk_t, un_L, un_P, mkSq, allD, wipeE, LINE, List.map_cons, List.map_nil, List.length_cons, List.length_nil, List.replicate, List.cons_append, List.nil_append, Nat.sub_self, Nat.reduceSub, Nat.reduceAdd, List.getElem?_cons_zero, List.getElem?_cons_succ, List.set_cons_zero, List.set_cons_succ, reduceIte, Bool.false_eq_true, Bool.not_true, Bool.not_false, Nat.reduceLeDiff, if_true, if_false, decide_true, decide_false, e_slS, s_asgL, nxL_s, itL_l]
    | list xs => cases h
    | dict xs => cases h
    | tuple xs =>
      have h' : (decide (xs.length ≤ 1000000) && xs.all (okD n)) = true := h
      rw [Bool.and_eq_true, decide_eq_true_eq, List.all_eq_true] at h'
      have dn : (!decide ((xs.length : Int) = (xs.length : Int))) = false := by simp
      have hc := eComp_all (it := iZip (aCons (eVar 0) (aCons (eVar 1) aNil))) (tg := .tp [(.nm 2), (.nm 3)]) (f := e1__law_same (f__law_same_n n)) (vs := [2, 3]) (ρ := [some (.d (.tuple xs)), some (.d (.tuple xs)), none, none]) (S := []) (xs := xs) (fun d => .d (.tuple [d, d])) (fun _ => .bool true) (fun d => [some (.d (.tuple xs)), some (.d (.tuple xs)), some (.d d), some (.d d)])
        (by simp only [zip_self, startE, rb_ok, rb_exc, rs_ok, rs_exc, s_seq, seq_nx, seq_rt, seq_bk, seq_ct, seq_exc, nxO_s, s_asg, s_par, s_par3, s_ret, s_expr, s_next, s_bk, s_ct, s_raise, s_if, ifS_t, ifS_f, ifS_exc, s_for, eVar, e_c, wOf_s, rOf_s, bOf_s, e_ix, asD_d, ob_s, om_s, e_d1, e_d2, e_dN, asDs_1, asDs_2, bvO_s, e_t, o1_s, o2_s, a_nil, a_cons, prO_ok, prO_exc, e_cp, e_cg, call_1, call_2, call_3, call_4, call_5, call_6, b_not, b_and, b_or, andB_t, andB_f, orB_t, orB_f, b_tr, truW_b, e_if, ifE_t, ifE_f, e_isN, e_notN, e_notV, notV_s, e_andV, andV_t, andV_f, e_ch, chO_t, chO_f, e_sl, o_no, o_yes, oiO_s, sl_t, sl_l, i_zip, zipI_t, zipI_l, add_ii, sub_ii, neg_i, lt_ii, le_ii, gt_ii, ge_ii, eq_ii, ne_ii, eq_ss, ne_ss, eq_bb, ne_bb, len_t, len_l, min_ii, max_ii, int_i, int_b, tup_l, tup_t, lst_l, lst_t, sum_ints, e_tup, e_lst, itO_s, i_any, itA_t, itA_l, i_r1, i_r2, bindT, bindTs, unpk_t, un_L, un_P, mkSq, allD, wipeE, LINE, List.map_cons, List.map_nil, List.length_cons, List.length_nil, List.replicate, List.cons_append, List.nil_append, Nat.sub_self, Nat.reduceSub, Nat.reduceAdd, List.getElem?_cons_zero, List.getElem?_cons_succ, List.set_cons_zero, List.set_cons_succ, reduceIte, Bool.false_eq_true, Bool.not_true, Bool.not_false, Nat.reduceLeDiff, if_true, if_false, decide_true, decide_false, e_slS, s_asgL, nxL_s, itL_l]) (by unfold LINE; omega) (fun d _ => rfl) (fun d hd => by simp only [e1__law_same, same_n n d (h'.2 d hd), startE, rb_ok, rb_exc, rs_ok, rs_exc, s_seq, seq_nx, seq_rt, seq_bk, seq_ct, seq_exc, nxO_s, s_asg, s_par, s_par3, s_ret, s_expr, s_next, s_bk, s_ct, s_raise, s_if, ifS_t, ifS_f, ifS_exc, s_for, eVar, e_c, wOf_s, rOf_s, bOf_s, e_ix, asD_d, ob_s, om_s, e_d1, e_d2, e_dN, asDs_1, asDs_2, bvO_s, e_t, o1_s, o2_s, a_nil, a_cons, prO_ok, prO_exc, e_cp, e_cg, call_1, call_2, call_3, call_4, call_5, call_6, b_not, b_and, b_or, andB_t, andB_f, orB_t, orB_f, b_tr, truW_b, e_if, ifE_t, ifE_f, e_isN, e_notN, e_notV, notV_s, e_andV, andV_t, andV_f, e_ch, chO_t, chO_f, e_sl, o_no, o_yes, oiO_s, sl_t, sl_l, i_zip, zipI_t, zipI_l, add_ii, sub_ii, neg_i, lt_ii, le_ii, gt_ii, ge_ii, eq_ii, ne_ii, eq_ss, ne_ss, eq_bb, ne_bb, len_t, len_l, min_ii, max_ii, int_i, int_b, tup_l, tup_t, lst_l, lst_t, sum_ints, e_tup, e_lst, itO_s, i_any, itA_t, itA_l, i_r1, i_r2, bindT, bindTs, unpk_t, un_L, un_P, mkSq, allD, wipeE, LINE, List.map_cons, List.map_nil, List.length_cons, List.length_nil, List.replicate, List.cons_append, List.nil_append, Nat.sub_self, Nat.reduceSub, Nat.reduceAdd, List.getElem?_cons_zero, List.getElem?_cons_succ, List.set_cons_zero, List.set_cons_succ, reduceIte, Bool.false_eq_true, Bool.not_true, Bool.not_false, Nat.reduceLeDiff, if_true, if_false, decide_true, decide_false, e_slS, s_asgL, nxL_s, itL_l])
      have hm : xs.map (fun _ => PyData.bool true) = (xs.map fun _ => true).map .bool := by rw [List.map_map]; rfl
      apply step
      · simp only [isNW, startE, rb_ok, rb_exc, rs_ok, rs_exc, s_seq, seq_nx, seq_rt, seq_bk, seq_ct, seq_exc, nxO_s, s_asg, s_par, s_par3, s_ret, s_expr, s_next, s_bk, s_ct, s_raise, s_if, ifS_t, ifS_f, ifS_exc, s_for, eVar, e_c, wOf_s, rOf_s, bOf_s, e_ix, asD_d, ob_s, om_s, e_d1, e_d2, e_dN, asDs_1, asDs_2, bvO_s, e_t, o1_s, o2_s, a_nil, a_cons, prO_ok, prO_exc, e_cp, e_cg, call_1, call_2, call_3, call_4, call_5, call_6, b_not, b_and, b_or, andB_t, andB_f, orB_t, orB_f, b_tr, truW_b, e_if, ifE_t, ifE_f, e_isN, e_notN, e_notV, notV_s, e_andV, andV_t, andV_f, e_ch, chO_t, chO_f, e_sl, o_no, o_yes, oiO_s, sl_t, sl_l, i_zip, zipI_t, zipI_l, add_ii, sub_ii, neg_i, lt_ii, le_ii, gt_ii, ge_ii, eq_ii, ne_ii, eq_ss, ne_ss, eq_bb, ne_bb, len_t, len_l, min_ii, max_ii, int_i, int_b, tup_l, tup_t, lst_l, lst_t, sum_ints, e_tup, e_lst, itO_s, i_any, itA_t, itA_l, i_r1, i_r2, bindT, bindTs, unpk_t, un_L, un_P, mkSq, allD, wipeE, LINE, List.map_cons, List.map_nil, List.length_cons, List.length_nil, List.replicate, List.cons_append, List.nil_append, Nat.sub_self, Nat.reduceSub, Nat.reduceAdd, List.getElem?_cons_zero, List.getElem?_cons_succ, List.set_cons_zero, List.set_cons_succ, reduceIte, Bool.false_eq_true, Bool.not_true, Bool.not_false, Nat.reduceLeDiff, if_true, if_false, decide_true, decide_false, e_slS, s_asgL, nxL_s, itL_l]
        try rfl
      apply step
      · simp only [isi_tb, startE, rb_ok, rb_exc, rs_ok, rs_exc, s_seq, seq_nx, seq_rt, seq_bk, seq_ct, seq_exc, nxO_s, s_asg, s_par, s_par3, s_ret, s_expr, s_next, s_bk, s_ct, s_raise, s_if, ifS_t, ifS_f, ifS_exc, s_for, eVar, e_c, wOf_s, rOf_s, bOf_s, e_ix, asD_d, ob_s, om_s, e_d1, e_d2, e_dN, asDs_1, asDs_2, bvO_s, e_t, o1_s, o2_s, a_nil, a_cons, prO_ok, prO_exc, e_cp, e_cg, call_1, call_2, call_3, call_4, call_5, call_6, b_not, b_and, b_or, andB_t, andB_f, orB_t, orB_f, b_tr, truW_b, e_if, ifE_t, ifE_f, e_isN, e_notN, e_notV, notV_s, e_andV, andV_t, andV_f, e_ch, chO_t, chO_f, e_sl, o_no, o_yes, oiO_s, sl_t, sl_l, i_zip, zipI_t, zipI_l, add_ii, sub_ii, neg_i, lt_ii, le_ii, gt_ii, ge_ii, eq_ii, ne_ii, eq_ss, ne_ss, eq_bb, ne_bb, len_t, len_l, min_ii, max_ii, int_i, int_b, tup_l, tup_t, lst_l, lst_t, sum_ints, e_tup, e_lst, itO_s, i_any, itA_t, itA_l, i_r1, i_r2, bindT, bindTs, unpk_t, un_L, un_P, mkSq, allD, wipeE, LINE, List.map_cons, List.map_nil, List.length_cons, List.length_nil, List.replicate, List.cons_append, List.nil_append, Nat.sub_self, Nat.reduceSub, Nat.reduceAdd, List.getElem?_cons_zero, List.getElem?_cons_succ, List.set_cons_zero, List.set_cons_succ, reduceIte, Bool.false_eq_true, Bool.not_true, Bool.not_false, Nat.reduceLeDiff, if_true, if_false, decide_true, decide_false, e_slS, s_asgL, nxL_s, itL_l]
        try rfl
      have st : (sIf (bOr (bNot (bTr (eD1 (oIsi "tuple") (eVar 0)))) (eT (eD2 oNe (eDN (o1 oLen) (aCons (eVar 0) aNil)) (eDN (o1 oLen) (aCons (eVar 1) aNil))))) (sRet (eC (.bool false))) sNext) [some (.d (.tuple xs)), some (.d (.tuple xs)), none, none] [] = .nx [some (.d (.tuple xs)), some (.d (.tuple xs)), none, none] [] := by
        simp only [isi_tt, dn, startE, rb_ok, rb_exc, rs_ok, rs_exc, s_seq, seq_nx, seq_rt, seq_bk, seq_ct, seq_exc, nxO_s, s_asg, s_par, s_par3, s_ret, s_expr, s_next, s_bk, s_ct, s_raise, s_if, ifS_t, ifS_f, ifS_exc, s_for, eVar, e_c, wOf_s, rOf_s, bOf_s, e_ix, asD_d, ob_s, om_s, e_d1, e_d2, e_dN, asDs_1, asDs_2, bvO_s, e_t, o1_s, o2_s, a_nil, a_cons, prO_ok, prO_exc, e_cp, e_cg, call_1, call_2, call_3, call_4, call_5, call_6, b_not, b_and, b_or, andB_t, andB_f, orB_t, orB_f, b_tr, truW_b, e_if, ifE_t, ifE_f, e_isN, e_notN, e_notV, notV_s, e_andV, andV_t, andV_f, e_ch, chO_t, chO_f, e_sl, o_no, o_yes, oiO_s, sl_t, sl_l, i_zip, zipI_t, zipI_l, add_ii, sub_ii, neg_i, lt_ii, le_ii, gt_ii, ge_ii, eq_ii, ne_ii, eq_ss, ne_ss, eq_bb, ne_bb, len_t, len_l, min_ii, max_ii, int_i, int_b, tup_l, tup_t, lst_l, lst_t, sum_ints, e_tup, e_lst, itO_s, i_any, itA_t, itA_l, i_r1, i_r2, bindT, bindTs, unpk_t, un_L, un_P, mkSq, allD, wipeE, LINE, List.map_cons, List.map_nil, List.length_cons, List.length_nil, List.replicate, List.cons_append, List.nil_append, Nat.sub_self, Nat.reduceSub, Nat.reduceAdd, List.getElem?_cons_zero, List.getElem?_cons_succ, List.set_cons_zero, List.set_cons_succ, reduceIte, Bool.false_eq_true, Bool.not_true, Bool.not_false, Nat.reduceLeDiff, if_true, if_false, decide_true, decide_false, e_slS, s_asgL, nxL_s, itL_l]
      refine fin (r := .rt (.d (.bool true)) []) ?_ ⟨_, rfl⟩
      simp only [isi_tt, st, hc, hm, all_bls, all_true, startE, rb_ok, rb_exc, rs_ok, rs_exc, s_seq, seq_nx, seq_rt, seq_bk, seq_ct, seq_exc, nxO_s, s_asg, s_par, s_par3, s_ret, s_expr, s_next, s_bk, s_ct, s_raise, s_if, ifS_t, ifS_f, ifS_exc, s_for, eVar, e_c, wOf_s, rOf_s, bOf_s, e_ix, asD_d, ob_s, om_s, e_d1, e_d2, e_dN, asDs_1, asDs_2, bvO_s, e_t, o1_s, o2_s, a_nil, a_cons, prO_ok, prO_exc, e_cp, e_cg, call_1, call_2, call_3, call_4, call_5, call_6, b_not, b_and, b_or, andB_t, andB_f, orB_t, orB_f, b_tr, truW_b, e_if, ifE_t, ifE_f, e_isN, e_notN, e_notV, notV_s, e_andV, andV_t, andV_f, e_ch, chO_t, chO_f, e_sl, o_no, o_yes, oiO_s, sl_t, sl_l, i_zip, zipI_t, zipI_l, add_ii, sub_ii, neg_i, lt_ii, le_ii, gt_ii, ge_ii, eq_ii, ne_ii, eq_ss, ne_ss, eq_bb, ne_bb, len_t, len_l, min_ii, max_ii, int_i, int_b, tup_l, tup_t, lst_l, lst_t, sum_ints, e_tup, e_lst, itO_s, i_any, itA_t, itA_l, i_r1, i_r2, bindT, bindTs, unpk_t, un_L, un_P, mkSq, allD, wipeE, LINE, List.map_cons, List.map_nil, List.length_cons, List.length_nil, List.replicate, List.cons_append, List.nil_append, Nat.sub_self, Nat.reduceSub, Nat.reduceAdd, List.getElem?_cons_zero, List.getElem?_cons_succ, List.set_cons_zero, List.set_cons_succ, reduceIte, Bool.false_eq_true, Bool.not_true, Bool.not_false, Nat.reduceLeDiff, if_true, if_false, decide_true, decide_false, e_slS, s_asgL, nxL_s, itL_l]
theorem same_eq {d : PyData} (h : okD 12 d = true) : f__law_same [d, d] = .ok (.bool true) := same_n 12 d h
theorem okD_mono : ∀ {n : Nat} {d : PyData}, okD n d = true → okD (n + 1) d = true
  | 0, _, h => by cases h
  | n + 1, d, h => by
    cases d with
    | tuple xs =>
      have h' : (decide (xs.length ≤ 1000000) && xs.all (okD n)) = true := h
      rw [Bool.and_eq_true, List.all_eq_true] at h'
      show (decide (xs.length ≤ 1000000) && xs.all (okD (n + 1))) = true
      rw [Bool.and_eq_true, List.all_eq_true]
      exact ⟨h'.1, fun x hx => okD_mono (h'.2 x hx)⟩
    | _ => first | rfl | cases h
theorem okD_tup {n : Nat} {xs : List PyData} (hl : xs.length ≤ 1000000) (h : ∀ x ∈ xs, okD n x = true) : okD (n + 1) (.tuple xs) = true := by
  show (decide (xs.length ≤ 1000000) && xs.all (okD n)) = true
  rw [Bool.and_eq_true, List.all_eq_true, decide_eq_true_eq]
  exact ⟨hl, h⟩
theorem okD_map {α : Type} {n : Nat} {f : α → PyData} {xs : List α} (hl : xs.length ≤ 1000000) (h : ∀ x ∈ xs, okD n (f x) = true) : okD (n + 1) (.tuple (xs.map f)) = true :=
  okD_tup (by rw [List.length_map]; exact hl) fun d hd => by
    obtain ⟨x, hx, rfl⟩ := List.mem_map.mp hd
    exact h x hx

/-! ### by hand -/
theorem on_iff {p : Pl} (hn : 0 < p.1) {l : Ln} (hw : l.2.1 ≤ p.1) (b : Int) : isOn p l b = (rng 0 l.2.1).any fun k => decide ((l.2.2 + k - b) % p.1 = 0) := by
  have m0 := Int.emod_nonneg (b - l.2.2) (by omega : p.1 ≠ 0)
  have m1 := Int.emod_lt_of_pos (b - l.2.2) hn
  have key : ∀ k : Int, 0 ≤ k → k < p.1 → ((l.2.2 + k - b) % p.1 = 0 ↔ (b - l.2.2) % p.1 = k) := fun k k0 k1 => by
    have := mod_is (e := b) (s := l.2.2) (n := p.1) (w := k) hn k0 k1
    rw [← this, ← Int.emod_eq_emod_iff_emod_sub_eq_zero]
    exact eq_comm
  cases h : isOn p l b with
  | true =>
    have h' : (b - l.2.2) % p.1 < l.2.1 := by simpa [isOn] using h
    symm
    rw [List.any_eq_true]
    exact ⟨_, mem_rng m0 h', decide_eq_true ((key _ m0 m1).mpr rfl)⟩
  | false =>
    have h' : ¬ (b - l.2.2) % p.1 < l.2.1 := by simpa [isOn] using h
    symm
    rw [List.any_eq_false]
    intro k hk q
    have r := rng_mem hk
    have q' := (key k r.1 (by omega)).mp (by simpa using q)
    omega
theorem hand_loop (p l : Wv) (b n s : Int) (hp : p = .d (.tuple [.int n, .tuple []]) ∨ True) (i0 : ∀ S, ixW S p (.d (.int 0)) = some (.d (.int n))) (i2 : ∀ S, ixW S l (.d (.int 2)) = some (.d (.int s))) (hn : 0 < n) : ∀ (ks : List Int) (o : Option Wv), ∃ o', loopS (.nm 3) l1__law_is_on (ks.map fun k => .d (.int k)) [some p, some l, some (.d (.int b)), o] [] =
    if ks.any (fun k => decide ((s + k - b) % n = 0)) = true then .rt (.d (.bool true)) [] else .nx [some p, some l, some (.d (.int b)), o'] []
  | [], o => ⟨o, rfl⟩
  | k :: r, o => by
    obtain ⟨o', ih⟩ := hand_loop p l b n s hp i0 i2 hn r (some (.d (.int k)))
    refine ⟨o', ?_⟩
    rw [List.map_cons, List.any_cons]
    by_cases h : (s + k - b) % n = 0
    · have d : decide ((s + k - b) % n = 0) = true := decide_eq_true h
      simp only [loopS, l1__law_is_on, i0, i2, mod_ii hn, d, Bool.true_or, startE, rb_ok, rb_exc, rs_ok, rs_exc, s_seq, seq_nx, seq_rt, seq_bk, seq_ct, seq_exc, nxO_s, s_asg, s_par, s_par3, s_ret, s_expr, s_next, s_bk, s_ct, s_raise, s_if, ifS_t, ifS_f, ifS_exc, s_for, eVar, e_c, wOf_s, rOf_s, bOf_s, e_ix, asD_d, ob_s, om_s, e_d1, e_d2, e_dN, asDs_1, asDs_2, bvO_s, e_t, o1_s, o2_s, a_nil, a_cons, prO_ok, prO_exc, e_cp, e_cg, call_1, call_2, call_3, call_4, call_5, call_6, b_not, b_and, b_or, andB_t, andB_f, orB_t, orB_f, b_tr, truW_b, e_if, ifE_t, ifE_f, e_isN, e_notN, e_notV, notV_s, e_andV, andV_t, andV_f, e_ch, chO_t, chO_f, e_sl, o_no, o_yes, oiO_s, sl_t, sl_l, i_zip, zipI_t, zipI_l, add_ii, sub_ii, neg_i, lt_ii, le_ii, gt_ii, ge_ii, eq_ii, ne_ii, eq_ss, ne_ss, eq_bb, ne_bb, len_t, len_l, min_ii, max_ii, int_i, int_b, tup_l, tup_t, lst_l, lst_t, sum_ints, e_tup, e_lst, itO_s, i_any, itA_t, itA_l, i_r1, i_r2, bindT, bindTs, unpk_t, un_L, un_P, mkSq, allD, wipeE, LINE, List.map_cons, List.map_nil, List.length_cons, List.length_nil, List.replicate, List.cons_append, List.nil_append, Nat.sub_self, Nat.reduceSub, Nat.reduceAdd, List.getElem?_cons_zero, List.getElem?_cons_succ, List.set_cons_zero, List.set_cons_succ, reduceIte, Bool.false_eq_true, Bool.not_true, Bool.not_false, Nat.reduceLeDiff, if_true, if_false, decide_true, decide_false, e_slS, s_asgL, nxL_s, itL_l]
    · have d : decide ((s + k - b) % n = 0) = false := decide_eq_false h
      rw [d, Bool.false_or, ← ih]
      simp only [loopS, l1__law_is_on, i0, i2, mod_ii hn, d, startE, rb_ok, rb_exc, rs_ok, rs_exc, s_seq, seq_nx, seq_rt, seq_bk, seq_ct, seq_exc, nxO_s, s_asg, s_par, s_par3, s_ret, s_expr, s_next, s_bk, s_ct, s_raise, s_if, ifS_t, ifS_f, ifS_exc, s_for, eVar, e_c, wOf_s, rOf_s, bOf_s, e_ix, asD_d, ob_s, om_s, e_d1, e_d2, e_dN, asDs_1, asDs_2, bvO_s, e_t, o1_s, o2_s, a_nil, a_cons, prO_ok, prO_exc, e_cp, e_cg, call_1, call_2, call_3, call_4, call_5, call_6, b_not, b_and, b_or, andB_t, andB_f, orB_t, orB_f, b_tr, truW_b, e_if, ifE_t, ifE_f, e_isN, e_notN, e_notV, notV_s, e_andV, andV_t, andV_f, e_ch, chO_t, chO_f, e_sl, o_no, o_yes, oiO_s, sl_t, sl_l, i_zip, zipI_t, zipI_l, add_ii, sub_ii, neg_i, lt_ii, le_ii, gt_ii, ge_ii, eq_ii, ne_ii, eq_ss, ne_ss, eq_bb, ne_bb, len_t, len_l, min_ii, max_ii, int_i, int_b, tup_l, tup_t, lst_l, lst_t, sum_ints, e_tup, e_lst, itO_s, i_any, itA_t, itA_l, i_r1, i_r2, bindT, bindTs, unpk_t, un_L, un_P, mkSq, allD, wipeE, LINE, List.map_cons, List.map_nil, List.length_cons, List.length_nil, List.replicate, List.cons_append, List.nil_append, Nat.sub_self, Nat.reduceSub, Nat.reduceAdd, List.getElem?_cons_zero, List.getElem?_cons_succ, List.set_cons_zero, List.set_cons_succ, reduceIte, Bool.false_eq_true, Bool.not_true, Bool.not_false, Nat.reduceLeDiff, if_true, if_false, decide_true, decide_false, e_slS, s_asgL, nxL_s, itL_l]
theorem hand_on {p : Pl} (g : Good p) {l : Ln} (hl : l ∈ p.2) (b : Int) : f__law_is_on [dP p, dL l, .int b] = .ok (.bool (isOn p l b)) := by
  have hb := g.b
  have hw := g.w l hl
  obtain ⟨o', h⟩ := hand_loop (.d (dP p)) (.d (dL l)) b p.1 l.2.2 (.inr trivial) (fun _ => ix_P0 p) (fun _ => ix_L2 l) hb.1 (rng 0 l.2.1) none
  rw [← on_iff hb.1 hw.2.1] at h
  have sw : small l.2.1 := ⟨by omega, by omega⟩
  have hr := rngW0_eq l.2.1
  refine runP_rt (S := []) ?_
  cases e : isOn p l b with
  | true =>
    rw [e, if_pos rfl] at h
    simp only [b__law_is_on, ix_L1, r1O_s sw, hr, h, startE, rb_ok, rb_exc, rs_ok, rs_exc, s_seq, seq_nx, seq_rt, seq_bk, seq_ct, seq_exc, nxO_s, s_asg, s_par, s_par3, s_ret, s_expr, s_next, s_bk, s_ct, s_raise, s_if, ifS_t, ifS_f, ifS_exc, s_for, eVar, e_c, wOf_s, rOf_s, bOf_s, e_ix, asD_d, ob_s, om_s, e_d1, e_d2, e_dN, asDs_1, asDs_2, bvO_s, e_t, o1_s, o2_s, a_nil, a_cons, prO_ok, prO_exc, e_cp, e_cg, call_1, call_2, call_3, call_4, call_5, call_6, b_not, b_and, b_or, andB_t, andB_f, orB_t, orB_f, b_tr, truW_b, e_if, ifE_t, ifE_f, e_isN, e_notN, e_notV, notV_s, e_andV, andV_t, andV_f, e_ch, chO_t, chO_f, e_sl, o_no, o_yes, oiO_s, sl_t, sl_l, i_zip, zipI_t, zipI_l, add_ii, sub_ii, neg_i, lt_ii, le_ii, gt_ii, ge_ii, eq_ii, ne_ii, eq_ss, ne_ss, eq_bb, ne_bb, len_t, len_l, min_ii, max_ii, int_i, int_b, tup_l, tup_t, lst_l, lst_t, sum_ints, e_tup, e_lst, itO_s, i_any, itA_t, itA_l, i_r1, i_r2, bindT, bindTs, unpk_t, un_L, un_P, mkSq, allD, wipeE, LINE, List.map_cons, List.map_nil, List.length_cons, List.length_nil, List.replicate, List.cons_append, List.nil_append, Nat.sub_self, Nat.reduceSub, Nat.reduceAdd, List.getElem?_cons_zero, List.getElem?_cons_succ, List.set_cons_zero, List.set_cons_succ, reduceIte, Bool.false_eq_true, Bool.not_true, Bool.not_false, Nat.reduceLeDiff, if_true, if_false, decide_true, decide_false, e_slS, s_asgL, nxL_s, itL_l]
  | false =>
    rw [e, if_neg Bool.false_ne_true] at h
    simp only [b__law_is_on, ix_L1, r1O_s sw, hr, h, startE, rb_ok, rb_exc, rs_ok, rs_exc, s_seq, seq_nx, seq_rt, seq_bk, seq_ct, seq_exc, nxO_s, s_asg, s_par, s_par3, s_ret, s_expr, s_next, s_bk, s_ct, s_raise, s_if, ifS_t, ifS_f, ifS_exc, s_for, eVar, e_c, wOf_s, rOf_s, bOf_s, e_ix, asD_d, ob_s, om_s, e_d1, e_d2, e_dN, asDs_1, asDs_2, bvO_s, e_t, o1_s, o2_s, a_nil, a_cons, prO_ok, prO_exc, e_cp, e_cg, call_1, call_2, call_3, call_4, call_5, call_6, b_not, b_and, b_or, andB_t, andB_f, orB_t, orB_f, b_tr, truW_b, e_if, ifE_t, ifE_f, e_isN, e_notN, e_notV, notV_s, e_andV, andV_t, andV_f, e_ch, chO_t, chO_f, e_sl, o_no, o_yes, oiO_s, sl_t, sl_l, i_zip, zipI_t, zipI_l, add_ii, sub_ii, neg_i, lt_ii, le_ii, gt_ii, ge_ii, eq_ii, ne_ii, eq_ss, ne_ss, eq_bb, ne_bb, len_t, len_l, min_ii, max_ii, int_i, int_b, tup_l, tup_t, lst_l, lst_t, sum_ints, e_tup, e_lst, itO_s, i_any, itA_t, itA_l, i_r1, i_r2, bindT, bindTs, unpk_t, un_L, un_P, mkSq, allD, wipeE, LINE, List.map_cons, List.map_nil, List.length_cons, List.length_nil, List.replicate, List.cons_append, List.nil_append, Nat.sub_self, Nat.reduceSub, Nat.reduceAdd, List.getElem?_cons_zero, List.getElem?_cons_succ, List.set_cons_zero, List.set_cons_succ, reduceIte, Bool.false_eq_true, Bool.not_true, Bool.not_false, Nat.reduceLeDiff, if_true, if_false, decide_true, decide_false, e_slS, s_asgL, nxL_s, itL_l]
theorem hand_onAt {p : Pl} (g : Good p) (b : Int) : f__law_on [dP p, .int b] = .ok (.tuple ((onAt p b).map .str)) := by
  have hc := fun (y2 : Option Wv) (S : Store) => eComp_eq (it := (iAny (eIx (eVar 0) (eC (.int 1))))) (tg := (.nm 2)) (t := t1__law_on) (f := e1__law_on) (vs := [2]) (ρ := [some (.d (dP p)), some (.d (.int (b))), y2]) (S := S) (xs := p.2) (fun l => .d (dL l)) (fun l => isOn p l b) (fun l => .str l.1) (fun l => [some (.d (dP p)), some (.d (.int (b))), some (.d (dL l))]) (by simp only [ix_P1, mapLd, startE, rb_ok, rb_exc, rs_ok, rs_exc, s_seq, seq_nx, seq_rt, seq_bk, seq_ct, seq_exc, nxO_s, s_asg, s_par, s_par3, s_ret, s_expr, s_next, s_bk, s_ct, s_raise, s_if, ifS_t, ifS_f, ifS_exc, s_for, eVar, e_c, wOf_s, rOf_s, bOf_s, e_ix, asD_d, ob_s, om_s, e_d1, e_d2, e_dN, asDs_1, asDs_2, bvO_s, e_t, o1_s, o2_s, a_nil, a_cons, prO_ok, prO_exc, e_cp, e_cg, call_1, call_2, call_3, call_4, call_5, call_6, b_not, b_and, b_or, andB_t, andB_f, orB_t, orB_f, b_tr, truW_b, e_if, ifE_t, ifE_f, e_isN, e_notN, e_notV, notV_s, e_andV, andV_t, andV_f, e_ch, chO_t, chO_f, e_sl, o_no, o_yes, oiO_s, sl_t, sl_l, i_zip, zipI_t, zipI_l, add_ii, sub_ii, neg_i, lt_ii, le_ii, gt_ii, ge_ii, eq_ii, ne_ii, eq_ss, ne_ss, eq_bb, ne_bb, len_t, len_l, min_ii, max_ii, int_i, int_b, tup_l, tup_t, lst_l, lst_t, sum_ints, e_tup, e_lst, itO_s, i_any, itA_t, itA_l, i_r1, i_r2, bindT, bindTs, unpk_t, un_L, un_P, mkSq, allD, wipeE, LINE, List.map_cons, List.map_nil, List.length_cons, List.length_nil, List.replicate, List.cons_append, List.nil_append, Nat.sub_self, Nat.reduceSub, Nat.reduceAdd, List.getElem?_cons_zero, List.getElem?_cons_succ, List.set_cons_zero, List.set_cons_succ, reduceIte, Bool.false_eq_true, Bool.not_true, Bool.not_false, Nat.reduceLeDiff, if_true, if_false, decide_true, decide_false, e_slS, s_asgL, nxL_s, itL_l]) (by have := g.len; unfold LINE; omega) (fun l _ => rfl) (fun l hl => by simp only [t1__law_on, hand_on g hl b, startE, rb_ok, rb_exc, rs_ok, rs_exc, s_seq, seq_nx, seq_rt, seq_bk, seq_ct, seq_exc, nxO_s, s_asg, s_par, s_par3, s_ret, s_expr, s_next, s_bk, s_ct, s_raise, s_if, ifS_t, ifS_f, ifS_exc, s_for, eVar, e_c, wOf_s, rOf_s, bOf_s, e_ix, asD_d, ob_s, om_s, e_d1, e_d2, e_dN, asDs_1, asDs_2, bvO_s, e_t, o1_s, o2_s, a_nil, a_cons, prO_ok, prO_exc, e_cp, e_cg, call_1, call_2, call_3, call_4, call_5, call_6, b_not, b_and, b_or, andB_t, andB_f, orB_t, orB_f, b_tr, truW_b, e_if, ifE_t, ifE_f, e_isN, e_notN, e_notV, notV_s, e_andV, andV_t, andV_f, e_ch, chO_t, chO_f, e_sl, o_no, o_yes, oiO_s, sl_t, sl_l, i_zip, zipI_t, zipI_l, add_ii, sub_ii, neg_i, lt_ii, le_ii, gt_ii, ge_ii, eq_ii, ne_ii, eq_ss, ne_ss, eq_bb, ne_bb, len_t, len_l, min_ii, max_ii, int_i, int_b, tup_l, tup_t, lst_l, lst_t, sum_ints, e_tup, e_lst, itO_s, i_any, itA_t, itA_l, i_r1, i_r2, bindT, bindTs, unpk_t, un_L, un_P, mkSq, allD, wipeE, LINE, List.map_cons, List.map_nil, List.length_cons, List.length_nil, List.replicate, List.cons_append, List.nil_append, Nat.sub_self, Nat.reduceSub, Nat.reduceAdd, List.getElem?_cons_zero, List.getElem?_cons_succ, List.set_cons_zero, List.set_cons_succ, reduceIte, Bool.false_eq_true, Bool.not_true, Bool.not_false, Nat.reduceLeDiff, if_true, if_false, decide_true, decide_false, e_slS, s_asgL, nxL_s, itL_l]) (fun l hl _ => by simp only [e1__law_on, ix_L0, startE, rb_ok, rb_exc, rs_ok, rs_exc, s_seq, seq_nx, seq_rt, seq_bk, seq_ct, seq_exc, nxO_s, s_asg, s_par, s_par3, s_ret, s_expr, s_next, s_bk, s_ct, s_raise, s_if, ifS_t, ifS_f, ifS_exc, s_for, eVar, e_c, wOf_s, rOf_s, bOf_s, e_ix, asD_d, ob_s, om_s, e_d1, e_d2, e_dN, asDs_1, asDs_2, bvO_s, e_t, o1_s, o2_s, a_nil, a_cons, prO_ok, prO_exc, e_cp, e_cg, call_1, call_2, call_3, call_4, call_5, call_6, b_not, b_and, b_or, andB_t, andB_f, orB_t, orB_f, b_tr, truW_b, e_if, ifE_t, ifE_f, e_isN, e_notN, e_notV, notV_s, e_andV, andV_t, andV_f, e_ch, chO_t, chO_f, e_sl, o_no, o_yes, oiO_s, sl_t, sl_l, i_zip, zipI_t, zipI_l, add_ii, sub_ii, neg_i, lt_ii, le_ii, gt_ii, ge_ii, eq_ii, ne_ii, eq_ss, ne_ss, eq_bb, ne_bb, len_t, len_l, min_ii, max_ii, int_i, int_b, tup_l, tup_t, lst_l, lst_t, sum_ints, e_tup, e_lst, itO_s, i_any, itA_t, itA_l, i_r1, i_r2, bindT, bindTs, unpk_t, un_L, un_P, mkSq, allD, wipeE, LINE, List.map_cons, List.map_nil, List.length_cons, List.length_nil, List.replicate, List.cons_append, List.nil_append, Nat.sub_self, Nat.reduceSub, Nat.reduceAdd, List.getElem?_cons_zero, List.getElem?_cons_succ, List.set_cons_zero, List.set_cons_succ, reduceIte, Bool.false_eq_true, Bool.not_true, Bool.not_false, Nat.reduceLeDiff, if_true, if_false, decide_true, decide_false, e_slS, s_asgL, nxL_s, itL_l])
  refine runP_gs ?_
  simp only [startE, startE, rb_ok, rb_exc, rs_ok, rs_exc, s_seq, seq_nx, seq_rt, seq_bk, seq_ct, seq_exc, nxO_s, s_asg, s_par, s_par3, s_ret, s_expr, s_next, s_bk, s_ct, s_raise, s_if, ifS_t, ifS_f, ifS_exc, s_for, eVar, e_c, wOf_s, rOf_s, bOf_s, e_ix, asD_d, ob_s, om_s, e_d1, e_d2, e_dN, asDs_1, asDs_2, bvO_s, e_t, o1_s, o2_s, a_nil, a_cons, prO_ok, prO_exc, e_cp, e_cg, call_1, call_2, call_3, call_4, call_5, call_6, b_not, b_and, b_or, andB_t, andB_f, orB_t, orB_f, b_tr, truW_b, e_if, ifE_t, ifE_f, e_isN, e_notN, e_notV, notV_s, e_andV, andV_t, andV_f, e_ch, chO_t, chO_f, e_sl, o_no, o_yes, oiO_s, sl_t, sl_l, i_zip, zipI_t, zipI_l, add_ii, sub_ii, neg_i, lt_ii, le_ii, gt_ii, ge_ii, eq_ii, ne_ii, eq_ss, ne_ss, eq_bb, ne_bb, len_t, len_l, min_ii, max_ii, int_i, int_b, tup_l, tup_t, lst_l, lst_t, sum_ints, e_tup, e_lst, itO_s, i_any, itA_t, itA_l, i_r1, i_r2, bindT, bindTs, unpk_t, un_L, un_P, mkSq, allD, wipeE, LINE, List.map_cons, List.map_nil, List.length_cons, List.length_nil, List.replicate, List.cons_append, List.nil_append, Nat.sub_self, Nat.reduceSub, Nat.reduceAdd, List.getElem?_cons_zero, List.getElem?_cons_succ, List.set_cons_zero, List.set_cons_succ, reduceIte, Bool.false_eq_true, Bool.not_true, Bool.not_false, Nat.reduceLeDiff, if_true, if_false, decide_true, decide_false, e_slS, s_asgL, nxL_s, itL_l]
  apply fin
  · simp only [b__law_on, hc, startE, rb_ok, rb_exc, rs_ok, rs_exc, s_seq, seq_nx, seq_rt, seq_bk, seq_ct, seq_exc, nxO_s, s_asg, s_par, s_par3, s_ret, s_expr, s_next, s_bk, s_ct, s_raise, s_if, ifS_t, ifS_f, ifS_exc, s_for, eVar, e_c, wOf_s, rOf_s, bOf_s, e_ix, asD_d, ob_s, om_s, e_d1, e_d2, e_dN, asDs_1, asDs_2, bvO_s, e_t, o1_s, o2_s, a_nil, a_cons, prO_ok, prO_exc, e_cp, e_cg, call_1, call_2, call_3, call_4, call_5, call_6, b_not, b_and, b_or, andB_t, andB_f, orB_t, orB_f, b_tr, truW_b, e_if, ifE_t, ifE_f, e_isN, e_notN, e_notV, notV_s, e_andV, andV_t, andV_f, e_ch, chO_t, chO_f, e_sl, o_no, o_yes, oiO_s, sl_t, sl_l, i_zip, zipI_t, zipI_l, add_ii, sub_ii, neg_i, lt_ii, le_ii, gt_ii, ge_ii, eq_ii, ne_ii, eq_ss, ne_ss, eq_bb, ne_bb, len_t, len_l, min_ii, max_ii, int_i, int_b, tup_l, tup_t, lst_l, lst_t, sum_ints, e_tup, e_lst, itO_s, i_any, itA_t, itA_l, i_r1, i_r2, bindT, bindTs, unpk_t, un_L, un_P, mkSq, allD, wipeE, LINE, List.map_cons, List.map_nil, List.length_cons, List.length_nil, List.replicate, List.cons_append, List.nil_append, Nat.sub_self, Nat.reduceSub, Nat.reduceAdd, List.getElem?_cons_zero, List.getElem?_cons_succ, List.set_cons_zero, List.set_cons_succ, reduceIte, Bool.false_eq_true, Bool.not_true, Bool.not_false, Nat.reduceLeDiff, if_true, if_false, decide_true, decide_false, e_slS, s_asgL, nxL_s, itL_l]
    try rfl
  exact ⟨_, by unfold onAt; rw [List.map_map]; rfl⟩
theorem chg_eq (p : Pl) (l : Ln) (e : Int) : (!decide (isOn p l (e - 1) = isOn p l e)) = chg p l e := by
  unfold chg
  cases isOn p l (e - 1) <;> cases isOn p l e <;> rfl
theorem hand_events {p : Pl} (g : Good p) (lay : ∀ l ∈ p.2, Lay l.1) (n31 : p.2.length ≤ 31) {a b : Int} (sa : small a) (sb : small b) (hab : b - a ≤ 10000) : f__law_events [dP p, .int a, .int b] = .ok (.tuple ((evs p a b).map dE)) := by
  have hL : ∀ es : List Int, es.length ≤ 10000 → (es.flatMap fun e => p.2.flatMap fun l => evAt p l e).length ≤ 310000 := fun es h => by
    have h1 := flatMap_len (fun e => p.2.flatMap fun l => evAt p l e) (1 * p.2.length) (fun e => flatMap_len (fun l => evAt p l e) 1 (fun l => evAt_len p l e) p.2) es
    have h2 : 1 * p.2.length * es.length ≤ 31 * 10000 := Nat.mul_le_mul (by omega) h
    omega
  refine runP_gs ?_
  simp only [startE, startE, rb_ok, rb_exc, rs_ok, rs_exc, s_seq, seq_nx, seq_rt, seq_bk, seq_ct, seq_exc, nxO_s, s_asg, s_par, s_par3, s_ret, s_expr, s_next, s_bk, s_ct, s_raise, s_if, ifS_t, ifS_f, ifS_exc, s_for, eVar, e_c, wOf_s, rOf_s, bOf_s, e_ix, asD_d, ob_s, om_s, e_d1, e_d2, e_dN, asDs_1, asDs_2, bvO_s, e_t, o1_s, o2_s, a_nil, a_cons, prO_ok, prO_exc, e_cp, e_cg, call_1, call_2, call_3, call_4, call_5, call_6, b_not, b_and, b_or, andB_t, andB_f, orB_t, orB_f, b_tr, truW_b, e_if, ifE_t, ifE_f, e_isN, e_notN, e_notV, notV_s, e_andV, andV_t, andV_f, e_ch, chO_t, chO_f, e_sl, o_no, o_yes, oiO_s, sl_t, sl_l, i_zip, zipI_t, zipI_l, add_ii, sub_ii, neg_i, lt_ii, le_ii, gt_ii, ge_ii, eq_ii, ne_ii, eq_ss, ne_ss, eq_bb, ne_bb, len_t, len_l, min_ii, max_ii, int_i, int_b, tup_l, tup_t, lst_l, lst_t, sum_ints, e_tup, e_lst, itO_s, i_any, itA_t, itA_l, i_r1, i_r2, bindT, bindTs, unpk_t, un_L, un_P, mkSq, allD, wipeE, LINE, List.map_cons, List.map_nil, List.length_cons, List.length_nil, List.replicate, List.cons_append, List.nil_append, Nat.sub_self, Nat.reduceSub, Nat.reduceAdd, List.getElem?_cons_zero, List.getElem?_cons_succ, List.set_cons_zero, List.set_cons_succ, reduceIte, Bool.false_eq_true, Bool.not_true, Bool.not_false, Nat.reduceLeDiff, if_true, if_false, decide_true, decide_false, e_slS, s_asgL, nxL_s, itL_l]
  apply step
  · simp only [startE, rb_ok, rb_exc, rs_ok, rs_exc, s_seq, seq_nx, seq_rt, seq_bk, seq_ct, seq_exc, nxO_s, s_asg, s_par, s_par3, s_ret, s_expr, s_next, s_bk, s_ct, s_raise, s_if, ifS_t, ifS_f, ifS_exc, s_for, eVar, e_c, wOf_s, rOf_s, bOf_s, e_ix, asD_d, ob_s, om_s, e_d1, e_d2, e_dN, asDs_1, asDs_2, bvO_s, e_t, o1_s, o2_s, a_nil, a_cons, prO_ok, prO_exc, e_cp, e_cg, call_1, call_2, call_3, call_4, call_5, call_6, b_not, b_and, b_or, andB_t, andB_f, orB_t, orB_f, b_tr, truW_b, e_if, ifE_t, ifE_f, e_isN, e_notN, e_notV, notV_s, e_andV, andV_t, andV_f, e_ch, chO_t, chO_f, e_sl, o_no, o_yes, oiO_s, sl_t, sl_l, i_zip, zipI_t, zipI_l, add_ii, sub_ii, neg_i, lt_ii, le_ii, gt_ii, ge_ii, eq_ii, ne_ii, eq_ss, ne_ss, eq_bb, ne_bb, len_t, len_l, min_ii, max_ii, int_i, int_b, tup_l, tup_t, lst_l, lst_t, sum_ints, e_tup, e_lst, itO_s, i_any, itA_t, itA_l, i_r1, i_r2, bindT, bindTs, unpk_t, un_L, un_P, mkSq, allD, wipeE, LINE, List.map_cons, List.map_nil, List.length_cons, List.length_nil, List.replicate, List.cons_append, List.nil_append, Nat.sub_self, Nat.reduceSub, Nat.reduceAdd, List.getElem?_cons_zero, List.getElem?_cons_succ, List.set_cons_zero, List.set_cons_succ, reduceIte, Bool.false_eq_true, Bool.not_true, Bool.not_false, Nat.reduceLeDiff, if_true, if_false, decide_true, decide_false, e_slS, s_asgL, nxL_s, itL_l]
    try rfl
  refine for_step (rng a b) (fun e => .d (.int e)) (fun i ρ S => (∃ f : Nat → Option Wv, ρ = [some (.d (dP p)), some (.d (.int a)), some (.d (.int b)), some (.d (.tuple ((((rng a b).take i).flatMap fun e => p.2.flatMap fun l => evAt p l e).map dE))), f 4, f 5, f 6, f 7]) ∧ S = []) (S' := []) ?_ ⟨slots rfl, rfl⟩ ?_ ?_
  · simp only [r2O_s sa sb, rngW_eq, startE, rb_ok, rb_exc, rs_ok, rs_exc, s_seq, seq_nx, seq_rt, seq_bk, seq_ct, seq_exc, nxO_s, s_asg, s_par, s_par3, s_ret, s_expr, s_next, s_bk, s_ct, s_raise, s_if, ifS_t, ifS_f, ifS_exc, s_for, eVar, e_c, wOf_s, rOf_s, bOf_s, e_ix, asD_d, ob_s, om_s, e_d1, e_d2, e_dN, asDs_1, asDs_2, bvO_s, e_t, o1_s, o2_s, a_nil, a_cons, prO_ok, prO_exc, e_cp, e_cg, call_1, call_2, call_3, call_4, call_5, call_6, b_not, b_and, b_or, andB_t, andB_f, orB_t, orB_f, b_tr, truW_b, e_if, ifE_t, ifE_f, e_isN, e_notN, e_notV, notV_s, e_andV, andV_t, andV_f, e_ch, chO_t, chO_f, e_sl, o_no, o_yes, oiO_s, sl_t, sl_l, i_zip, zipI_t, zipI_l, add_ii, sub_ii, neg_i, lt_ii, le_ii, gt_ii, ge_ii, eq_ii, ne_ii, eq_ss, ne_ss, eq_bb, ne_bb, len_t, len_l, min_ii, max_ii, int_i, int_b, tup_l, tup_t, lst_l, lst_t, sum_ints, e_tup, e_lst, itO_s, i_any, itA_t, itA_l, i_r1, i_r2, bindT, bindTs, unpk_t, un_L, un_P, mkSq, allD, wipeE, LINE, List.map_cons, List.map_nil, List.length_cons, List.length_nil, List.replicate, List.cons_append, List.nil_append, Nat.sub_self, Nat.reduceSub, Nat.reduceAdd, List.getElem?_cons_zero, List.getElem?_cons_succ, List.set_cons_zero, List.set_cons_succ, reduceIte, Bool.false_eq_true, Bool.not_true, Bool.not_false, Nat.reduceLeDiff, if_true, if_false, decide_true, decide_false, e_slS, s_asgL, nxL_s, itL_l]
  · rintro i e hi ρ S ⟨⟨f, rfl⟩, rfl⟩
    have hil := (List.getElem?_eq_some_iff.mp hi).1
    rw [rng_len] at hil
    refine ⟨_, rfl, ?_⟩
    have tk : (rng a b).take (i + 1) = (rng a b).take i ++ [e] := by rw [List.take_add_one, hi]; rfl
    have hacc := hL ((rng a b).take i) (by rw [List.length_take]; omega)
    apply step
    · simp only [hand_onAt g, startE, rb_ok, rb_exc, rs_ok, rs_exc, s_seq, seq_nx, seq_rt, seq_bk, seq_ct, seq_exc, nxO_s, s_asg, s_par, s_par3, s_ret, s_expr, s_next, s_bk, s_ct, s_raise, s_if, ifS_t, ifS_f, ifS_exc, s_for, eVar, e_c, wOf_s, rOf_s, bOf_s, e_ix, asD_d, ob_s, om_s, e_d1, e_d2, e_dN, asDs_1, asDs_2, bvO_s, e_t, o1_s, o2_s, a_nil, a_cons, prO_ok, prO_exc, e_cp, e_cg, call_1, call_2, call_3, call_4, call_5, call_6, b_not, b_and, b_or, andB_t, andB_f, orB_t, orB_f, b_tr, truW_b, e_if, ifE_t, ifE_f, e_isN, e_notN, e_notV, notV_s, e_andV, andV_t, andV_f, e_ch, chO_t, chO_f, e_sl, o_no, o_yes, oiO_s, sl_t, sl_l, i_zip, zipI_t, zipI_l, add_ii, sub_ii, neg_i, lt_ii, le_ii, gt_ii, ge_ii, eq_ii, ne_ii, eq_ss, ne_ss, eq_bb, ne_bb, len_t, len_l, min_ii, max_ii, int_i, int_b, tup_l, tup_t, lst_l, lst_t, sum_ints, e_tup, e_lst, itO_s, i_any, itA_t, itA_l, i_r1, i_r2, bindT, bindTs, unpk_t, un_L, un_P, mkSq, allD, wipeE, LINE, List.map_cons, List.map_nil, List.length_cons, List.length_nil, List.replicate, List.cons_append, List.nil_append, Nat.sub_self, Nat.reduceSub, Nat.reduceAdd, List.getElem?_cons_zero, List.getElem?_cons_succ, List.set_cons_zero, List.set_cons_succ, reduceIte, Bool.false_eq_true, Bool.not_true, Bool.not_false, Nat.reduceLeDiff, if_true, if_false, decide_true, decide_false, e_slS, s_asgL, nxL_s, itL_l]
      try rfl
    obtain ⟨acc, hac⟩ : ∃ acc, acc = ((rng a b).take i).flatMap fun e => p.2.flatMap fun l => evAt p l e := ⟨_, rfl⟩
    rw [← hac] at hacc ⊢
    rw [tk, List.flatMap_append, ← hac]
    have lp := for_fin (it := iAny (eIx (eVar 0) (eC (.int 1)))) (tg := .nm 7) (body := l1__law_events) (ρ := [some (.d (dP p)), some (.d (.int a)), some (.d (.int b)), some (.d (.tuple (acc.map dE))), some (.d (.int e)), some (.d (.tuple ((onAt p (e - 1)).map .str))), some (.d (.tuple ((onAt p e).map .str))), f 7]) (S := []) (S' := []) p.2 (fun l => .d (dL l))
      (fun j ρ S => (∃ f : Nat → Option Wv, ρ = [some (.d (dP p)), some (.d (.int a)), some (.d (.int b)), some (.d (.tuple ((acc ++ (p.2.take j).flatMap fun l => evAt p l e).map dE))), some (.d (.int e)), some (.d (.tuple ((onAt p (e - 1)).map .str))), some (.d (.tuple ((onAt p e).map .str))), f 7]) ∧ S = []) (by simp only [ix_P1, mapLd, startE, rb_ok, rb_exc, rs_ok, rs_exc, s_seq, seq_nx, seq_rt, seq_bk, seq_ct, seq_exc, nxO_s, s_asg, s_par, s_par3, s_ret, s_expr, s_next, s_bk, s_ct, s_raise, s_if, ifS_t, ifS_f, ifS_exc, s_for, eVar, e_c, wOf_s, rOf_s, bOf_s, e_ix, asD_d, ob_s, om_s, e_d1, e_d2, e_dN, asDs_1, asDs_2, bvO_s, e_t, o1_s, o2_s, a_nil, a_cons, prO_ok, prO_exc, e_cp, e_cg, call_1, call_2, call_3, call_4, call_5, call_6, b_not, b_and, b_or, andB_t, andB_f, orB_t, orB_f, b_tr, truW_b, e_if, ifE_t, ifE_f, e_isN, e_notN, e_notV, notV_s, e_andV, andV_t, andV_f, e_ch, chO_t, chO_f, e_sl, o_no, o_yes, oiO_s, sl_t, sl_l, i_zip, zipI_t, zipI_l, add_ii, sub_ii, neg_i, lt_ii, le_ii, gt_ii, ge_ii, eq_ii, ne_ii, eq_ss, ne_ss, eq_bb, ne_bb, len_t, len_l, min_ii, max_ii, int_i, int_b, tup_l, tup_t, lst_l, lst_t, sum_ints, e_tup, e_lst, itO_s, i_any, itA_t, itA_l, i_r1, i_r2, bindT, bindTs, unpk_t, un_L, un_P, mkSq, allD, wipeE, LINE, List.map_cons, List.map_nil, List.length_cons, List.length_nil, List.replicate, List.cons_append, List.nil_append, Nat.sub_self, Nat.reduceSub, Nat.reduceAdd, List.getElem?_cons_zero, List.getElem?_cons_succ, List.set_cons_zero, List.set_cons_succ, reduceIte, Bool.false_eq_true, Bool.not_true, Bool.not_false, Nat.reduceLeDiff, if_true, if_false, decide_true, decide_false, e_slS, s_asgL, nxL_s, itL_l]) ⟨slots (by simp), rfl⟩ (by
        rintro j l hj ρ S ⟨⟨f2, rfl⟩, rfl⟩
        have hm : l ∈ p.2 := List.mem_of_getElem? hj
        have hjl := (List.getElem?_eq_some_iff.mp hj).1
        refine ⟨_, rfl, ?_⟩
        have tk2 : p.2.take (j + 1) = p.2.take j ++ [l] := by rw [List.take_add_one, hj]; rfl
        have h1 := flatMap_len (fun l => evAt p l e) 1 (fun l => evAt_len p l e) (p.2.take j)
        rw [List.length_take] at h1
        have i1 := in_onAt g lay hm (e - 1)
        have i2 := in_onAt g lay hm e
        have hz : ((acc ++ (p.2.take j).flatMap fun l => evAt p l e).map dE).length + 1 ≤ 16777216 := by
          rw [List.length_map, List.length_append]; omega
        rw [tk2, List.flatMap_append, ← List.append_assoc, List.map_append (l₁ := acc ++ _)]
        cases hc : chg p l e with
        | true =>
          have ev : evAt p l e = [(e, l.1, isOn p l e)] := by unfold evAt; rw [hc]; rfl
          apply fin
          · simp only [l1__law_events, ix_L0, i1, i2, ne_bb, chg_eq, hc, startE, rb_ok, rb_exc, rs_ok, rs_exc, s_seq, seq_nx, seq_rt, seq_bk, seq_ct, seq_exc, nxO_s, s_asg, s_par, s_par3, s_ret, s_expr, s_next, s_bk, s_ct, s_raise, s_if, ifS_t, ifS_f, ifS_exc, s_for, eVar, e_c, wOf_s, rOf_s, bOf_s, e_ix, asD_d, ob_s, om_s, e_d1, e_d2, e_dN, asDs_1, asDs_2, bvO_s, e_t, o1_s, o2_s, a_nil, a_cons, prO_ok, prO_exc, e_cp, e_cg, call_1, call_2, call_3, call_4, call_5, call_6, b_not, b_and, b_or, andB_t, andB_f, orB_t, orB_f, b_tr, truW_b, e_if, ifE_t, ifE_f, e_isN, e_notN, e_notV, notV_s, e_andV, andV_t, andV_f, e_ch, chO_t, chO_f, e_sl, o_no, o_yes, oiO_s, sl_t, sl_l, i_zip, zipI_t, zipI_l, add_ii, sub_ii, neg_i, lt_ii, le_ii, gt_ii, ge_ii, eq_ii, ne_ii, eq_ss, ne_ss, eq_bb, ne_bb, len_t, len_l, min_ii, max_ii, int_i, int_b, tup_l, tup_t, lst_l, lst_t, sum_ints, e_tup, e_lst, itO_s, i_any, itA_t, itA_l, i_r1, i_r2, bindT, bindTs, unpk_t, un_L, un_P, mkSq, allD, wipeE, LINE, List.map_cons, List.map_nil, List.length_cons, List.length_nil, List.replicate, List.cons_append, List.nil_append, Nat.sub_self, Nat.reduceSub, Nat.reduceAdd, List.getElem?_cons_zero, List.getElem?_cons_succ, List.set_cons_zero, List.set_cons_succ, reduceIte, Bool.false_eq_true, Bool.not_true, Bool.not_false, Nat.reduceLeDiff, if_true, if_false, decide_true, decide_false, e_slS, s_asgL, nxL_s, itL_l]
            rw [add_tt (by show _ + 1 ≤ _; exact hz)]
          · refine ⟨_, _, rfl, slots ?_, rfl⟩
            rw [List.flatMap_cons, ev]
            rfl
        | false =>
          have ev : evAt p l e = [] := by unfold evAt; rw [hc]; rfl
          apply fin
          · simp only [l1__law_events, ix_L0, i1, i2, ne_bb, chg_eq, hc, startE, rb_ok, rb_exc, rs_ok, rs_exc, s_seq, seq_nx, seq_rt, seq_bk, seq_ct, seq_exc, nxO_s, s_asg, s_par, s_par3, s_ret, s_expr, s_next, s_bk, s_ct, s_raise, s_if, ifS_t, ifS_f, ifS_exc, s_for, eVar, e_c, wOf_s, rOf_s, bOf_s, e_ix, asD_d, ob_s, om_s, e_d1, e_d2, e_dN, asDs_1, asDs_2, bvO_s, e_t, o1_s, o2_s, a_nil, a_cons, prO_ok, prO_exc, e_cp, e_cg, call_1, call_2, call_3, call_4, call_5, call_6, b_not, b_and, b_or, andB_t, andB_f, orB_t, orB_f, b_tr, truW_b, e_if, ifE_t, ifE_f, e_isN, e_notN, e_notV, notV_s, e_andV, andV_t, andV_f, e_ch, chO_t, chO_f, e_sl, o_no, o_yes, oiO_s, sl_t, sl_l, i_zip, zipI_t, zipI_l, add_ii, sub_ii, neg_i, lt_ii, le_ii, gt_ii, ge_ii, eq_ii, ne_ii, eq_ss, ne_ss, eq_bb, ne_bb, len_t, len_l, min_ii, max_ii, int_i, int_b, tup_l, tup_t, lst_l, lst_t, sum_ints, e_tup, e_lst, itO_s, i_any, itA_t, itA_l, i_r1, i_r2, bindT, bindTs, unpk_t, un_L, un_P, mkSq, allD, wipeE, LINE, List.map_cons, List.map_nil, List.length_cons, List.length_nil, List.replicate, List.cons_append, List.nil_append, Nat.sub_self, Nat.reduceSub, Nat.reduceAdd, List.getElem?_cons_zero, List.getElem?_cons_succ, List.set_cons_zero, List.set_cons_succ, reduceIte, Bool.false_eq_true, Bool.not_true, Bool.not_false, Nat.reduceLeDiff, if_true, if_false, decide_true, decide_false, e_slS, s_asgL, nxL_s, itL_l]
            try rfl
          · refine ⟨_, _, rfl, slots ?_, rfl⟩
            rw [List.flatMap_cons, ev]
            simp only [List.flatMap_nil, List.append_nil, List.map_nil]
            rfl)
    rw [List.take_length] at lp
    obtain ⟨ρ2, S2, e2, ⟨f2, rfl⟩, rfl⟩ := lp
    refine fin e2 ⟨_, _, rfl, slots ?_, rfl⟩
    simp only [List.flatMap_cons, List.flatMap_nil, List.append_nil]
    rfl
  · rintro ρ S ⟨⟨f, rfl⟩, rfl⟩
    rw [List.take_length]
    apply fin
    · simp only [startE, rb_ok, rb_exc, rs_ok, rs_exc, s_seq, seq_nx, seq_rt, seq_bk, seq_ct, seq_exc, nxO_s, s_asg, s_par, s_par3, s_ret, s_expr, s_next, s_bk, s_ct, s_raise, s_if, ifS_t, ifS_f, ifS_exc, s_for, eVar, e_c, wOf_s, rOf_s, bOf_s, e_ix, asD_d, ob_s, om_s, e_d1, e_d2, e_dN, asDs_1, asDs_2, bvO_s, e_t, o1_s, o2_s, a_nil, a_cons, prO_ok, prO_exc, e_cp, e_cg, call_1, call_2, call_3, call_4, call_5, call_6, b_not, b_and, b_or, andB_t, andB_f, orB_t, orB_f, b_tr, truW_b, e_if, ifE_t, ifE_f, e_isN, e_notN, e_notV, notV_s, e_andV, andV_t, andV_f, e_ch, chO_t, chO_f, e_sl, o_no, o_yes, oiO_s, sl_t, sl_l, i_zip, zipI_t, zipI_l, add_ii, sub_ii, neg_i, lt_ii, le_ii, gt_ii, ge_ii, eq_ii, ne_ii, eq_ss, ne_ss, eq_bb, ne_bb, len_t, len_l, min_ii, max_ii, int_i, int_b, tup_l, tup_t, lst_l, lst_t, sum_ints, e_tup, e_lst, itO_s, i_any, itA_t, itA_l, i_r1, i_r2, bindT, bindTs, unpk_t, un_L, un_P, mkSq, allD, wipeE, LINE, List.map_cons, List.map_nil, List.length_cons, List.length_nil, List.replicate, List.cons_append, List.nil_append, Nat.sub_self, Nat.reduceSub, Nat.reduceAdd, List.getElem?_cons_zero, List.getElem?_cons_succ, List.set_cons_zero, List.set_cons_succ, reduceIte, Bool.false_eq_true, Bool.not_true, Bool.not_false, Nat.reduceLeDiff, if_true, if_false, decide_true, decide_false, e_slS, s_asgL, nxL_s, itL_l]
      try rfl
    exact ⟨_, rfl⟩
end PL

/-! # PL, part f: the nearest; bent; lost -/
namespace PL
open PySem PySem.Spec PyProof.Rows L2 PySem.SeqAt PySem.W
/-- nearer than -/
def nlt (n e y a : Int) : Bool := decide (ap n e y < ap n e a) || (decide (ap n e y = ap n e a) && (decide ((e - y) % n < (e - a) % n) || (decide ((e - y) % n = (e - a) % n) && decide (y < a))))
def nrT (n e o : Int) : PyData := .tuple [.int (ap n e o), .int ((e - o) % n), .int o]
def nrF (n e : Int) (x : Int) (r : List Int) : Int := r.foldl (fun a y => if nlt n e y a = true then y else a) x
def nr (n e : Int) : List Int → Int
  | [] => 0
  | x :: r => nrF n e x r
theorem lex2 {x y : Int} {xs ys : List PyData} : dataLt (.tuple (.int x :: xs)) (.tuple (.int y :: ys)) = (decide (x < y) || (decide (x = y) && dataLt (.tuple xs) (.tuple ys))) := by
  rw [dlt_tup, dataLt_cons rfl, dlt_tup]
  have ev : PyData.eqv (.int x) (.int y) = decide (x = y) := by
    show (x == y) = _
    by_cases h : x = y
    · rw [decide_eq_true h]; exact beq_iff_eq.mpr h
    · rw [decide_eq_false h]; exact beq_eq_false_iff_ne.mpr h
  rw [ev, dlt_int]
  by_cases h : x = y
  · subst h
    rw [decide_eq_true rfl, if_pos rfl, decide_eq_false (by omega), Bool.false_or, Bool.true_and]
  · rw [decide_eq_false h, if_neg Bool.false_ne_true, Bool.false_and, Bool.or_false]
theorem nlt_eq (n e y a : Int) : dataLt (nrT n e y) (nrT n e a) = nlt n e y a := by
  unfold nrT nlt
  have z : dataLt (.tuple []) (.tuple []) = false := by decide +kernel
  rw [lex2, lex2, lex2, z, Bool.and_false, Bool.or_false]
theorem minD_nr (n e x : Int) : ∀ r : List Int, minD (nrT n e x) (r.map (nrT n e)) = nrT n e (nrF n e x r) := by
  intro r
  unfold minD nrF
  induction r generalizing x with
  | nil => rfl
  | cons y r ih =>
    rw [List.map_cons, List.foldl_cons, List.foldl_cons, nlt_eq]
    by_cases h : nlt n e y x = true
    · rw [if_pos h, if_pos h]; exact ih y
    · rw [if_neg h, if_neg h]; exact ih x
theorem nrF_mem (n e : Int) : ∀ (r : List Int) (x : Int), nrF n e x r ∈ x :: r
  | [], x => List.mem_singleton.mpr rfl
  | y :: r, x => by
    have := nrF_mem n e r (if nlt n e y x = true then y else x)
    show nrF n e (if nlt n e y x = true then y else x) r ∈ _
    rcases List.mem_cons.mp this with h | h
    · rw [h]; split <;> simp
    · simp [h]
theorem nlt_trans {n e a b c : Int} (h1 : nlt n e a b = false) (h2 : nlt n e b c = false) : nlt n e a c = false := by
  unfold nlt at *
  simp only [Bool.or_eq_false_iff, Bool.and_eq_false_iff, decide_eq_false_iff_not] at *
  omega
theorem nlt_asym {n e a b : Int} (h : nlt n e a b = true) : nlt n e b a = false := by
  unfold nlt at *
  simp only [Bool.or_eq_false_iff, Bool.and_eq_false_iff, decide_eq_false_iff_not, Bool.or_eq_true, Bool.and_eq_true, decide_eq_true_eq] at *
  omega
theorem nlt_irr (n e a : Int) : nlt n e a a = false := by
  cases h : nlt n e a a with
  | false => rfl
  | true => have := nlt_asym h; rw [h] at this; cases this
theorem nrF_min (n e : Int) : ∀ (r : List Int) (x : Int), ∀ y ∈ x :: r, nlt n e y (nrF n e x r) = false
  | [], x, y, hy => by rw [List.mem_singleton.mp hy]; exact nlt_irr n e x
  | z :: r, x, y, hy => by
    show nlt n e y (nrF n e (if nlt n e z x = true then z else x) r) = false
    have ih := nrF_min n e r (if nlt n e z x = true then z else x)
    have h0 := ih _ List.mem_cons_self
    rcases List.mem_cons.mp hy with h | h
    · subst h
      by_cases q : nlt n e z y = true
      · rw [if_pos q] at h0 ⊢
        exact nlt_trans (nlt_asym q) h0
      · rw [if_neg q] at h0 ⊢
        exact h0
    · rcases List.mem_cons.mp h with h | h
      · subst h
        by_cases q : nlt n e y x = true
        · rw [if_pos q] at h0 ⊢; exact h0
        · rw [if_neg q] at h0 ⊢
          exact nlt_trans (by simpa using q) h0
      · exact ih y (List.mem_cons_of_mem _ h)
theorem nr_mem {n e : Int} {xs : List Int} (h : xs ≠ []) : nr n e xs ∈ xs := by
  cases xs with
  | nil => exact absurd rfl h
  | cons x r => exact nrF_mem n e r x
theorem nr_min {n e : Int} {xs : List Int} {y : Int} (h : y ∈ xs) : nlt n e y (nr n e xs) = false := by
  cases xs with
  | nil => cases h
  | cons x r => exact nrF_min n e r x y h
theorem nr_ap {n e : Int} {xs : List Int} {y : Int} (h : y ∈ xs) : ap n e (nr n e xs) ≤ ap n e y := by
  have := nr_min (n := n) (e := e) h
  unfold nlt at this
  simp only [Bool.or_eq_false_iff, Bool.and_eq_false_iff, decide_eq_false_iff_not] at this
  omega
theorem nr_ahead {n e : Int} {xs : List Int} {y : Int} (h : y ∈ xs) (ha : ap n e y = ap n e (nr n e xs)) : (e - nr n e xs) % n ≤ (e - y) % n := by
  have := nr_min (n := n) (e := e) h
  unfold nlt at this
  simp only [Bool.or_eq_false_iff, Bool.and_eq_false_iff, decide_eq_false_iff_not] at this
  omega
/-- the set alone counts -/
theorem nr_set {n e : Int} {xs ys : List Int} (h : ∀ x, x ∈ xs ↔ x ∈ ys) : nr n e xs = nr n e ys := by
  cases xs with
  | nil =>
    cases ys with
    | nil => rfl
    | cons y r => have := (h y).mpr List.mem_cons_self; cases this
  | cons x r =>
    cases ys with
    | nil => have := (h x).mp List.mem_cons_self; cases this
    | cons y r2 =>
      have m1 := nr_mem (n := n) (e := e) (xs := x :: r) (by simp)
      have m2 := nr_mem (n := n) (e := e) (xs := y :: r2) (by simp)
      have a := nr_min (n := n) (e := e) ((h _).mp m1)
      have b := nr_min (n := n) (e := e) ((h _).mpr m2)
      unfold nlt at a b
      simp only [Bool.or_eq_false_iff, Bool.and_eq_false_iff, decide_eq_false_iff_not] at a b
      omega
theorem alikeB_map {α : Type} (f : α → PyData) {xs : List α} (h1 : ∀ x ∈ xs, ∀ y ∈ xs, alike (f x) (f y) = true) (h2 : ∀ x ∈ xs, isNo (f x) = false) (h3 : ∀ x ∈ xs, (f x).depth ≤ 60) : alikeB (xs.map f) = true := by
  unfold alikeB
  have a : (xs.map f).all (fun x => (xs.map f).all fun y => alike x y) = true := by
    rw [List.all_eq_true]
    intro x hx
    obtain ⟨a, ha, rfl⟩ := List.mem_map.mp hx
    rw [List.all_eq_true]
    intro y hy
    obtain ⟨b, hb, rfl⟩ := List.mem_map.mp hy
    exact h1 a ha b hb
  have b : (xs.map f).all (fun x => !isNo x) = true := by
    rw [List.all_eq_true]
    intro x hx
    obtain ⟨a, ha, rfl⟩ := List.mem_map.mp hx
    rw [h2 a ha]; rfl
  have c : PyData.depthAll (xs.map f) ≤ 60 := dep_all fun d hd => by
    obtain ⟨a, ha, rfl⟩ := List.mem_map.mp hd
    exact h3 a ha
  rw [a, b, decide_eq_true c]; rfl
theorem min1_nr {n e : Int} {xs : List Int} (h : xs ≠ []) : oMin1 (.list (xs.map (nrT n e))) = some (nrT n e (nr n e xs)) := by
  cases xs with
  | nil => exact absurd rfl h
  | cons x r =>
    have al : alikeB ((x :: r).map (nrT n e)) = true := alikeB_map (nrT n e) (fun _ _ _ _ => rfl) (fun _ _ => rfl) (fun _ _ => by show (1 : Nat) ≤ 60; omega)
    show (if alikeB (nrT n e x :: r.map (nrT n e)) = true then some (minD (nrT n e x) (r.map (nrT n e))) else none) = _
    rw [if_pos (by exact al), minD_nr]; rfl
theorem nearest_eq {p : Pl} (hb : 0 < p.1) {xs : List Int} (hx : xs ≠ []) (hl : xs.length ≤ 1000000) (e : Int) : f_nearest [dP p, .tuple (xs.map .int), .int e] = .ok (.int (nr p.1 e xs)) := by
  have hc := fun (x3 y4 : Option Wv) (S : Store) => eComp_all (it := (iAny (eVar 1))) (tg := (.nm 4)) (f := e1_nearest) (vs := [4]) (ρ := [some (.d (dP p)), some (.d (.tuple (xs.map .int))), some (.d (.int (e))), x3, y4]) (S := S) (xs := xs) (fun o => .d (.int o)) (fun o => nrT p.1 e o) (fun o => [some (.d (dP p)), some (.d (.tuple (xs.map .int))), some (.d (.int (e))), x3, some (.d (.int o))]) (by simp only [mapd, startE, rb_ok, rb_exc, rs_ok, rs_exc, s_seq, seq_nx, seq_rt, seq_bk, seq_ct, seq_exc, nxO_s, s_asg, s_par, s_par3, s_ret, s_expr, s_next, s_bk, s_ct, s_raise, s_if, ifS_t, ifS_f, ifS_exc, s_for, eVar, e_c, wOf_s, rOf_s, bOf_s, e_ix, asD_d, ob_s, om_s, e_d1, e_d2, e_dN, asDs_1, asDs_2, bvO_s, e_t, o1_s, o2_s, a_nil, a_cons, prO_ok, prO_exc, e_cp, e_cg, call_1, call_2, call_3, call_4, call_5, call_6, b_not, b_and, b_or, andB_t, andB_f, orB_t, orB_f, b_tr, truW_b, e_if, ifE_t, ifE_f, e_isN, e_notN, e_notV, notV_s, e_andV, andV_t, andV_f, e_ch, chO_t, chO_f, e_sl, o_no, o_yes, oiO_s, sl_t, sl_l, i_zip, zipI_t, zipI_l, add_ii, sub_ii, neg_i, lt_ii, le_ii, gt_ii, ge_ii, eq_ii, ne_ii, eq_ss, ne_ss, eq_bb, ne_bb, len_t, len_l, min_ii, max_ii, int_i, int_b, tup_l, tup_t, lst_l, lst_t, sum_ints, e_tup, e_lst, itO_s, i_any, itA_t, itA_l, i_r1, i_r2, bindT, bindTs, unpk_t, un_L, un_P, mkSq, allD, wipeE, LINE, List.map_cons, List.map_nil, List.length_cons, List.length_nil, List.replicate, List.cons_append, List.nil_append, Nat.sub_self, Nat.reduceSub, Nat.reduceAdd, List.getElem?_cons_zero, List.getElem?_cons_succ, List.set_cons_zero, List.set_cons_succ, reduceIte, Bool.false_eq_true, Bool.not_true, Bool.not_false, Nat.reduceLeDiff, if_true, if_false, decide_true, decide_false, e_slS, s_asgL, nxL_s, itL_l]) (by unfold LINE; omega) (fun o _ => rfl) (fun o ho => by simp only [e1_nearest, ix_P0, apart_eq hb, mod_ii hb, startE, rb_ok, rb_exc, rs_ok, rs_exc, s_seq, seq_nx, seq_rt, seq_bk, seq_ct, seq_exc, nxO_s, s_asg, s_par, s_par3, s_ret, s_expr, s_next, s_bk, s_ct, s_raise, s_if, ifS_t, ifS_f, ifS_exc, s_for, eVar, e_c, wOf_s, rOf_s, bOf_s, e_ix, asD_d, ob_s, om_s, e_d1, e_d2, e_dN, asDs_1, asDs_2, bvO_s, e_t, o1_s, o2_s, a_nil, a_cons, prO_ok, prO_exc, e_cp, e_cg, call_1, call_2, call_3, call_4, call_5, call_6, b_not, b_and, b_or, andB_t, andB_f, orB_t, orB_f, b_tr, truW_b, e_if, ifE_t, ifE_f, e_isN, e_notN, e_notV, notV_s, e_andV, andV_t, andV_f, e_ch, chO_t, chO_f, e_sl, o_no, o_yes, oiO_s, sl_t, sl_l, i_zip, zipI_t, zipI_l, add_ii, sub_ii, neg_i, lt_ii, le_ii, gt_ii, ge_ii, eq_ii, ne_ii, eq_ss, ne_ss, eq_bb, ne_bb, len_t, len_l, min_ii, max_ii, int_i, int_b, tup_l, tup_t, lst_l, lst_t, sum_ints, e_tup, e_lst, itO_s, i_any, itA_t, itA_l, i_r1, i_r2, bindT, bindTs, unpk_t, un_L, un_P, mkSq, allD, wipeE, LINE, List.map_cons, List.map_nil, List.length_cons, List.length_nil, List.replicate, List.cons_append, List.nil_append, Nat.sub_self, Nat.reduceSub, Nat.reduceAdd, List.getElem?_cons_zero, List.getElem?_cons_succ, List.set_cons_zero, List.set_cons_succ, reduceIte, Bool.false_eq_true, Bool.not_true, Bool.not_false, Nat.reduceLeDiff, if_true, if_false, decide_true, decide_false, e_slS, s_asgL, nxL_s, itL_l]; rfl)
  have mm := min1_nr (n := p.1) (e := e) hx
  have i2 : ∀ S, ixW S (.d (nrT p.1 e (nr p.1 e xs))) (.d (.int 2)) = some (.d (.int (nr p.1 e xs))) := fun _ => rfl
  refine runP_gs ?_
  simp only [startE, startE, rb_ok, rb_exc, rs_ok, rs_exc, s_seq, seq_nx, seq_rt, seq_bk, seq_ct, seq_exc, nxO_s, s_asg, s_par, s_par3, s_ret, s_expr, s_next, s_bk, s_ct, s_raise, s_if, ifS_t, ifS_f, ifS_exc, s_for, eVar, e_c, wOf_s, rOf_s, bOf_s, e_ix, asD_d, ob_s, om_s, e_d1, e_d2, e_dN, asDs_1, asDs_2, bvO_s, e_t, o1_s, o2_s, a_nil, a_cons, prO_ok, prO_exc, e_cp, e_cg, call_1, call_2, call_3, call_4, call_5, call_6, b_not, b_and, b_or, andB_t, andB_f, orB_t, orB_f, b_tr, truW_b, e_if, ifE_t, ifE_f, e_isN, e_notN, e_notV, notV_s, e_andV, andV_t, andV_f, e_ch, chO_t, chO_f, e_sl, o_no, o_yes, oiO_s, sl_t, sl_l, i_zip, zipI_t, zipI_l, add_ii, sub_ii, neg_i, lt_ii, le_ii, gt_ii, ge_ii, eq_ii, ne_ii, eq_ss, ne_ss, eq_bb, ne_bb, len_t, len_l, min_ii, max_ii, int_i, int_b, tup_l, tup_t, lst_l, lst_t, sum_ints, e_tup, e_lst, itO_s, i_any, itA_t, itA_l, i_r1, i_r2, bindT, bindTs, unpk_t, un_L, un_P, mkSq, allD, wipeE, LINE, List.map_cons, List.map_nil, List.length_cons, List.length_nil, List.replicate, List.cons_append, List.nil_append, Nat.sub_self, Nat.reduceSub, Nat.reduceAdd, List.getElem?_cons_zero, List.getElem?_cons_succ, List.set_cons_zero, List.set_cons_succ, reduceIte, Bool.false_eq_true, Bool.not_true, Bool.not_false, Nat.reduceLeDiff, if_true, if_false, decide_true, decide_false, e_slS, s_asgL, nxL_s, itL_l]
  apply step
  · simp only [hc, startE, rb_ok, rb_exc, rs_ok, rs_exc, s_seq, seq_nx, seq_rt, seq_bk, seq_ct, seq_exc, nxO_s, s_asg, s_par, s_par3, s_ret, s_expr, s_next, s_bk, s_ct, s_raise, s_if, ifS_t, ifS_f, ifS_exc, s_for, eVar, e_c, wOf_s, rOf_s, bOf_s, e_ix, asD_d, ob_s, om_s, e_d1, e_d2, e_dN, asDs_1, asDs_2, bvO_s, e_t, o1_s, o2_s, a_nil, a_cons, prO_ok, prO_exc, e_cp, e_cg, call_1, call_2, call_3, call_4, call_5, call_6, b_not, b_and, b_or, andB_t, andB_f, orB_t, orB_f, b_tr, truW_b, e_if, ifE_t, ifE_f, e_isN, e_notN, e_notV, notV_s, e_andV, andV_t, andV_f, e_ch, chO_t, chO_f, e_sl, o_no, o_yes, oiO_s, sl_t, sl_l, i_zip, zipI_t, zipI_l, add_ii, sub_ii, neg_i, lt_ii, le_ii, gt_ii, ge_ii, eq_ii, ne_ii, eq_ss, ne_ss, eq_bb, ne_bb, len_t, len_l, min_ii, max_ii, int_i, int_b, tup_l, tup_t, lst_l, lst_t, sum_ints, e_tup, e_lst, itO_s, i_any, itA_t, itA_l, i_r1, i_r2, bindT, bindTs, unpk_t, un_L, un_P, mkSq, allD, wipeE, LINE, List.map_cons, List.map_nil, List.length_cons, List.length_nil, List.replicate, List.cons_append, List.nil_append, Nat.sub_self, Nat.reduceSub, Nat.reduceAdd, List.getElem?_cons_zero, List.getElem?_cons_succ, List.set_cons_zero, List.set_cons_succ, reduceIte, Bool.false_eq_true, Bool.not_true, Bool.not_false, Nat.reduceLeDiff, if_true, if_false, decide_true, decide_false, e_slS, s_asgL, nxL_s, itL_l]
    try rfl
  have mm' : oMin1 (.list (xs.map fun o => nrT p.1 e o)) = some (nrT p.1 e (nr p.1 e xs)) := mm
  apply fin
  · simp only [mm', i2, startE, rb_ok, rb_exc, rs_ok, rs_exc, s_seq, seq_nx, seq_rt, seq_bk, seq_ct, seq_exc, nxO_s, s_asg, s_par, s_par3, s_ret, s_expr, s_next, s_bk, s_ct, s_raise, s_if, ifS_t, ifS_f, ifS_exc, s_for, eVar, e_c, wOf_s, rOf_s, bOf_s, e_ix, asD_d, ob_s, om_s, e_d1, e_d2, e_dN, asDs_1, asDs_2, bvO_s, e_t, o1_s, o2_s, a_nil, a_cons, prO_ok, prO_exc, e_cp, e_cg, call_1, call_2, call_3, call_4, call_5, call_6, b_not, b_and, b_or, andB_t, andB_f, orB_t, orB_f, b_tr, truW_b, e_if, ifE_t, ifE_f, e_isN, e_notN, e_notV, notV_s, e_andV, andV_t, andV_f, e_ch, chO_t, chO_f, e_sl, o_no, o_yes, oiO_s, sl_t, sl_l, i_zip, zipI_t, zipI_l, add_ii, sub_ii, neg_i, lt_ii, le_ii, gt_ii, ge_ii, eq_ii, ne_ii, eq_ss, ne_ss, eq_bb, ne_bb, len_t, len_l, min_ii, max_ii, int_i, int_b, tup_l, tup_t, lst_l, lst_t, sum_ints, e_tup, e_lst, itO_s, i_any, itA_t, itA_l, i_r1, i_r2, bindT, bindTs, unpk_t, un_L, un_P, mkSq, allD, wipeE, LINE, List.map_cons, List.map_nil, List.length_cons, List.length_nil, List.replicate, List.cons_append, List.nil_append, Nat.sub_self, Nat.reduceSub, Nat.reduceAdd, List.getElem?_cons_zero, List.getElem?_cons_succ, List.set_cons_zero, List.set_cons_succ, reduceIte, Bool.false_eq_true, Bool.not_true, Bool.not_false, Nat.reduceLeDiff, if_true, if_false, decide_true, decide_false, e_slS, s_asgL, nxL_s, itL_l]
    try rfl
  exact ⟨_, rfl⟩
/-! ### bent -/
def bentL (p : Pl) (xs : List Int) (l : Ln) : List Ln := match edgesOf p l with
  | none => []
  | some (a, b) => [(l.1, nr p.1 a xs, nr p.1 b xs)]
def bentP (p : Pl) (xs : List Int) : List Ln := p.2.flatMap fun l => bentL p xs l
theorem bentL_len (p : Pl) (xs : List Int) (l : Ln) : (bentL p xs l).length ≤ 1 := by unfold bentL; split <;> simp
theorem bentP_len (p : Pl) (xs : List Int) : (bentP p xs).length ≤ p.2.length := by
  have := flatMap_len (fun l => bentL p xs l) 1 (fun l => bentL_len p xs l) p.2
  unfold bentP; omega
theorem bent_eq {p : Pl} (g : Good p) {xs : List Int} (hx : xs ≠ []) (hl : xs.length ≤ 1000000) : f_bent [dP p, .tuple (xs.map .int)] = .ok (.tuple ((bentP p xs).map dL)) := by
  have hb := g.b
  have gl := g.len
  refine runP_gs ?_
  simp only [startE, startE, rb_ok, rb_exc, rs_ok, rs_exc, s_seq, seq_nx, seq_rt, seq_bk, seq_ct, seq_exc, nxO_s, s_asg, s_par, s_par3, s_ret, s_expr, s_next, s_bk, s_ct, s_raise, s_if, ifS_t, ifS_f, ifS_exc, s_for, eVar, e_c, wOf_s, rOf_s, bOf_s, e_ix, asD_d, ob_s, om_s, e_d1, e_d2, e_dN, asDs_1, asDs_2, bvO_s, e_t, o1_s, o2_s, a_nil, a_cons, prO_ok, prO_exc, e_cp, e_cg, call_1, call_2, call_3, call_4, call_5, call_6, b_not, b_and, b_or, andB_t, andB_f, orB_t, orB_f, b_tr, truW_b, e_if, ifE_t, ifE_f, e_isN, e_notN, e_notV, notV_s, e_andV, andV_t, andV_f, e_ch, chO_t, chO_f, e_sl, o_no, o_yes, oiO_s, sl_t, sl_l, i_zip, zipI_t, zipI_l, add_ii, sub_ii, neg_i, lt_ii, le_ii, gt_ii, ge_ii, eq_ii, ne_ii, eq_ss, ne_ss, eq_bb, ne_bb, len_t, len_l, min_ii, max_ii, int_i, int_b, tup_l, tup_t, lst_l, lst_t, sum_ints, e_tup, e_lst, itO_s, i_any, itA_t, itA_l, i_r1, i_r2, bindT, bindTs, unpk_t, un_L, un_P, mkSq, allD, wipeE, LINE, List.map_cons, List.map_nil, List.length_cons, List.length_nil, List.replicate, List.cons_append, List.nil_append, Nat.sub_self, Nat.reduceSub, Nat.reduceAdd, List.getElem?_cons_zero, List.getElem?_cons_succ, List.set_cons_zero, List.set_cons_succ, reduceIte, Bool.false_eq_true, Bool.not_true, Bool.not_false, Nat.reduceLeDiff, if_true, if_false, decide_true, decide_false, e_slS, s_asgL, nxL_s, itL_l]
  apply step
  · simp only [startE, rb_ok, rb_exc, rs_ok, rs_exc, s_seq, seq_nx, seq_rt, seq_bk, seq_ct, seq_exc, nxO_s, s_asg, s_par, s_par3, s_ret, s_expr, s_next, s_bk, s_ct, s_raise, s_if, ifS_t, ifS_f, ifS_exc, s_for, eVar, e_c, wOf_s, rOf_s, bOf_s, e_ix, asD_d, ob_s, om_s, e_d1, e_d2, e_dN, asDs_1, asDs_2, bvO_s, e_t, o1_s, o2_s, a_nil, a_cons, prO_ok, prO_exc, e_cp, e_cg, call_1, call_2, call_3, call_4, call_5, call_6, b_not, b_and, b_or, andB_t, andB_f, orB_t, orB_f, b_tr, truW_b, e_if, ifE_t, ifE_f, e_isN, e_notN, e_notV, notV_s, e_andV, andV_t, andV_f, e_ch, chO_t, chO_f, e_sl, o_no, o_yes, oiO_s, sl_t, sl_l, i_zip, zipI_t, zipI_l, add_ii, sub_ii, neg_i, lt_ii, le_ii, gt_ii, ge_ii, eq_ii, ne_ii, eq_ss, ne_ss, eq_bb, ne_bb, len_t, len_l, min_ii, max_ii, int_i, int_b, tup_l, tup_t, lst_l, lst_t, sum_ints, e_tup, e_lst, itO_s, i_any, itA_t, itA_l, i_r1, i_r2, bindT, bindTs, unpk_t, un_L, un_P, mkSq, allD, wipeE, LINE, List.map_cons, List.map_nil, List.length_cons, List.length_nil, List.replicate, List.cons_append, List.nil_append, Nat.sub_self, Nat.reduceSub, Nat.reduceAdd, List.getElem?_cons_zero, List.getElem?_cons_succ, List.set_cons_zero, List.set_cons_succ, reduceIte, Bool.false_eq_true, Bool.not_true, Bool.not_false, Nat.reduceLeDiff, if_true, if_false, decide_true, decide_false, e_slS, s_asgL, nxL_s, itL_l]
    try rfl
  refine for_step p.2 (fun l => .d (dL l)) (fun i ρ S => (∃ f : Nat → Option Wv, ρ = [some (.d (dP p)), some (.d (.tuple (xs.map .int))), some (.d (.tuple (((p.2.take i).flatMap fun l => bentL p xs l).map dL))), f 3, f 4]) ∧ S = []) (S' := []) ?_ ⟨slots rfl, rfl⟩ ?_ ?_
  · simp only [ix_P1, mapLd, startE, rb_ok, rb_exc, rs_ok, rs_exc, s_seq, seq_nx, seq_rt, seq_bk, seq_ct, seq_exc, nxO_s, s_asg, s_par, s_par3, s_ret, s_expr, s_next, s_bk, s_ct, s_raise, s_if, ifS_t, ifS_f, ifS_exc, s_for, eVar, e_c, wOf_s, rOf_s, bOf_s, e_ix, asD_d, ob_s, om_s, e_d1, e_d2, e_dN, asDs_1, asDs_2, bvO_s, e_t, o1_s, o2_s, a_nil, a_cons, prO_ok, prO_exc, e_cp, e_cg, call_1, call_2, call_3, call_4, call_5, call_6, b_not, b_and, b_or, andB_t, andB_f, orB_t, orB_f, b_tr, truW_b, e_if, ifE_t, ifE_f, e_isN, e_notN, e_notV, notV_s, e_andV, andV_t, andV_f, e_ch, chO_t, chO_f, e_sl, o_no, o_yes, oiO_s, sl_t, sl_l, i_zip, zipI_t, zipI_l, add_ii, sub_ii, neg_i, lt_ii, le_ii, gt_ii, ge_ii, eq_ii, ne_ii, eq_ss, ne_ss, eq_bb, ne_bb, len_t, len_l, min_ii, max_ii, int_i, int_b, tup_l, tup_t, lst_l, lst_t, sum_ints, e_tup, e_lst, itO_s, i_any, itA_t, itA_l, i_r1, i_r2, bindT, bindTs, unpk_t, un_L, un_P, mkSq, allD, wipeE, LINE, List.map_cons, List.map_nil, List.length_cons, List.length_nil, List.replicate, List.cons_append, List.nil_append, Nat.sub_self, Nat.reduceSub, Nat.reduceAdd, List.getElem?_cons_zero, List.getElem?_cons_succ, List.set_cons_zero, List.set_cons_succ, reduceIte, Bool.false_eq_true, Bool.not_true, Bool.not_false, Nat.reduceLeDiff, if_true, if_false, decide_true, decide_false, e_slS, s_asgL, nxL_s, itL_l]
  · rintro i l hi ρ S ⟨⟨f, rfl⟩, rfl⟩
    have hm : l ∈ p.2 := List.mem_of_getElem? hi
    refine ⟨_, rfl, ?_⟩
    have tk : p.2.take (i + 1) = p.2.take i ++ [l] := by rw [List.take_add_one, hi]; rfl
    have le := line_edges_eq hb.1 (g.line hm)
    have h1 := flatMap_len (fun l => bentL p xs l) 1 (fun l => bentL_len p xs l) (p.2.take i)
    rw [List.length_take] at h1
    cases e : edgesOf p l with
    | none =>
      have ez : bentL p xs l = [] := by unfold bentL; rw [e]
      rw [e] at le
      apply step
      · simp only [ix_L0, le, startE, rb_ok, rb_exc, rs_ok, rs_exc, s_seq, seq_nx, seq_rt, seq_bk, seq_ct, seq_exc, nxO_s, s_asg, s_par, s_par3, s_ret, s_expr, s_next, s_bk, s_ct, s_raise, s_if, ifS_t, ifS_f, ifS_exc, s_for, eVar, e_c, wOf_s, rOf_s, bOf_s, e_ix, asD_d, ob_s, om_s, e_d1, e_d2, e_dN, asDs_1, asDs_2, bvO_s, e_t, o1_s, o2_s, a_nil, a_cons, prO_ok, prO_exc, e_cp, e_cg, call_1, call_2, call_3, call_4, call_5, call_6, b_not, b_and, b_or, andB_t, andB_f, orB_t, orB_f, b_tr, truW_b, e_if, ifE_t, ifE_f, e_isN, e_notN, e_notV, notV_s, e_andV, andV_t, andV_f, e_ch, chO_t, chO_f, e_sl, o_no, o_yes, oiO_s, sl_t, sl_l, i_zip, zipI_t, zipI_l, add_ii, sub_ii, neg_i, lt_ii, le_ii, gt_ii, ge_ii, eq_ii, ne_ii, eq_ss, ne_ss, eq_bb, ne_bb, len_t, len_l, min_ii, max_ii, int_i, int_b, tup_l, tup_t, lst_l, lst_t, sum_ints, e_tup, e_lst, itO_s, i_any, itA_t, itA_l, i_r1, i_r2, bindT, bindTs, unpk_t, un_L, un_P, mkSq, allD, wipeE, LINE, List.map_cons, List.map_nil, List.length_cons, List.length_nil, List.replicate, List.cons_append, List.nil_append, Nat.sub_self, Nat.reduceSub, Nat.reduceAdd, List.getElem?_cons_zero, List.getElem?_cons_succ, List.set_cons_zero, List.set_cons_succ, reduceIte, Bool.false_eq_true, Bool.not_true, Bool.not_false, Nat.reduceLeDiff, if_true, if_false, decide_true, decide_false, e_slS, s_asgL, nxL_s, itL_l]
        try rfl
      apply fin
      · simp only [edgesD, isNW, startE, rb_ok, rb_exc, rs_ok, rs_exc, s_seq, seq_nx, seq_rt, seq_bk, seq_ct, seq_exc, nxO_s, s_asg, s_par, s_par3, s_ret, s_expr, s_next, s_bk, s_ct, s_raise, s_if, ifS_t, ifS_f, ifS_exc, s_for, eVar, e_c, wOf_s, rOf_s, bOf_s, e_ix, asD_d, ob_s, om_s, e_d1, e_d2, e_dN, asDs_1, asDs_2, bvO_s, e_t, o1_s, o2_s, a_nil, a_cons, prO_ok, prO_exc, e_cp, e_cg, call_1, call_2, call_3, call_4, call_5, call_6, b_not, b_and, b_or, andB_t, andB_f, orB_t, orB_f, b_tr, truW_b, e_if, ifE_t, ifE_f, e_isN, e_notN, e_notV, notV_s, e_andV, andV_t, andV_f, e_ch, chO_t, chO_f, e_sl, o_no, o_yes, oiO_s, sl_t, sl_l, i_zip, zipI_t, zipI_l, add_ii, sub_ii, neg_i, lt_ii, le_ii, gt_ii, ge_ii, eq_ii, ne_ii, eq_ss, ne_ss, eq_bb, ne_bb, len_t, len_l, min_ii, max_ii, int_i, int_b, tup_l, tup_t, lst_l, lst_t, sum_ints, e_tup, e_lst, itO_s, i_any, itA_t, itA_l, i_r1, i_r2, bindT, bindTs, unpk_t, un_L, un_P, mkSq, allD, wipeE, LINE, List.map_cons, List.map_nil, List.length_cons, List.length_nil, List.replicate, List.cons_append, List.nil_append, Nat.sub_self, Nat.reduceSub, Nat.reduceAdd, List.getElem?_cons_zero, List.getElem?_cons_succ, List.set_cons_zero, List.set_cons_succ, reduceIte, Bool.false_eq_true, Bool.not_true, Bool.not_false, Nat.reduceLeDiff, if_true, if_false, decide_true, decide_false, e_slS, s_asgL, nxL_s, itL_l]
        try rfl
      exact ⟨_, _, rfl, slots (by rw [tk, List.flatMap_append, List.flatMap_cons, ez]; simp only [List.flatMap_nil, List.append_nil]; rfl), rfl⟩
    | some q =>
      obtain ⟨x, y⟩ := q
      have ez : bentL p xs l = [(l.1, nr p.1 x xs, nr p.1 y xs)] := by unfold bentL; rw [e]
      rw [e] at le
      have i1 : ∀ S, ixW S (.d (.tuple [.int x, .int y])) (.d (.int 1)) = some (.d (.int y)) := fun _ => rfl
      apply step
      · simp only [ix_L0, le, startE, rb_ok, rb_exc, rs_ok, rs_exc, s_seq, seq_nx, seq_rt, seq_bk, seq_ct, seq_exc, nxO_s, s_asg, s_par, s_par3, s_ret, s_expr, s_next, s_bk, s_ct, s_raise, s_if, ifS_t, ifS_f, ifS_exc, s_for, eVar, e_c, wOf_s, rOf_s, bOf_s, e_ix, asD_d, ob_s, om_s, e_d1, e_d2, e_dN, asDs_1, asDs_2, bvO_s, e_t, o1_s, o2_s, a_nil, a_cons, prO_ok, prO_exc, e_cp, e_cg, call_1, call_2, call_3, call_4, call_5, call_6, b_not, b_and, b_or, andB_t, andB_f, orB_t, orB_f, b_tr, truW_b, e_if, ifE_t, ifE_f, e_isN, e_notN, e_notV, notV_s, e_andV, andV_t, andV_f, e_ch, chO_t, chO_f, e_sl, o_no, o_yes, oiO_s, sl_t, sl_l, i_zip, zipI_t, zipI_l, add_ii, sub_ii, neg_i, lt_ii, le_ii, gt_ii, ge_ii, eq_ii, ne_ii, eq_ss, ne_ss, eq_bb, ne_bb, len_t, len_l, min_ii, max_ii, int_i, int_b, tup_l, tup_t, lst_l, lst_t, sum_ints, e_tup, e_lst, itO_s, i_any, itA_t, itA_l, i_r1, i_r2, bindT, bindTs, unpk_t, un_L, un_P, mkSq, allD, wipeE, LINE, List.map_cons, List.map_nil, List.length_cons, List.length_nil, List.replicate, List.cons_append, List.nil_append, Nat.sub_self, Nat.reduceSub, Nat.reduceAdd, List.getElem?_cons_zero, List.getElem?_cons_succ, List.set_cons_zero, List.set_cons_succ, reduceIte, Bool.false_eq_true, Bool.not_true, Bool.not_false, Nat.reduceLeDiff, if_true, if_false, decide_true, decide_false, e_slS, s_asgL, nxL_s, itL_l]
        try rfl
      apply fin
      · simp only [edgesD, isNW, ix_L0, ix_head, i1, nearest_eq hb.1 hx hl, startE, rb_ok, rb_exc, rs_ok, rs_exc, s_seq, seq_nx, seq_rt, seq_bk, seq_ct, seq_exc, nxO_s, s_asg, s_par, s_par3, s_ret, s_expr, s_next, s_bk, s_ct, s_raise, s_if, ifS_t, ifS_f, ifS_exc, s_for, eVar, e_c, wOf_s, rOf_s, bOf_s, e_ix, asD_d, ob_s, om_s, e_d1, e_d2, e_dN, asDs_1, asDs_2, bvO_s, e_t, o1_s, o2_s, a_nil, a_cons, prO_ok, prO_exc, e_cp, e_cg, call_1, call_2, call_3, call_4, call_5, call_6, b_not, b_and, b_or, andB_t, andB_f, orB_t, orB_f, b_tr, truW_b, e_if, ifE_t, ifE_f, e_isN, e_notN, e_notV, notV_s, e_andV, andV_t, andV_f, e_ch, chO_t, chO_f, e_sl, o_no, o_yes, oiO_s, sl_t, sl_l, i_zip, zipI_t, zipI_l, add_ii, sub_ii, neg_i, lt_ii, le_ii, gt_ii, ge_ii, eq_ii, ne_ii, eq_ss, ne_ss, eq_bb, ne_bb, len_t, len_l, min_ii, max_ii, int_i, int_b, tup_l, tup_t, lst_l, lst_t, sum_ints, e_tup, e_lst, itO_s, i_any, itA_t, itA_l, i_r1, i_r2, bindT, bindTs, unpk_t, un_L, un_P, mkSq, allD, wipeE, LINE, List.map_cons, List.map_nil, List.length_cons, List.length_nil, List.replicate, List.cons_append, List.nil_append, Nat.sub_self, Nat.reduceSub, Nat.reduceAdd, List.getElem?_cons_zero, List.getElem?_cons_succ, List.set_cons_zero, List.set_cons_succ, reduceIte, Bool.false_eq_true, Bool.not_true, Bool.not_false, Nat.reduceLeDiff, if_true, if_false, decide_true, decide_false, e_slS, s_asgL, nxL_s, itL_l]
        rw [add_tt (by rw [List.length_map]; show _ + 1 ≤ _; omega)]
      · exact ⟨_, _, rfl, slots (by rw [tk, List.flatMap_append, List.map_append, List.flatMap_cons, ez]; rfl), rfl⟩
  · rintro ρ S ⟨⟨f, rfl⟩, rfl⟩
    rw [List.take_length]
    apply fin
    · simp only [startE, rb_ok, rb_exc, rs_ok, rs_exc, s_seq, seq_nx, seq_rt, seq_bk, seq_ct, seq_exc, nxO_s, s_asg, s_par, s_par3, s_ret, s_expr, s_next, s_bk, s_ct, s_raise, s_if, ifS_t, ifS_f, ifS_exc, s_for, eVar, e_c, wOf_s, rOf_s, bOf_s, e_ix, asD_d, ob_s, om_s, e_d1, e_d2, e_dN, asDs_1, asDs_2, bvO_s, e_t, o1_s, o2_s, a_nil, a_cons, prO_ok, prO_exc, e_cp, e_cg, call_1, call_2, call_3, call_4, call_5, call_6, b_not, b_and, b_or, andB_t, andB_f, orB_t, orB_f, b_tr, truW_b, e_if, ifE_t, ifE_f, e_isN, e_notN, e_notV, notV_s, e_andV, andV_t, andV_f, e_ch, chO_t, chO_f, e_sl, o_no, o_yes, oiO_s, sl_t, sl_l, i_zip, zipI_t, zipI_l, add_ii, sub_ii, neg_i, lt_ii, le_ii, gt_ii, ge_ii, eq_ii, ne_ii, eq_ss, ne_ss, eq_bb, ne_bb, len_t, len_l, min_ii, max_ii, int_i, int_b, tup_l, tup_t, lst_l, lst_t, sum_ints, e_tup, e_lst, itO_s, i_any, itA_t, itA_l, i_r1, i_r2, bindT, bindTs, unpk_t, un_L, un_P, mkSq, allD, wipeE, LINE, List.map_cons, List.map_nil, List.length_cons, List.length_nil, List.replicate, List.cons_append, List.nil_append, Nat.sub_self, Nat.reduceSub, Nat.reduceAdd, List.getElem?_cons_zero, List.getElem?_cons_succ, List.set_cons_zero, List.set_cons_succ, reduceIte, Bool.false_eq_true, Bool.not_true, Bool.not_false, Nat.reduceLeDiff, if_true, if_false, decide_true, decide_false, e_slS, s_asgL, nxL_s, itL_l]
      try rfl
    exact ⟨_, rfl⟩
def lostP (p : Pl) (xs : List Int) : List Str := ((bentP p xs).filter fun r => decide (r.2.1 = r.2.2)).map (·.1)
theorem lost_eq {p : Pl} (g : Good p) {xs : List Int} (hx : xs ≠ []) (hl : xs.length ≤ 1000000) : f_lost [dP p, .tuple (xs.map .int)] = .ok (.tuple ((lostP p xs).map .str)) := by
  have bl := bentP_len p xs
  have gl := g.len
  have hc := fun (y2 y3 y4 : Option Wv) (S : Store) => eComp_eq (it := (iAny (eCallP f_bent (aCons (eVar 0) (aCons (eVar 1) aNil))))) (tg := (.tp [(.nm 2), (.nm 3), (.nm 4)])) (t := t1_lost) (f := e1_lost) (vs := [2, 3, 4]) (ρ := [some (.d (dP p)), some (.d (.tuple (xs.map .int))), y2, y3, y4]) (S := S) (xs := bentP p xs) (fun r => .d (dL r)) (fun r => decide (r.2.1 = r.2.2)) (fun r => .str r.1) (fun r => [some (.d (dP p)), some (.d (.tuple (xs.map .int))), some (.d (.str (r.1))), some (.d (.int (r.2.1))), some (.d (.int (r.2.2)))]) (by simp only [bent_eq g hx hl, mapd, startE, rb_ok, rb_exc, rs_ok, rs_exc, s_seq, seq_nx, seq_rt, seq_bk, seq_ct, seq_exc, nxO_s, s_asg, s_par, s_par3, s_ret, s_expr, s_next, s_bk, s_ct, s_raise, s_if, ifS_t, ifS_f, ifS_exc, s_for, eVar, e_c, wOf_s, rOf_s, bOf_s, e_ix, asD_d, ob_s, om_s, e_d1, e_d2, e_dN, asDs_1, asDs_2, bvO_s, e_t, o1_s, o2_s, a_nil, a_cons, prO_ok, prO_exc, e_cp, e_cg, call_1, call_2, call_3, call_4, call_5, call_6, b_not, b_and, b_or, andB_t, andB_f, orB_t, orB_f, b_tr, truW_b, e_if, ifE_t, ifE_f, e_isN, e_notN, e_notV, notV_s, e_andV, andV_t, andV_f, e_ch, chO_t, chO_f, e_sl, o_no, o_yes, oiO_s, sl_t, sl_l, i_zip, zipI_t, zipI_l, add_ii, sub_ii, neg_i, lt_ii, le_ii, gt_ii, ge_ii, eq_ii, ne_ii, eq_ss, ne_ss, eq_bb, ne_bb, len_t, len_l, min_ii, max_ii, int_i, int_b, tup_l, tup_t, lst_l, lst_t, sum_ints, e_tup, e_lst, itO_s, i_any, itA_t, itA_l, i_r1, i_r2, bindT, bindTs, unpk_t, un_L, un_P, mkSq, allD, wipeE, LINE, List.map_cons, List.map_nil, List.length_cons, List.length_nil, List.replicate, List.cons_append, List.nil_append, Nat.sub_self, Nat.reduceSub, Nat.reduceAdd, List.getElem?_cons_zero, List.getElem?_cons_succ, List.set_cons_zero, List.set_cons_succ, reduceIte, Bool.false_eq_true, Bool.not_true, Bool.not_false, Nat.reduceLeDiff, if_true, if_false, decide_true, decide_false, e_slS, s_asgL, nxL_s, itL_l]) (by unfold LINE; omega) (fun r _ => rfl) (fun r hr => by simp only [t1_lost, startE, rb_ok, rb_exc, rs_ok, rs_exc, s_seq, seq_nx, seq_rt, seq_bk, seq_ct, seq_exc, nxO_s, s_asg, s_par, s_par3, s_ret, s_expr, s_next, s_bk, s_ct, s_raise, s_if, ifS_t, ifS_f, ifS_exc, s_for, eVar, e_c, wOf_s, rOf_s, bOf_s, e_ix, asD_d, ob_s, om_s, e_d1, e_d2, e_dN, asDs_1, asDs_2, bvO_s, e_t, o1_s, o2_s, a_nil, a_cons, prO_ok, prO_exc, e_cp, e_cg, call_1, call_2, call_3, call_4, call_5, call_6, b_not, b_and, b_or, andB_t, andB_f, orB_t, orB_f, b_tr, truW_b, e_if, ifE_t, ifE_f, e_isN, e_notN, e_notV, notV_s, e_andV, andV_t, andV_f, e_ch, chO_t, chO_f, e_sl, o_no, o_yes, oiO_s, sl_t, sl_l, i_zip, zipI_t, zipI_l, add_ii, sub_ii, neg_i, lt_ii, le_ii, gt_ii, ge_ii, eq_ii, ne_ii, eq_ss, ne_ss, eq_bb, ne_bb, len_t, len_l, min_ii, max_ii, int_i, int_b, tup_l, tup_t, lst_l, lst_t, sum_ints, e_tup, e_lst, itO_s, i_any, itA_t, itA_l, i_r1, i_r2, bindT, bindTs, unpk_t, un_L, un_P, mkSq, allD, wipeE, LINE, List.map_cons, List.map_nil, List.length_cons, List.length_nil, List.replicate, List.cons_append, List.nil_append, Nat.sub_self, Nat.reduceSub, Nat.reduceAdd, List.getElem?_cons_zero, List.getElem?_cons_succ, List.set_cons_zero, List.set_cons_succ, reduceIte, Bool.false_eq_true, Bool.not_true, Bool.not_false, Nat.reduceLeDiff, if_true, if_false, decide_true, decide_false, e_slS, s_asgL, nxL_s, itL_l]) (fun r hr _ => by simp only [e1_lost, startE, rb_ok, rb_exc, rs_ok, rs_exc, s_seq, seq_nx, seq_rt, seq_bk, seq_ct, seq_exc, nxO_s, s_asg, s_par, s_par3, s_ret, s_expr, s_next, s_bk, s_ct, s_raise, s_if, ifS_t, ifS_f, ifS_exc, s_for, eVar, e_c, wOf_s, rOf_s, bOf_s, e_ix, asD_d, ob_s, om_s, e_d1, e_d2, e_dN, asDs_1, asDs_2, bvO_s, e_t, o1_s, o2_s, a_nil, a_cons, prO_ok, prO_exc, e_cp, e_cg, call_1, call_2, call_3, call_4, call_5, call_6, b_not, b_and, b_or, andB_t, andB_f, orB_t, orB_f, b_tr, truW_b, e_if, ifE_t, ifE_f, e_isN, e_notN, e_notV, notV_s, e_andV, andV_t, andV_f, e_ch, chO_t, chO_f, e_sl, o_no, o_yes, oiO_s, sl_t, sl_l, i_zip, zipI_t, zipI_l, add_ii, sub_ii, neg_i, lt_ii, le_ii, gt_ii, ge_ii, eq_ii, ne_ii, eq_ss, ne_ss, eq_bb, ne_bb, len_t, len_l, min_ii, max_ii, int_i, int_b, tup_l, tup_t, lst_l, lst_t, sum_ints, e_tup, e_lst, itO_s, i_any, itA_t, itA_l, i_r1, i_r2, bindT, bindTs, unpk_t, un_L, un_P, mkSq, allD, wipeE, LINE, List.map_cons, List.map_nil, List.length_cons, List.length_nil, List.replicate, List.cons_append, List.nil_append, Nat.sub_self, Nat.reduceSub, Nat.reduceAdd, List.getElem?_cons_zero, List.getElem?_cons_succ, List.set_cons_zero, List.set_cons_succ, reduceIte, Bool.false_eq_true, Bool.not_true, Bool.not_false, Nat.reduceLeDiff, if_true, if_false, decide_true, decide_false, e_slS, s_asgL, nxL_s, itL_l])
  refine runP_gs ?_
  simp only [startE, startE, rb_ok, rb_exc, rs_ok, rs_exc, s_seq, seq_nx, seq_rt, seq_bk, seq_ct, seq_exc, nxO_s, s_asg, s_par, s_par3, s_ret, s_expr, s_next, s_bk, s_ct, s_raise, s_if, ifS_t, ifS_f, ifS_exc, s_for, eVar, e_c, wOf_s, rOf_s, bOf_s, e_ix, asD_d, ob_s, om_s, e_d1, e_d2, e_dN, asDs_1, asDs_2, bvO_s, e_t, o1_s, o2_s, a_nil, a_cons, prO_ok, prO_exc, e_cp, e_cg, call_1, call_2, call_3, call_4, call_5, call_6, b_not, b_and, b_or, andB_t, andB_f, orB_t, orB_f, b_tr, truW_b, e_if, ifE_t, ifE_f, e_isN, e_notN, e_notV, notV_s, e_andV, andV_t, andV_f, e_ch, chO_t, chO_f, e_sl, o_no, o_yes, oiO_s, sl_t, sl_l, i_zip, zipI_t, zipI_l, add_ii, sub_ii, neg_i, lt_ii, le_ii, gt_ii, ge_ii, eq_ii, ne_ii, eq_ss, ne_ss, eq_bb, ne_bb, len_t, len_l, min_ii, max_ii, int_i, int_b, tup_l, tup_t, lst_l, lst_t, sum_ints, e_tup, e_lst, itO_s, i_any, itA_t, itA_l, i_r1, i_r2, bindT, bindTs, unpk_t, un_L, un_P, mkSq, allD, wipeE, LINE, List.map_cons, List.map_nil, List.length_cons, List.length_nil, List.replicate, List.cons_append, List.nil_append, Nat.sub_self, Nat.reduceSub, Nat.reduceAdd, List.getElem?_cons_zero, List.getElem?_cons_succ, List.set_cons_zero, List.set_cons_succ, reduceIte, Bool.false_eq_true, Bool.not_true, Bool.not_false, Nat.reduceLeDiff, if_true, if_false, decide_true, decide_false, e_slS, s_asgL, nxL_s, itL_l]
  apply fin
  · simp only [b_lost, hc, startE, rb_ok, rb_exc, rs_ok, rs_exc, s_seq, seq_nx, seq_rt, seq_bk, seq_ct, seq_exc, nxO_s, s_asg, s_par, s_par3, s_ret, s_expr, s_next, s_bk, s_ct, s_raise, s_if, ifS_t, ifS_f, ifS_exc, s_for, eVar, e_c, wOf_s, rOf_s, bOf_s, e_ix, asD_d, ob_s, om_s, e_d1, e_d2, e_dN, asDs_1, asDs_2, bvO_s, e_t, o1_s, o2_s, a_nil, a_cons, prO_ok, prO_exc, e_cp, e_cg, call_1, call_2, call_3, call_4, call_5, call_6, b_not, b_and, b_or, andB_t, andB_f, orB_t, orB_f, b_tr, truW_b, e_if, ifE_t, ifE_f, e_isN, e_notN, e_notV, notV_s, e_andV, andV_t, andV_f, e_ch, chO_t, chO_f, e_sl, o_no, o_yes, oiO_s, sl_t, sl_l, i_zip, zipI_t, zipI_l, add_ii, sub_ii, neg_i, lt_ii, le_ii, gt_ii, ge_ii, eq_ii, ne_ii, eq_ss, ne_ss, eq_bb, ne_bb, len_t, len_l, min_ii, max_ii, int_i, int_b, tup_l, tup_t, lst_l, lst_t, sum_ints, e_tup, e_lst, itO_s, i_any, itA_t, itA_l, i_r1, i_r2, bindT, bindTs, unpk_t, un_L, un_P, mkSq, allD, wipeE, LINE, List.map_cons, List.map_nil, List.length_cons, List.length_nil, List.replicate, List.cons_append, List.nil_append, Nat.sub_self, Nat.reduceSub, Nat.reduceAdd, List.getElem?_cons_zero, List.getElem?_cons_succ, List.set_cons_zero, List.set_cons_succ, reduceIte, Bool.false_eq_true, Bool.not_true, Bool.not_false, Nat.reduceLeDiff, if_true, if_false, decide_true, decide_false, e_slS, s_asgL, nxL_s, itL_l]
    try rfl
  exact ⟨_, by unfold lostP; rw [List.map_map]; rfl⟩
end PL

/-! # PL, part g: chains of wakings -/
namespace PL
open PySem PySem.Spec PyProof.Rows L2 PySem.SeqAt PySem.W
theorem e_app {f : Ef} {g : Lf} {ρ : En} {S S1 : Store} {k : Nat} {l : List Wv} {w : Wv} (h1 : f ρ S = .ok (.o k) S) (h2 : S[k]? = some (.lst l)) (h3 : g ρ S = .ok [w] S1) (h4 : S1[k]? = some (.lst l)) (hz : l.length < LINE) :
    eApp f g ρ S = .ok (.d .none) (S1.set k (.lst (l ++ [w]))) := by
  have a : lstAt S (.o k) = some (k, l) := by unfold lstAt; dsimp only; rw [h2]
  have b : lstAt S1 (.o k) = some (k, l) := by unfold lstAt; dsimp only; rw [h4]
  unfold eApp
  rw [h1]
  show (match lstAt S (.o k) with | none => Res.bad | some _ => (g ρ S).bind fun ws S2 => appW (.o k) ws S2) = _
  rw [a, h3]
  show appW (.o k) [w] S1 = _
  unfold appW
  dsimp only
  rw [b]
  dsimp only
  rw [if_pos hz]
/-! ### while -/
theorem whileS_go {t : Bf} {body : Sf} {Q : SRes → Prop} (I : Nat → En → Store → Prop)
    (hs : ∀ k ρ S, I k ρ S → (∃ S1, t ρ S = .ok false S1 ∧ Q (.nx ρ S1)) ∨ ∃ S1 ρ' S' k', t ρ S = .ok true S1 ∧ body ρ S1 = .nx ρ' S' ∧ k' < k ∧ I k' ρ' S') :
    ∀ (n k : Nat) (ρ : En) (S : Store), k < n → I k ρ S → Q (whileS t body n ρ S)
  | 0, _, _, _, h, _ => absurd h (by omega)
  | n + 1, k, ρ, S, h, i => by
    rcases hs k ρ S i with ⟨S1, e, q⟩ | ⟨S1, ρ', S', k', e, b, hk, i'⟩
    · unfold whileS; rw [e]; exact q
    · unfold whileS; rw [e]
      simp only [rs_ok, if_pos, b]
      exact whileS_go I hs n k' ρ' S' (by omega) i'
theorem while_go {fuel : En → Store → Nat} {t : Bf} {body : Sf} {ρ : En} {S : Store} {Q : SRes → Prop} (I : Nat → En → Store → Prop) (k : Nat) (hk : k < fuel ρ S) (h0 : I k ρ S)
    (hs : ∀ k ρ S, I k ρ S → (∃ S1, t ρ S = .ok false S1 ∧ Q (.nx ρ S1)) ∨ ∃ S1 ρ' S' k', t ρ S = .ok true S1 ∧ body ρ S1 = .nx ρ' S' ∧ k' < k ∧ I k' ρ' S') : Gs (sWhile fuel t body) ρ S Q := by
  unfold Gs sWhile
  exact whileS_go I hs _ k ρ S hk h0
/-! ### numbers, sorted -/
def si (xs : List Int) : List Int := xs.mergeSort fun a b => decide (a ≤ b)
theorem si_perm (xs : List Int) : (si xs).Perm xs := List.mergeSort_perm _ _
theorem si_len (xs : List Int) : (si xs).length = xs.length := (si_perm xs).length_eq
theorem mem_si {xs : List Int} {x : Int} : x ∈ si xs ↔ x ∈ xs := (si_perm xs).mem_iff
theorem srt_si (xs : List Int) : srt (xs.map .int) = (si xs).map .int := by
  refine (List.map_mergeSort (r := fun a b => decide (a ≤ b)) (s := dle) (f := PyData.int) (l := xs) fun a _ b _ => ?_).symm
  rw [dle_eq, dlt_int]
  by_cases h : a ≤ b
  · rw [decide_eq_true h, decide_eq_false (by omega)]; rfl
  · rw [decide_eq_false h, decide_eq_true (by omega)]; rfl
theorem sortB_ints {xs : List Int} (h : xs.length ≤ LINE) : sortB (xs.map .int) = true := sortB_flat PyData.int (fun _ _ _ _ => rfl) (fun _ _ => rfl) (fun _ _ => by show (0 : Nat) ≤ 60; omega) h
theorem srt_intsL {xs : List Int} (h : xs.length ≤ LINE) : oSrt (.list (xs.map .int)) = some (.list ((si xs).map .int)) := by rw [srt_l (sortB_ints h), srt_si]
theorem srt_intsT {xs : List Int} (h : xs.length ≤ LINE) : oSrt (.tuple (xs.map .int)) = some (.list ((si xs).map .int)) := by rw [srt_t (sortB_ints h), srt_si]
theorem map_int_inj : ∀ {xs ys : List Int}, xs.map PyData.int = ys.map PyData.int → xs = ys
  | [], [], _ => rfl
  | [], _ :: _, h => by cases h
  | _ :: _, [], h => by cases h
  | x :: xs, y :: ys, h => by
    rw [List.map_cons, List.map_cons] at h
    cases List.cons.inj h with
    | intro h1 h2 => cases h1; rw [map_int_inj h2]
theorem si_of {xs ys : List Int} (h : ys.Pairwise (· < ·)) (p : xs.Perm ys) : si xs = ys := by
  have := srt_of (p.map PyData.int) ((List.pairwise_map).mpr (h.imp fun h => ah_int h))
  rw [srt_si] at this
  exact map_int_inj this
theorem up_nodup {xs : List Int} (h : xs.Pairwise (· < ·)) : xs.Nodup := h.imp fun h => by omega
/-! ### the chain -/
def offs (p : Pl) (f s : Int) : List Int := (rng (s + 1) (p.1 - s)).filter fun d => decide ((f + d) % p.1 ∈ wk p)
def gz (s : Int) : Int → List Int → List Int
  | _, [] => []
  | d, x :: r => if d < x then (x + s) :: gz s (x + s + s) r else gz s d r
def chL (p : Pl) (f s : Int) : List Int := f :: (gz s s (offs p f s)).map fun y => (f + y) % p.1
def chP (p : Pl) (f s : Int) : List Int := si (chL p f s)
theorem offs_up (p : Pl) (f s : Int) : (offs p f s).Pairwise (· < ·) := List.Pairwise.sublist List.filter_sublist (rng_up _ _)
theorem mem_offs {p : Pl} {f s d : Int} : d ∈ offs p f s ↔ (s < d ∧ d < p.1 - s) ∧ (f + d) % p.1 ∈ wk p := by
  unfold offs
  rw [List.mem_filter, decide_eq_true_eq]
  constructor
  · rintro ⟨h1, h2⟩
    have := rng_mem h1
    exact ⟨by omega, h2⟩
  · rintro ⟨h1, h2⟩
    exact ⟨mem_rng (by omega) (by omega), h2⟩
theorem gz_filter (s : Int) (hs : 0 ≤ s) : ∀ (xs : List Int) (d e : Int), e ≤ d → gz s d (xs.filter fun x => decide (e < x)) = gz s d xs
  | [], _, _, _ => rfl
  | x :: r, d, e, h => by
    rw [List.filter_cons]
    by_cases h1 : e < x
    · rw [decide_eq_true h1, if_pos rfl]
      unfold gz
      split
      · rw [gz_filter s hs r _ e (by omega)]
      · rw [gz_filter s hs r d e h]
    · rw [decide_eq_false h1, if_neg Bool.false_ne_true, gz_filter s hs r d e h]
      show _ = gz s d (x :: r)
      rw [gz, if_neg (by omega)]
theorem gz_len (s : Int) : ∀ (xs : List Int) (d : Int), (gz s d xs).length ≤ xs.length
  | [], _ => Nat.le_refl _
  | x :: r, d => by
    unfold gz
    split
    · have := gz_len s r (x + s + s); simp only [List.length_cons]; omega
    · have := gz_len s r d; simp only [List.length_cons]; omega
theorem offs_len {p : Pl} (g : Good p) {f s : Int} (s0 : 0 ≤ s) : (offs p f s).length < 100000 := by
  have hb := g.b
  have := List.length_filter_le (fun d => decide ((f + d) % p.1 ∈ wk p)) (rng (s + 1) (p.1 - s))
  rw [rng_len] at this
  unfold offs
  omega
theorem wk_rng {p : Pl} {e : Int} (h : e ∈ wk p) : 0 ≤ e ∧ e < p.1 := (mem_wk.mp h).1
/-- d beats on, from a beat of the round -/
theorem on_by {n f d : Int} (f0 : 0 ≤ f) (f1 : f < n) (d0 : 0 ≤ d) (d1 : d < n) : (f + d) % n = if f + d < n then f + d else f + d - n := by
  split
  · exact Int.emod_eq_of_lt (by omega) (by omega)
  · rw [← Int.sub_emod_right]; exact Int.emod_eq_of_lt (by omega) (by omega)
theorem ap_off {n f d : Int} (f0 : 0 ≤ f) (f1 : f < n) (d0 : 0 ≤ d) (d1 : d < n) : ap n ((f + d) % n) f = min d (n - d) := by
  rw [on_by f0 f1 d0 d1]
  split
  · rw [ap_in (by omega) (by omega) f0 f1]; split <;> omega
  · rw [ap_in (by omega) (by omega) f0 f1]; split <;> omega
theorem off_of {n f e : Int} (f0 : 0 ≤ f) (f1 : f < n) (e0 : 0 ≤ e) (e1 : e < n) : (f + (e - f) % n) % n = e := by
  rw [Int.add_comm, Int.emod_add_emod, show e - f + f = e by omega]
  exact Int.emod_eq_of_lt e0 e1
theorem off_eq {p : Pl} (g : Good p) {f s : Int} (f0 : 0 ≤ f) (f1 : f < p.1) (s0 : 0 ≤ s) : si (((wk p).filter fun e => decide (s < ap p.1 e f)).map fun e => (e - f) % p.1) = offs p f s := by
  have hb := g.b
  refine si_of (offs_up p f s) ?_
  refine (List.perm_ext_iff_of_nodup ?_ (up_nodup (offs_up p f s))).mpr fun d => ?_
  · have nd : ((wk p).filter fun e => decide (s < ap p.1 e f)).Nodup := (up_nodup (wk_up p)).sublist List.filter_sublist
    refine List.pairwise_map.mpr (List.Pairwise.imp_of_mem ?_ nd)
    intro a b ha hb' hab q
    have ra := wk_rng (List.mem_filter.mp ha).1
    have rb := wk_rng (List.mem_filter.mp hb').1
    have h1 := off_of f0 f1 ra.1 ra.2
    rw [q, off_of f0 f1 rb.1 rb.2] at h1
    exact hab h1.symm
  · rw [mem_offs, List.mem_map]
    constructor
    · rintro ⟨e, he, rfl⟩
      obtain ⟨h1, h2⟩ := List.mem_filter.mp he
      have r := wk_rng h1
      have o := off_of f0 f1 r.1 r.2
      have d0 := Int.emod_nonneg (e - f) (show p.1 ≠ 0 by omega)
      have d1 := Int.emod_lt_of_pos (e - f) hb.1
      have a := ap_off f0 f1 d0 d1
      rw [o] at a
      have h3 : s < ap p.1 e f := of_decide_eq_true h2
      rw [a] at h3
      exact ⟨by omega, by rw [o]; exact h1⟩
    · rintro ⟨h1, h2⟩
      refine ⟨(f + d) % p.1, List.mem_filter.mpr ⟨h2, decide_eq_true ?_⟩, ?_⟩
      · rw [ap_off f0 f1 (by omega) (by omega)]; omega
      · rw [Int.emod_sub_emod, show f + d - f = d by omega]
        exact Int.emod_eq_of_lt (by omega) (by omega)
theorem chain_eq {p : Pl} (g : Good p) (h31 : p.2.length ≤ 31) {f s : Int} (f0 : 0 ≤ f) (f1 : f < p.1) (s0 : 0 ≤ s) : f_chain [dP p, .int f, .int s] = .ok (.tuple ((chP p f s).map .int)) := by
  have hb := g.b
  have wl := wk_len g
  have ol := offs_len g (f := f) s0
  have h1 := fun (x4 x5 x6 y7 : Option Wv) (S : Store) => eComp_eq (it := (iAny (eCallP f_wakes (aCons (eVar 0) aNil)))) (tg := (.nm 7)) (t := t1_chain) (f := e1_chain) (vs := [7]) (ρ := [some (.d (dP p)), some (.d (.int (f))), some (.d (.int (s))), some (.d (.int (p.1))), x4, x5, x6, y7]) (S := S) (xs := wk p) (fun e => .d (.int e)) (fun e => decide (s < ap p.1 e f)) (fun e => .int ((e - f) % p.1)) (fun e => [some (.d (dP p)), some (.d (.int (f))), some (.d (.int (s))), some (.d (.int (p.1))), x4, x5, x6, some (.d (.int e))]) (by simp only [wakes_eq g h31, mapd, startE, rb_ok, rb_exc, rs_ok, rs_exc, s_seq, seq_nx, seq_rt, seq_bk, seq_ct, seq_exc, nxO_s, s_asg, s_par, s_par3, s_ret, s_expr, s_next, s_bk, s_ct, s_raise, s_if, ifS_t, ifS_f, ifS_exc, s_for, eVar, e_c, wOf_s, rOf_s, bOf_s, e_ix, asD_d, ob_s, om_s, e_d1, e_d2, e_dN, asDs_1, asDs_2, bvO_s, e_t, o1_s, o2_s, a_nil, a_cons, prO_ok, prO_exc, e_cp, e_cg, call_1, call_2, call_3, call_4, call_5, call_6, b_not, b_and, b_or, andB_t, andB_f, orB_t, orB_f, b_tr, truW_b, e_if, ifE_t, ifE_f, e_isN, e_notN, e_notV, notV_s, e_andV, andV_t, andV_f, e_ch, chO_t, chO_f, e_sl, o_no, o_yes, oiO_s, sl_t, sl_l, i_zip, zipI_t, zipI_l, add_ii, sub_ii, neg_i, lt_ii, le_ii, gt_ii, ge_ii, eq_ii, ne_ii, eq_ss, ne_ss, eq_bb, ne_bb, len_t, len_l, min_ii, max_ii, int_i, int_b, tup_l, tup_t, lst_l, lst_t, sum_ints, e_tup, e_lst, itO_s, i_any, itA_t, itA_l, i_r1, i_r2, bindT, bindTs, unpk_t, un_L, un_P, mkSq, allD, wipeE, LINE, List.map_cons, List.map_nil, List.length_cons, List.length_nil, List.replicate, List.cons_append, List.nil_append, Nat.sub_self, Nat.reduceSub, Nat.reduceAdd, List.getElem?_cons_zero, List.getElem?_cons_succ, List.set_cons_zero, List.set_cons_succ, reduceIte, Bool.false_eq_true, Bool.not_true, Bool.not_false, Nat.reduceLeDiff, if_true, if_false, decide_true, decide_false, e_slS, s_asgL, nxL_s, itL_l]) (by unfold LINE; omega) (fun e _ => rfl) (fun e he => by simp only [t1_chain, apart_eq hb.1, startE, rb_ok, rb_exc, rs_ok, rs_exc, s_seq, seq_nx, seq_rt, seq_bk, seq_ct, seq_exc, nxO_s, s_asg, s_par, s_par3, s_ret, s_expr, s_next, s_bk, s_ct, s_raise, s_if, ifS_t, ifS_f, ifS_exc, s_for, eVar, e_c, wOf_s, rOf_s, bOf_s, e_ix, asD_d, ob_s, om_s, e_d1, e_d2, e_dN, asDs_1, asDs_2, bvO_s, e_t, o1_s, o2_s, a_nil, a_cons, prO_ok, prO_exc, e_cp, e_cg, call_1, call_2, call_3, call_4, call_5, call_6, b_not, b_and, b_or, andB_t, andB_f, orB_t, orB_f, b_tr, truW_b, e_if, ifE_t, ifE_f, e_isN, e_notN, e_notV, notV_s, e_andV, andV_t, andV_f, e_ch, chO_t, chO_f, e_sl, o_no, o_yes, oiO_s, sl_t, sl_l, i_zip, zipI_t, zipI_l, add_ii, sub_ii, neg_i, lt_ii, le_ii, gt_ii, ge_ii, eq_ii, ne_ii, eq_ss, ne_ss, eq_bb, ne_bb, len_t, len_l, min_ii, max_ii, int_i, int_b, tup_l, tup_t, lst_l, lst_t, sum_ints, e_tup, e_lst, itO_s, i_any, itA_t, itA_l, i_r1, i_r2, bindT, bindTs, unpk_t, un_L, un_P, mkSq, allD, wipeE, LINE, List.map_cons, List.map_nil, List.length_cons, List.length_nil, List.replicate, List.cons_append, List.nil_append, Nat.sub_self, Nat.reduceSub, Nat.reduceAdd, List.getElem?_cons_zero, List.getElem?_cons_succ, List.set_cons_zero, List.set_cons_succ, reduceIte, Bool.false_eq_true, Bool.not_true, Bool.not_false, Nat.reduceLeDiff, if_true, if_false, decide_true, decide_false, e_slS, s_asgL, nxL_s, itL_l]) (fun e he _ => by simp only [e1_chain, mod_ii hb.1, startE, rb_ok, rb_exc, rs_ok, rs_exc, s_seq, seq_nx, seq_rt, seq_bk, seq_ct, seq_exc, nxO_s, s_asg, s_par, s_par3, s_ret, s_expr, s_next, s_bk, s_ct, s_raise, s_if, ifS_t, ifS_f, ifS_exc, s_for, eVar, e_c, wOf_s, rOf_s, bOf_s, e_ix, asD_d, ob_s, om_s, e_d1, e_d2, e_dN, asDs_1, asDs_2, bvO_s, e_t, o1_s, o2_s, a_nil, a_cons, prO_ok, prO_exc, e_cp, e_cg, call_1, call_2, call_3, call_4, call_5, call_6, b_not, b_and, b_or, andB_t, andB_f, orB_t, orB_f, b_tr, truW_b, e_if, ifE_t, ifE_f, e_isN, e_notN, e_notV, notV_s, e_andV, andV_t, andV_f, e_ch, chO_t, chO_f, e_sl, o_no, o_yes, oiO_s, sl_t, sl_l, i_zip, zipI_t, zipI_l, add_ii, sub_ii, neg_i, lt_ii, le_ii, gt_ii, ge_ii, eq_ii, ne_ii, eq_ss, ne_ss, eq_bb, ne_bb, len_t, len_l, min_ii, max_ii, int_i, int_b, tup_l, tup_t, lst_l, lst_t, sum_ints, e_tup, e_lst, itO_s, i_any, itA_t, itA_l, i_r1, i_r2, bindT, bindTs, unpk_t, un_L, un_P, mkSq, allD, wipeE, LINE, List.map_cons, List.map_nil, List.length_cons, List.length_nil, List.replicate, List.cons_append, List.nil_append, Nat.sub_self, Nat.reduceSub, Nat.reduceAdd, List.getElem?_cons_zero, List.getElem?_cons_succ, List.set_cons_zero, List.set_cons_succ, reduceIte, Bool.false_eq_true, Bool.not_true, Bool.not_false, Nat.reduceLeDiff, if_true, if_false, decide_true, decide_false, e_slS, s_asgL, nxL_s, itL_l])
  have fl := List.length_filter_le (fun e => decide (s < ap p.1 e f)) (wk p)
  have hm : ((wk p).filter fun e => decide (s < ap p.1 e f)).map (fun e => PyData.int ((e - f) % p.1)) = (((wk p).filter fun e => decide (s < ap p.1 e f)).map fun e => (e - f) % p.1).map .int := by rw [List.map_map]; rfl
  have so := srt_intsL (xs := ((wk p).filter fun e => decide (s < ap p.1 e f)).map fun e => (e - f) % p.1) (by rw [List.length_map]; unfold LINE; omega)
  rw [off_eq g f0 f1 s0] at so
  refine runP_gs ?_
  simp only [startE, startE, rb_ok, rb_exc, rs_ok, rs_exc, s_seq, seq_nx, seq_rt, seq_bk, seq_ct, seq_exc, nxO_s, s_asg, s_par, s_par3, s_ret, s_expr, s_next, s_bk, s_ct, s_raise, s_if, ifS_t, ifS_f, ifS_exc, s_for, eVar, e_c, wOf_s, rOf_s, bOf_s, e_ix, asD_d, ob_s, om_s, e_d1, e_d2, e_dN, asDs_1, asDs_2, bvO_s, e_t, o1_s, o2_s, a_nil, a_cons, prO_ok, prO_exc, e_cp, e_cg, call_1, call_2, call_3, call_4, call_5, call_6, b_not, b_and, b_or, andB_t, andB_f, orB_t, orB_f, b_tr, truW_b, e_if, ifE_t, ifE_f, e_isN, e_notN, e_notV, notV_s, e_andV, andV_t, andV_f, e_ch, chO_t, chO_f, e_sl, o_no, o_yes, oiO_s, sl_t, sl_l, i_zip, zipI_t, zipI_l, add_ii, sub_ii, neg_i, lt_ii, le_ii, gt_ii, ge_ii, eq_ii, ne_ii, eq_ss, ne_ss, eq_bb, ne_bb, len_t, len_l, min_ii, max_ii, int_i, int_b, tup_l, tup_t, lst_l, lst_t, sum_ints, e_tup, e_lst, itO_s, i_any, itA_t, itA_l, i_r1, i_r2, bindT, bindTs, unpk_t, un_L, un_P, mkSq, allD, wipeE, LINE, List.map_cons, List.map_nil, List.length_cons, List.length_nil, List.replicate, List.cons_append, List.nil_append, Nat.sub_self, Nat.reduceSub, Nat.reduceAdd, List.getElem?_cons_zero, List.getElem?_cons_succ, List.set_cons_zero, List.set_cons_succ, reduceIte, Bool.false_eq_true, Bool.not_true, Bool.not_false, Nat.reduceLeDiff, if_true, if_false, decide_true, decide_false, e_slS, s_asgL, nxL_s, itL_l]
  apply step
  · simp only [ix_P0, startE, rb_ok, rb_exc, rs_ok, rs_exc, s_seq, seq_nx, seq_rt, seq_bk, seq_ct, seq_exc, nxO_s, s_asg, s_par, s_par3, s_ret, s_expr, s_next, s_bk, s_ct, s_raise, s_if, ifS_t, ifS_f, ifS_exc, s_for, eVar, e_c, wOf_s, rOf_s, bOf_s, e_ix, asD_d, ob_s, om_s, e_d1, e_d2, e_dN, asDs_1, asDs_2, bvO_s, e_t, o1_s, o2_s, a_nil, a_cons, prO_ok, prO_exc, e_cp, e_cg, call_1, call_2, call_3, call_4, call_5, call_6, b_not, b_and, b_or, andB_t, andB_f, orB_t, orB_f, b_tr, truW_b, e_if, ifE_t, ifE_f, e_isN, e_notN, e_notV, notV_s, e_andV, andV_t, andV_f, e_ch, chO_t, chO_f, e_sl, o_no, o_yes, oiO_s, sl_t, sl_l, i_zip, zipI_t, zipI_l, add_ii, sub_ii, neg_i, lt_ii, le_ii, gt_ii, ge_ii, eq_ii, ne_ii, eq_ss, ne_ss, eq_bb, ne_bb, len_t, len_l, min_ii, max_ii, int_i, int_b, tup_l, tup_t, lst_l, lst_t, sum_ints, e_tup, e_lst, itO_s, i_any, itA_t, itA_l, i_r1, i_r2, bindT, bindTs, unpk_t, un_L, un_P, mkSq, allD, wipeE, LINE, List.map_cons, List.map_nil, List.length_cons, List.length_nil, List.replicate, List.cons_append, List.nil_append, Nat.sub_self, Nat.reduceSub, Nat.reduceAdd, List.getElem?_cons_zero, List.getElem?_cons_succ, List.set_cons_zero, List.set_cons_succ, reduceIte, Bool.false_eq_true, Bool.not_true, Bool.not_false, Nat.reduceLeDiff, if_true, if_false, decide_true, decide_false, e_slS, s_asgL, nxL_s, itL_l]
    try rfl
  apply step
  · simp only [h1, hm, so, startE, rb_ok, rb_exc, rs_ok, rs_exc, s_seq, seq_nx, seq_rt, seq_bk, seq_ct, seq_exc, nxO_s, s_asg, s_par, s_par3, s_ret, s_expr, s_next, s_bk, s_ct, s_raise, s_if, ifS_t, ifS_f, ifS_exc, s_for, eVar, e_c, wOf_s, rOf_s, bOf_s, e_ix, asD_d, ob_s, om_s, e_d1, e_d2, e_dN, asDs_1, asDs_2, bvO_s, e_t, o1_s, o2_s, a_nil, a_cons, prO_ok, prO_exc, e_cp, e_cg, call_1, call_2, call_3, call_4, call_5, call_6, b_not, b_and, b_or, andB_t, andB_f, orB_t, orB_f, b_tr, truW_b, e_if, ifE_t, ifE_f, e_isN, e_notN, e_notV, notV_s, e_andV, andV_t, andV_f, e_ch, chO_t, chO_f, e_sl, o_no, o_yes, oiO_s, sl_t, sl_l, i_zip, zipI_t, zipI_l, add_ii, sub_ii, neg_i, lt_ii, le_ii, gt_ii, ge_ii, eq_ii, ne_ii, eq_ss, ne_ss, eq_bb, ne_bb, len_t, len_l, min_ii, max_ii, int_i, int_b, tup_l, tup_t, lst_l, lst_t, sum_ints, e_tup, e_lst, itO_s, i_any, itA_t, itA_l, i_r1, i_r2, bindT, bindTs, unpk_t, un_L, un_P, mkSq, allD, wipeE, LINE, List.map_cons, List.map_nil, List.length_cons, List.length_nil, List.replicate, List.cons_append, List.nil_append, Nat.sub_self, Nat.reduceSub, Nat.reduceAdd, List.getElem?_cons_zero, List.getElem?_cons_succ, List.set_cons_zero, List.set_cons_succ, reduceIte, Bool.false_eq_true, Bool.not_true, Bool.not_false, Nat.reduceLeDiff, if_true, if_false, decide_true, decide_false, e_slS, s_asgL, nxL_s, itL_l]
    try rfl
  refine step (ρ' := [some (.d (dP p)), some (.d (.int f)), some (.d (.int s)), some (.d (.int p.1)), some (.d (.list ((offs p f s).map .int))), some (.o 0), none, none]) (S' := [.lst [.d (.int f)]]) rfl ?_
  refine via (P := fun ρ S => ∃ F : Nat → Option Wv, ρ = [some (.d (dP p)), some (.d (.int f)), some (.d (.int s)), some (.d (.int p.1)), some (.d (.list [])), some (.o 0), F 6, F 7] ∧ S = [.lst (((chL p f s).map PyData.int).map .d)]) ?_ ?_
  · refine while_go (fun k ρ S => ∃ (L acc : List Int) (d : Int) (F : Nat → Option Wv), k = L.length ∧ L.length + acc.length ≤ 100001 ∧ (∀ x ∈ L, d < x) ∧ acc ++ (gz s d L).map (fun y => (f + y) % p.1) = chL p f s ∧ ρ = [some (.d (dP p)), some (.d (.int f)), some (.d (.int s)), some (.d (.int p.1)), some (.d (.list (L.map .int))), some (.o 0), F 6, F 7] ∧ S = [.lst ((acc.map PyData.int).map .d)]) (offs p f s).length (by show _ < 100000; exact ol) ?_ ?_
    · exact ⟨offs p f s, [f], s, fun _ => none, rfl, by simp; omega, fun x hx => (mem_offs.mp hx).1.1, rfl, rfl, rfl⟩
    · rintro k ρ S ⟨L, acc, d, F, rfl, hz, hd, he, rfl, rfl⟩
      cases L with
      | nil =>
        refine .inl ⟨_, rfl, _, _, rfl, F, rfl, ?_⟩
        have : acc = chL p f s := by rw [← he]; unfold gz; rw [List.map_nil, List.append_nil]
        rw [this]
      | cons x r =>
        have hx := hd x List.mem_cons_self
        simp only [List.length_cons] at hz
        refine .inr ⟨_, [some (.d (dP p)), some (.d (.int f)), some (.d (.int s)), some (.d (.int p.1)), some (.d (.list ((r.filter fun z => decide (x + s + s < z)).map .int))), some (.o 0), some (.d (.int (x + s))), F 7], [.lst (((acc ++ [(f + (x + s)) % p.1]).map PyData.int).map .d)], (r.filter fun z => decide (x + s + s < z)).length, rfl, ?_, ?_, r.filter fun z => decide (x + s + s < z), acc ++ [(f + (x + s)) % p.1], x + s + s, fun i => if i = 6 then some (.d (.int (x + s))) else F i, rfl, ?_, ?_, ?_, rfl, rfl⟩
        · have app := fun (ρ : En) (r5 : ρ[5]? = some (some (.o 0))) (r1 : ρ[1]? = some (some (.d (.int f)))) (r6 : ρ[6]? = some (some (.d (.int (x + s))))) (r3 : ρ[3]? = some (some (.d (.int p.1)))) => e_app (f := eVar 5) (g := aCons (eD2 oMod (eD2 oAdd (eVar 1) (eVar 6)) (eVar 3)) aNil) (ρ := ρ) (S := [.lst ((acc.map PyData.int).map .d)]) (S1 := [.lst ((acc.map PyData.int).map .d)]) (k := 0) (w := .d (.int ((f + (x + s)) % p.1))) (by simp only [r5, startE, rb_ok, rb_exc, rs_ok, rs_exc, s_seq, seq_nx, seq_rt, seq_bk, seq_ct, seq_exc, nxO_s, s_asg, s_par, s_par3, s_ret, s_expr, s_next, s_bk, s_ct, s_raise, s_if, ifS_t, ifS_f, ifS_exc, s_for, eVar, e_c, wOf_s, rOf_s, bOf_s, e_ix, asD_d, ob_s, om_s, e_d1, e_d2, e_dN, asDs_1, asDs_2, bvO_s, e_t, o1_s, o2_s, a_nil, a_cons, prO_ok, prO_exc, e_cp, e_cg, call_1, call_2, call_3, call_4, call_5, call_6, b_not, b_and, b_or, andB_t, andB_f, orB_t, orB_f, b_tr, truW_b, e_if, ifE_t, ifE_f, e_isN, e_notN, e_notV, notV_s, e_andV, andV_t, andV_f, e_ch, chO_t, chO_f, e_sl, o_no, o_yes, oiO_s, sl_t, sl_l, i_zip, zipI_t, zipI_l, add_ii, sub_ii, neg_i, lt_ii, le_ii, gt_ii, ge_ii, eq_ii, ne_ii, eq_ss, ne_ss, eq_bb, ne_bb, len_t, len_l, min_ii, max_ii, int_i, int_b, tup_l, tup_t, lst_l, lst_t, sum_ints, e_tup, e_lst, itO_s, i_any, itA_t, itA_l, i_r1, i_r2, bindT, bindTs, unpk_t, un_L, un_P, mkSq, allD, wipeE, LINE, List.map_cons, List.map_nil, List.length_cons, List.length_nil, List.replicate, List.cons_append, List.nil_append, Nat.sub_self, Nat.reduceSub, Nat.reduceAdd, List.getElem?_cons_zero, List.getElem?_cons_succ, List.set_cons_zero, List.set_cons_succ, reduceIte, Bool.false_eq_true, Bool.not_true, Bool.not_false, Nat.reduceLeDiff, if_true, if_false, decide_true, decide_false, e_slS, s_asgL, nxL_s, itL_l]) rfl (by simp only [r1, r6, r3, mod_ii hb.1, startE, rb_ok, rb_exc, rs_ok, rs_exc, s_seq, seq_nx, seq_rt, seq_bk, seq_ct, seq_exc, nxO_s, s_asg, s_par, s_par3, s_ret, s_expr, s_next, s_bk, s_ct, s_raise, s_if, ifS_t, ifS_f, ifS_exc, s_for, eVar, e_c, wOf_s, rOf_s, bOf_s, e_ix, asD_d, ob_s, om_s, e_d1, e_d2, e_dN, asDs_1, asDs_2, bvO_s, e_t, o1_s, o2_s, a_nil, a_cons, prO_ok, prO_exc, e_cp, e_cg, call_1, call_2, call_3, call_4, call_5, call_6, b_not, b_and, b_or, andB_t, andB_f, orB_t, orB_f, b_tr, truW_b, e_if, ifE_t, ifE_f, e_isN, e_notN, e_notV, notV_s, e_andV, andV_t, andV_f, e_ch, chO_t, chO_f, e_sl, o_no, o_yes, oiO_s, sl_t, sl_l, i_zip, zipI_t, zipI_l, add_ii, sub_ii, neg_i, lt_ii, le_ii, gt_ii, ge_ii, eq_ii, ne_ii, eq_ss, ne_ss, eq_bb, ne_bb, len_t, len_l, min_ii, max_ii, int_i, int_b, tup_l, tup_t, lst_l, lst_t, sum_ints, e_tup, e_lst, itO_s, i_any, itA_t, itA_l, i_r1, i_r2, bindT, bindTs, unpk_t, un_L, un_P, mkSq, allD, wipeE, LINE, List.map_cons, List.map_nil, List.length_cons, List.length_nil, List.replicate, List.cons_append, List.nil_append, Nat.sub_self, Nat.reduceSub, Nat.reduceAdd, List.getElem?_cons_zero, List.getElem?_cons_succ, List.set_cons_zero, List.set_cons_succ, reduceIte, Bool.false_eq_true, Bool.not_true, Bool.not_false, Nat.reduceLeDiff, if_true, if_false, decide_true, decide_false, e_slS, s_asgL, nxL_s, itL_l]) rfl (by rw [List.length_map, List.length_map]; unfold LINE; omega)
          have ap1 := app [some (.d (dP p)), some (.d (.int f)), some (.d (.int s)), some (.d (.int p.1)), some (.d (.list ((x :: r).map .int))), some (.o 0), some (.d (.int (x + s))), F 7] rfl rfl rfl rfl
          have mp : ([.lst ((acc.map PyData.int).map Wv.d)] : Store).set 0 (.lst ((acc.map PyData.int).map Wv.d ++ [.d (.int ((f + (x + s)) % p.1))])) = [.lst (((acc ++ [(f + (x + s)) % p.1]).map PyData.int).map .d)] := by rw [List.map_append, List.map_append]; rfl
          rw [mp] at ap1
          have h2 := fun (y7 : Option Wv) (S : Store) => eComp_eq (it := (iAny (eVar 4))) (tg := (.nm 7)) (t := t2_chain) (f := e2_chain) (vs := [7]) (ρ := [some (.d (dP p)), some (.d (.int (f))), some (.d (.int (s))), some (.d (.int (p.1))), some (.d (.list ((x :: r).map .int))), some (.o 0), some (.d (.int (x + s))), y7]) (S := S) (xs := (x :: r)) (fun e => .d (.int e)) (fun e => decide (x + s + s < e)) (fun e => .int e) (fun e => [some (.d (dP p)), some (.d (.int (f))), some (.d (.int (s))), some (.d (.int (p.1))), some (.d (.list ((x :: r).map .int))), some (.o 0), some (.d (.int (x + s))), some (.d (.int e))]) (by simp only [mapd, startE, rb_ok, rb_exc, rs_ok, rs_exc, s_seq, seq_nx, seq_rt, seq_bk, seq_ct, seq_exc, nxO_s, s_asg, s_par, s_par3, s_ret, s_expr, s_next, s_bk, s_ct, s_raise, s_if, ifS_t, ifS_f, ifS_exc, s_for, eVar, e_c, wOf_s, rOf_s, bOf_s, e_ix, asD_d, ob_s, om_s, e_d1, e_d2, e_dN, asDs_1, asDs_2, bvO_s, e_t, o1_s, o2_s, a_nil, a_cons, prO_ok, prO_exc, e_cp, e_cg, call_1, call_2, call_3, call_4, call_5, call_6, b_not, b_and, b_or, andB_t, andB_f, orB_t, orB_f, b_tr, truW_b, e_if, ifE_t, ifE_f, e_isN, e_notN, e_notV, notV_s, e_andV, andV_t, andV_f, e_ch, chO_t, chO_f, e_sl, o_no, o_yes, oiO_s, sl_t, sl_l, i_zip, zipI_t, zipI_l, add_ii, sub_ii, neg_i, lt_ii, le_ii, gt_ii, ge_ii, eq_ii, ne_ii, eq_ss, ne_ss, eq_bb, ne_bb, len_t, len_l, min_ii, max_ii, int_i, int_b, tup_l, tup_t, lst_l, lst_t, sum_ints, e_tup, e_lst, itO_s, i_any, itA_t, itA_l, i_r1, i_r2, bindT, bindTs, unpk_t, un_L, un_P, mkSq, allD, wipeE, LINE, List.map_cons, List.map_nil, List.length_cons, List.length_nil, List.replicate, List.cons_append, List.nil_append, Nat.sub_self, Nat.reduceSub, Nat.reduceAdd, List.getElem?_cons_zero, List.getElem?_cons_succ, List.set_cons_zero, List.set_cons_succ, reduceIte, Bool.false_eq_true, Bool.not_true, Bool.not_false, Nat.reduceLeDiff, if_true, if_false, decide_true, decide_false, e_slS, s_asgL, nxL_s, itL_l]) (by unfold LINE; simp only [List.length_cons]; omega) (fun e _ => rfl) (fun e he => by simp only [t2_chain, startE, rb_ok, rb_exc, rs_ok, rs_exc, s_seq, seq_nx, seq_rt, seq_bk, seq_ct, seq_exc, nxO_s, s_asg, s_par, s_par3, s_ret, s_expr, s_next, s_bk, s_ct, s_raise, s_if, ifS_t, ifS_f, ifS_exc, s_for, eVar, e_c, wOf_s, rOf_s, bOf_s, e_ix, asD_d, ob_s, om_s, e_d1, e_d2, e_dN, asDs_1, asDs_2, bvO_s, e_t, o1_s, o2_s, a_nil, a_cons, prO_ok, prO_exc, e_cp, e_cg, call_1, call_2, call_3, call_4, call_5, call_6, b_not, b_and, b_or, andB_t, andB_f, orB_t, orB_f, b_tr, truW_b, e_if, ifE_t, ifE_f, e_isN, e_notN, e_notV, notV_s, e_andV, andV_t, andV_f, e_ch, chO_t, chO_f, e_sl, o_no, o_yes, oiO_s, sl_t, sl_l, i_zip, zipI_t, zipI_l, add_ii, sub_ii, neg_i, lt_ii, le_ii, gt_ii, ge_ii, eq_ii, ne_ii, eq_ss, ne_ss, eq_bb, ne_bb, len_t, len_l, min_ii, max_ii, int_i, int_b, tup_l, tup_t, lst_l, lst_t, sum_ints, e_tup, e_lst, itO_s, i_any, itA_t, itA_l, i_r1, i_r2, bindT, bindTs, unpk_t, un_L, un_P, mkSq, allD, wipeE, LINE, List.map_cons, List.map_nil, List.length_cons, List.length_nil, List.replicate, List.cons_append, List.nil_append, Nat.sub_self, Nat.reduceSub, Nat.reduceAdd, List.getElem?_cons_zero, List.getElem?_cons_succ, List.set_cons_zero, List.set_cons_succ, reduceIte, Bool.false_eq_true, Bool.not_true, Bool.not_false, Nat.reduceLeDiff, if_true, if_false, decide_true, decide_false, e_slS, s_asgL, nxL_s, itL_l]) (fun e he _ => by simp only [e2_chain, startE, rb_ok, rb_exc, rs_ok, rs_exc, s_seq, seq_nx, seq_rt, seq_bk, seq_ct, seq_exc, nxO_s, s_asg, s_par, s_par3, s_ret, s_expr, s_next, s_bk, s_ct, s_raise, s_if, ifS_t, ifS_f, ifS_exc, s_for, eVar, e_c, wOf_s, rOf_s, bOf_s, e_ix, asD_d, ob_s, om_s, e_d1, e_d2, e_dN, asDs_1, asDs_2, bvO_s, e_t, o1_s, o2_s, a_nil, a_cons, prO_ok, prO_exc, e_cp, e_cg, call_1, call_2, call_3, call_4, call_5, call_6, b_not, b_and, b_or, andB_t, andB_f, orB_t, orB_f, b_tr, truW_b, e_if, ifE_t, ifE_f, e_isN, e_notN, e_notV, notV_s, e_andV, andV_t, andV_f, e_ch, chO_t, chO_f, e_sl, o_no, o_yes, oiO_s, sl_t, sl_l, i_zip, zipI_t, zipI_l, add_ii, sub_ii, neg_i, lt_ii, le_ii, gt_ii, ge_ii, eq_ii, ne_ii, eq_ss, ne_ss, eq_bb, ne_bb, len_t, len_l, min_ii, max_ii, int_i, int_b, tup_l, tup_t, lst_l, lst_t, sum_ints, e_tup, e_lst, itO_s, i_any, itA_t, itA_l, i_r1, i_r2, bindT, bindTs, unpk_t, un_L, un_P, mkSq, allD, wipeE, LINE, List.map_cons, List.map_nil, List.length_cons, List.length_nil, List.replicate, List.cons_append, List.nil_append, Nat.sub_self, Nat.reduceSub, Nat.reduceAdd, List.getElem?_cons_zero, List.getElem?_cons_succ, List.set_cons_zero, List.set_cons_succ, reduceIte, Bool.false_eq_true, Bool.not_true, Bool.not_false, Nat.reduceLeDiff, if_true, if_false, decide_true, decide_false, e_slS, s_asgL, nxL_s, itL_l])
          rw [List.filter_cons, decide_eq_false (show ¬ (x + s + s < x) by omega), if_neg Bool.false_ne_true] at h2
          simp only [l1_chain, s_seq]
          have i0 : ∀ S, ixW S (.d (.list ((x :: r).map .int))) (.d (.int 0)) = some (.d (.int x)) := fun _ => ix_headL
          simp only [List.map_cons] at i0 ap1 h2 ⊢
          simp only [i0, startE, rb_ok, rb_exc, rs_ok, rs_exc, s_seq, seq_nx, seq_rt, seq_bk, seq_ct, seq_exc, nxO_s, s_asg, s_par, s_par3, s_ret, s_expr, s_next, s_bk, s_ct, s_raise, s_if, ifS_t, ifS_f, ifS_exc, s_for, eVar, e_c, wOf_s, rOf_s, bOf_s, e_ix, asD_d, ob_s, om_s, e_d1, e_d2, e_dN, asDs_1, asDs_2, bvO_s, e_t, o1_s, o2_s, a_nil, a_cons, prO_ok, prO_exc, e_cp, e_cg, call_1, call_2, call_3, call_4, call_5, call_6, b_not, b_and, b_or, andB_t, andB_f, orB_t, orB_f, b_tr, truW_b, e_if, ifE_t, ifE_f, e_isN, e_notN, e_notV, notV_s, e_andV, andV_t, andV_f, e_ch, chO_t, chO_f, e_sl, o_no, o_yes, oiO_s, sl_t, sl_l, i_zip, zipI_t, zipI_l, add_ii, sub_ii, neg_i, lt_ii, le_ii, gt_ii, ge_ii, eq_ii, ne_ii, eq_ss, ne_ss, eq_bb, ne_bb, len_t, len_l, min_ii, max_ii, int_i, int_b, tup_l, tup_t, lst_l, lst_t, sum_ints, e_tup, e_lst, itO_s, i_any, itA_t, itA_l, i_r1, i_r2, bindT, bindTs, unpk_t, un_L, un_P, mkSq, allD, wipeE, LINE, List.map_cons, List.map_nil, List.length_cons, List.length_nil, List.replicate, List.cons_append, List.nil_append, Nat.sub_self, Nat.reduceSub, Nat.reduceAdd, List.getElem?_cons_zero, List.getElem?_cons_succ, List.set_cons_zero, List.set_cons_succ, reduceIte, Bool.false_eq_true, Bool.not_true, Bool.not_false, Nat.reduceLeDiff, if_true, if_false, decide_true, decide_false, e_slS, s_asgL, nxL_s, itL_l]
          simp only [ap1, startE, rb_ok, rb_exc, rs_ok, rs_exc, s_seq, seq_nx, seq_rt, seq_bk, seq_ct, seq_exc, nxO_s, s_asg, s_par, s_par3, s_ret, s_expr, s_next, s_bk, s_ct, s_raise, s_if, ifS_t, ifS_f, ifS_exc, s_for, eVar, e_c, wOf_s, rOf_s, bOf_s, e_ix, asD_d, ob_s, om_s, e_d1, e_d2, e_dN, asDs_1, asDs_2, bvO_s, e_t, o1_s, o2_s, a_nil, a_cons, prO_ok, prO_exc, e_cp, e_cg, call_1, call_2, call_3, call_4, call_5, call_6, b_not, b_and, b_or, andB_t, andB_f, orB_t, orB_f, b_tr, truW_b, e_if, ifE_t, ifE_f, e_isN, e_notN, e_notV, notV_s, e_andV, andV_t, andV_f, e_ch, chO_t, chO_f, e_sl, o_no, o_yes, oiO_s, sl_t, sl_l, i_zip, zipI_t, zipI_l, add_ii, sub_ii, neg_i, lt_ii, le_ii, gt_ii, ge_ii, eq_ii, ne_ii, eq_ss, ne_ss, eq_bb, ne_bb, len_t, len_l, min_ii, max_ii, int_i, int_b, tup_l, tup_t, lst_l, lst_t, sum_ints, e_tup, e_lst, itO_s, i_any, itA_t, itA_l, i_r1, i_r2, bindT, bindTs, unpk_t, un_L, un_P, mkSq, allD, wipeE, LINE, List.map_cons, List.map_nil, List.length_cons, List.length_nil, List.replicate, List.cons_append, List.nil_append, Nat.sub_self, Nat.reduceSub, Nat.reduceAdd, List.getElem?_cons_zero, List.getElem?_cons_succ, List.set_cons_zero, List.set_cons_succ, reduceIte, Bool.false_eq_true, Bool.not_true, Bool.not_false, Nat.reduceLeDiff, if_true, if_false, decide_true, decide_false, e_slS, s_asgL, nxL_s, itL_l]
          simp only [h2, startE, rb_ok, rb_exc, rs_ok, rs_exc, s_seq, seq_nx, seq_rt, seq_bk, seq_ct, seq_exc, nxO_s, s_asg, s_par, s_par3, s_ret, s_expr, s_next, s_bk, s_ct, s_raise, s_if, ifS_t, ifS_f, ifS_exc, s_for, eVar, e_c, wOf_s, rOf_s, bOf_s, e_ix, asD_d, ob_s, om_s, e_d1, e_d2, e_dN, asDs_1, asDs_2, bvO_s, e_t, o1_s, o2_s, a_nil, a_cons, prO_ok, prO_exc, e_cp, e_cg, call_1, call_2, call_3, call_4, call_5, call_6, b_not, b_and, b_or, andB_t, andB_f, orB_t, orB_f, b_tr, truW_b, e_if, ifE_t, ifE_f, e_isN, e_notN, e_notV, notV_s, e_andV, andV_t, andV_f, e_ch, chO_t, chO_f, e_sl, o_no, o_yes, oiO_s, sl_t, sl_l, i_zip, zipI_t, zipI_l, add_ii, sub_ii, neg_i, lt_ii, le_ii, gt_ii, ge_ii, eq_ii, ne_ii, eq_ss, ne_ss, eq_bb, ne_bb, len_t, len_l, min_ii, max_ii, int_i, int_b, tup_l, tup_t, lst_l, lst_t, sum_ints, e_tup, e_lst, itO_s, i_any, itA_t, itA_l, i_r1, i_r2, bindT, bindTs, unpk_t, un_L, un_P, mkSq, allD, wipeE, LINE, List.map_cons, List.map_nil, List.length_cons, List.length_nil, List.replicate, List.cons_append, List.nil_append, Nat.sub_self, Nat.reduceSub, Nat.reduceAdd, List.getElem?_cons_zero, List.getElem?_cons_succ, List.set_cons_zero, List.set_cons_succ, reduceIte, Bool.false_eq_true, Bool.not_true, Bool.not_false, Nat.reduceLeDiff, if_true, if_false, decide_true, decide_false, e_slS, s_asgL, nxL_s, itL_l]
        · have := List.length_filter_le (fun z => decide (x + s + s < z)) r
          simp only [List.length_cons]; omega
        · have := List.length_filter_le (fun z => decide (x + s + s < z)) r
          simp only [List.length_append, List.length_cons, List.length_nil]; omega
        · intro z hz
          exact of_decide_eq_true (List.mem_filter.mp hz).2
        · rw [← he, gz_filter s s0 r _ _ (Int.le_refl _), gz, if_pos hx, List.map_cons, List.append_assoc]; rfl
  · rintro ρ S ⟨F, rfl, rfl⟩
    refine gs_frz (k := 0) rfl rfl ?_
    rw [mkSq_ds]
    have cl : (chL p f s).length ≤ LINE := by
      unfold chL LINE
      have := gz_len s (offs p f s) s
      rw [List.length_cons, List.length_map]; omega
    have sc := srt_intsL cl
    apply fin
    · simp only [sc, startE, rb_ok, rb_exc, rs_ok, rs_exc, s_seq, seq_nx, seq_rt, seq_bk, seq_ct, seq_exc, nxO_s, s_asg, s_par, s_par3, s_ret, s_expr, s_next, s_bk, s_ct, s_raise, s_if, ifS_t, ifS_f, ifS_exc, s_for, eVar, e_c, wOf_s, rOf_s, bOf_s, e_ix, asD_d, ob_s, om_s, e_d1, e_d2, e_dN, asDs_1, asDs_2, bvO_s, e_t, o1_s, o2_s, a_nil, a_cons, prO_ok, prO_exc, e_cp, e_cg, call_1, call_2, call_3, call_4, call_5, call_6, b_not, b_and, b_or, andB_t, andB_f, orB_t, orB_f, b_tr, truW_b, e_if, ifE_t, ifE_f, e_isN, e_notN, e_notV, notV_s, e_andV, andV_t, andV_f, e_ch, chO_t, chO_f, e_sl, o_no, o_yes, oiO_s, sl_t, sl_l, i_zip, zipI_t, zipI_l, add_ii, sub_ii, neg_i, lt_ii, le_ii, gt_ii, ge_ii, eq_ii, ne_ii, eq_ss, ne_ss, eq_bb, ne_bb, len_t, len_l, min_ii, max_ii, int_i, int_b, tup_l, tup_t, lst_l, lst_t, sum_ints, e_tup, e_lst, itO_s, i_any, itA_t, itA_l, i_r1, i_r2, bindT, bindTs, unpk_t, un_L, un_P, mkSq, allD, wipeE, LINE, List.map_cons, List.map_nil, List.length_cons, List.length_nil, List.replicate, List.cons_append, List.nil_append, Nat.sub_self, Nat.reduceSub, Nat.reduceAdd, List.getElem?_cons_zero, List.getElem?_cons_succ, List.set_cons_zero, List.set_cons_succ, reduceIte, Bool.false_eq_true, Bool.not_true, Bool.not_false, Nat.reduceLeDiff, if_true, if_false, decide_true, decide_false, e_slS, s_asgL, nxL_s, itL_l]
      try rfl
    exact ⟨_, rfl⟩
end PL

/-! # PL, part h: a chain has no beat too many -/
namespace PL
open PySem PySem.Spec PyProof.Rows L2 PySem.SeqAt PySem.W
theorem sub_len : ∀ {xs ys : List Int}, xs.Nodup → (∀ x ∈ xs, x ∈ ys) → xs.length ≤ ys.length
  | [], _, _, _ => Nat.zero_le _
  | x :: r, ys, nd, h => by
    have hx := h x List.mem_cons_self
    have e := List.length_erase_of_mem hx
    have hp := List.length_pos_of_mem hx
    rw [List.nodup_cons] at nd
    have := sub_len (xs := r) (ys := ys.erase x) nd.2 fun y hy => (List.mem_erase_of_ne (fun q => by subst q; exact nd.1 hy)).mpr (h y (List.mem_cons_of_mem _ hy))
    rw [List.length_cons]
    omega
theorem emod_le_self {a n : Int} (h : 0 ≤ a) (hn : 0 < n) : a % n ≤ a := by
  have h1 := Int.mul_ediv_add_emod a n
  have h2 := Int.ediv_nonneg h (Int.le_of_lt hn)
  have h3 := Int.mul_nonneg (Int.le_of_lt hn) h2
  omega
theorem ap_le {n a b k : Int} (hn : 0 < n) (h1 : a - b ≤ k) (h2 : b - a ≤ k) : ap n a b ≤ k := by
  unfold ap
  by_cases h : b ≤ a
  · have := emod_le_self (a := a - b) (n := n) (by omega) hn
    omega
  · have := emod_le_self (a := b - a) (n := n) (by omega) hn
    omega
theorem gz_cover (s : Int) (s0 : 0 ≤ s) : ∀ (xs : List Int) (d : Int), xs.Pairwise (· < ·) → ∀ x ∈ xs, d < x → ∃ y ∈ gz s d xs, y - s ≤ x ∧ x ≤ y + s
  | [], _, _, x, h, _ => by cases h
  | z :: r, d, up, x, h, hd => by
    rw [List.pairwise_cons] at up
    unfold gz
    split
    · by_cases hx : x ≤ z + s + s
      · refine ⟨z + s, List.mem_cons_self, ?_, by omega⟩
        rcases List.mem_cons.mp h with e | e
        · omega
        · have := up.1 x e; omega
      · rcases List.mem_cons.mp h with e | e
        · omega
        · obtain ⟨y, hy, q⟩ := gz_cover s s0 r (z + s + s) up.2 x e (by omega)
          exact ⟨y, List.mem_cons_of_mem _ hy, q⟩
    · rcases List.mem_cons.mp h with e | e
      · omega
      · exact gz_cover s s0 r d up.2 x e hd
theorem gz_from (s : Int) (s0 : 0 ≤ s) : ∀ (xs : List Int) (d : Int), ∀ y ∈ gz s d xs, y - s ∈ xs ∧ d + s < y
  | [], _, y, h => by cases h
  | z :: r, d, y, h => by
    unfold gz at h
    split at h
    · rcases List.mem_cons.mp h with e | e
      · subst e; exact ⟨by rw [show z + s - s = z by omega]; exact List.mem_cons_self, by omega⟩
      · obtain ⟨h1, h2⟩ := gz_from s s0 r _ y e
        exact ⟨List.mem_cons_of_mem _ h1, by omega⟩
    · obtain ⟨h1, h2⟩ := gz_from s s0 r _ y h
      exact ⟨List.mem_cons_of_mem _ h1, h2⟩
theorem gz_sep (s : Int) (s0 : 0 ≤ s) : ∀ (xs : List Int) (d : Int), (gz s d xs).Pairwise fun a b => a + s + s < b
  | [], _ => .nil
  | z :: r, d => by
    unfold gz
    split
    · refine List.pairwise_cons.mpr ⟨fun y hy => ?_, gz_sep s s0 r _⟩
      have := (gz_from s s0 r _ y hy).2
      omega
    · exact gz_sep s s0 r d
/-- a chain is near all edges -/
theorem ch_near {p : Pl} (hb : 0 < p.1) {f s : Int} (f0 : 0 ≤ f) (f1 : f < p.1) (s0 : 0 ≤ s) : nearB p (chP p f s) s = true := by
  rw [nearB_iff]
  intro e he
  have r := wk_rng he
  have d0 := Int.emod_nonneg (e - f) (show p.1 ≠ 0 by omega)
  have d1 := Int.emod_lt_of_pos (e - f) hb
  have o := off_of f0 f1 r.1 r.2
  have a := ap_off f0 f1 d0 d1
  rw [o] at a
  by_cases hd : s < (e - f) % p.1 ∧ (e - f) % p.1 < p.1 - s
  · obtain ⟨y, hy, y1, y2⟩ := gz_cover s s0 (offs p f s) s (offs_up p f s) ((e - f) % p.1) (mem_offs.mpr ⟨hd, by rw [o]; exact he⟩) hd.1
    refine ⟨(f + y) % p.1, mem_si.mpr (List.mem_cons_of_mem _ (List.mem_map.mpr ⟨y, hy, rfl⟩)), ?_⟩
    rw [← o, ap_mod, Int.add_comm f, Int.add_comm f, ap_shift]
    exact ap_le hb (by omega) (by omega)
  · exact ⟨f, mem_si.mpr List.mem_cons_self, by rw [a]; omega⟩
theorem ch_rng {p : Pl} (hb : 0 < p.1) {f s : Int} (f0 : 0 ≤ f) (f1 : f < p.1) : ∀ x ∈ chP p f s, 0 ≤ x ∧ x < p.1 := by
  intro x hx
  rcases List.mem_cons.mp (mem_si.mp hx) with e | e
  · subst e; exact ⟨f0, f1⟩
  · obtain ⟨y, _, rfl⟩ := List.mem_map.mp e
    exact ⟨Int.emod_nonneg _ (by omega), Int.emod_lt_of_pos _ hb⟩
theorem ap_two {n f x y : Int} (hn : 0 < n) (x0 : 0 ≤ x) (x1 : x < n) (y0 : 0 ≤ y) (y1 : y < n) (h : x < y) : ap n ((f + x) % n) ((f + y) % n) = min (y - x) (n - (y - x)) := by
  rw [ap_mod, Int.add_comm f, Int.add_comm f, ap_shift, ap_in x0 x1 y0 y1, if_neg (by omega)]
  omega
/-- the beats that any covering must have -/
theorem ch_least {p : Pl} (hb : 0 < p.1) {f s : Int} (f0 : 0 ≤ f) (f1 : f < p.1) (s0 : 0 ≤ s) {C : List Int} (hf : f ∈ C) (hC : ∀ x ∈ C, 0 ≤ x ∧ x < p.1) (hn : nearB p C s = true) : (chP p f s).length ≤ C.length := by
  rw [nearB_iff] at hn
  have key : ∀ y ∈ gz s s (offs p f s), (s < y - s ∧ y - s < p.1 - s) ∧ ∃ o ∈ C, ap p.1 ((f + (y - s)) % p.1) o ≤ s := fun y hy => by
    have h1 := mem_offs.mp (gz_from s s0 _ _ y hy).1
    exact ⟨h1.1, hn _ h1.2⟩
  let c : Int → Int := fun y => (C.find? fun o => decide (ap p.1 ((f + (y - s)) % p.1) o ≤ s)).getD 0
  have hc : ∀ y ∈ gz s s (offs p f s), c y ∈ C ∧ ap p.1 ((f + (y - s)) % p.1) (c y) ≤ s := fun y hy => by
    obtain ⟨o, ho, q⟩ := (key y hy).2
    cases e : C.find? fun o => decide (ap p.1 ((f + (y - s)) % p.1) o ≤ s) with
    | none => exact absurd (decide_eq_true q) (List.find?_eq_none.mp e o ho)
    | some w =>
      have e1 : c y = w := by show (C.find? _).getD 0 = w; rw [e]; rfl
      rw [e1]
      have h2 := List.find?_some e
      exact ⟨List.mem_of_find?_eq_some e, of_decide_eq_true h2⟩
  have ml : ∀ z : Int, 0 ≤ z % p.1 ∧ z % p.1 < p.1 := fun z => ⟨Int.emod_nonneg _ (by omega), Int.emod_lt_of_pos _ hb⟩
  have nd : (f :: (gz s s (offs p f s)).map c).Nodup := by
    rw [List.nodup_cons]
    constructor
    · intro h
      obtain ⟨y, hy, e⟩ := List.mem_map.mp h
      have h1 := (hc y hy).2
      have h2 := (key y hy).1
      rw [e, ap_off f0 f1 (by omega) (by omega)] at h1
      omega
    · refine List.pairwise_map.mpr (List.Pairwise.imp_of_mem ?_ (gz_sep s s0 (offs p f s) s))
      intro a b ha hb' hab q
      have h1 := (hc a ha).2
      have h2 := (hc b hb').2
      have k1 := (key a ha).1
      have k2 := (key b hb').1
      have rc := hC _ (hc b hb').1
      rw [q] at h1
      have t := ap_tri (ml (f + (a - s))).1 (ml (f + (a - s))).2 (ml (f + (b - s))).1 (ml (f + (b - s))).2 rc.1 rc.2
      rw [ap_comm p.1 (c b), ap_two hb (by omega) (by omega) (by omega) (by omega) (by omega)] at t
      omega
  have := sub_len nd (ys := C) fun x hx => by
    rcases List.mem_cons.mp hx with e | e
    · subst e; exact hf
    · obtain ⟨y, hy, rfl⟩ := List.mem_map.mp e
      exact (hc y hy).1
  unfold chP chL
  rw [si_len]
  simpa using this
/-! ### how many are enough -/
def leastP (p : Pl) (s : Int) : Int := match wk p with
  | [] => 0
  | e :: _ => mn ((rng (0 - s) (s + 1)).map fun b => ((chP p ((e + b) % p.1) s).length : Int))
theorem least_nil {p : Pl} {s : Int} (h : wk p = []) : leastP p s = 0 := by unfold leastP; rw [h]
theorem least_is {p : Pl} {s : Int} (s0 : 0 ≤ s) (h : wk p ≠ []) : ∃ e ∈ wk p, leastP p s = mn ((rng (0 - s) (s + 1)).map fun b => ((chP p ((e + b) % p.1) s).length : Int)) ∧ ((rng (0 - s) (s + 1)).map fun b => ((chP p ((e + b) % p.1) s).length : Int)) ≠ [] := by
  unfold leastP
  cases e : wk p with
  | nil => exact absurd e h
  | cons x r =>
    refine ⟨x, List.mem_cons_self, rfl, ?_⟩
    rw [rng_cons (by omega)]
    simp
/-- one of the chains is as short -/
theorem least_some {p : Pl} (hb : 0 < p.1) {s : Int} (s0 : 0 ≤ s) (h : wk p ≠ []) : ∃ f, 0 ≤ f ∧ f < p.1 ∧ leastP p s = ((chP p f s).length : Int) := by
  obtain ⟨e, _, h1, h2⟩ := least_is s0 h
  have := mn_mem h2
  rw [← h1] at this
  obtain ⟨b, _, q⟩ := List.mem_map.mp this
  exact ⟨(e + b) % p.1, Int.emod_nonneg _ (by omega), Int.emod_lt_of_pos _ hb, q.symm⟩
theorem least_pos {p : Pl} (hb : 0 < p.1) {s : Int} (s0 : 0 ≤ s) (h : wk p ≠ []) : 1 ≤ leastP p s := by
  obtain ⟨f, _, _, e⟩ := least_some hb s0 h
  rw [e]
  unfold chP chL
  rw [si_len, List.length_cons]; omega
/-- no set that is near all edges has fewer -/
theorem least_le {p : Pl} (hb : 0 < p.1) {s : Int} (s0 : 0 ≤ s) {C : List Int} (hC : ∀ x ∈ C, 0 ≤ x ∧ x < p.1) (hn : nearB p C s = true) : leastP p s ≤ (C.length : Int) := by
  by_cases h : wk p = []
  · rw [least_nil h]; omega
  · obtain ⟨e, he, h1, h2⟩ := least_is s0 h
    obtain ⟨o, ho, q⟩ := nearB_iff.mp hn e he
    have ro := hC o ho
    have re := wk_rng he
    have key : ∃ b, 0 - s ≤ b ∧ b < s + 1 ∧ (e + b) % p.1 = o := by
      have d0 := Int.emod_nonneg (o - e) (show p.1 ≠ 0 by omega)
      have d1 := Int.emod_nonneg (e - o) (show p.1 ≠ 0 by omega)
      unfold ap at q
      by_cases hq : (o - e) % p.1 ≤ s
      · exact ⟨(o - e) % p.1, by omega, by omega, off_of re.1 re.2 ro.1 ro.2⟩
      · refine ⟨-((e - o) % p.1), by omega, by omega, ?_⟩
        rw [← Int.sub_eq_add_neg, Int.sub_emod_emod, show e - (e - o) = o by omega]
        exact Int.emod_eq_of_lt ro.1 ro.2
    obtain ⟨b, b0, b1, eb⟩ := key
    have m := mn_le (l := (rng (0 - s) (s + 1)).map fun b => ((chP p ((e + b) % p.1) s).length : Int)) (List.mem_map.mpr ⟨b, mem_rng b0 b1, rfl⟩)
    rw [← h1, eb] at m
    have := ch_least hb ro.1 ro.2 s0 ho hC hn
    omega
theorem least_many_eq {p : Pl} (g : Good p) (h31 : p.2.length ≤ 31) {s : Int} (s0 : 0 ≤ s) (s1 : s ≤ 1000) : f_least_many [dP p, .int s] = .ok (.int (leastP p s)) := by
  have hb := g.b
  have wq := wakes_eq g h31
  refine runP_gs ?_
  simp only [startE, startE, rb_ok, rb_exc, rs_ok, rs_exc, s_seq, seq_nx, seq_rt, seq_bk, seq_ct, seq_exc, nxO_s, s_asg, s_par, s_par3, s_ret, s_expr, s_next, s_bk, s_ct, s_raise, s_if, ifS_t, ifS_f, ifS_exc, s_for, eVar, e_c, wOf_s, rOf_s, bOf_s, e_ix, asD_d, ob_s, om_s, e_d1, e_d2, e_dN, asDs_1, asDs_2, bvO_s, e_t, o1_s, o2_s, a_nil, a_cons, prO_ok, prO_exc, e_cp, e_cg, call_1, call_2, call_3, call_4, call_5, call_6, b_not, b_and, b_or, andB_t, andB_f, orB_t, orB_f, b_tr, truW_b, e_if, ifE_t, ifE_f, e_isN, e_notN, e_notV, notV_s, e_andV, andV_t, andV_f, e_ch, chO_t, chO_f, e_sl, o_no, o_yes, oiO_s, sl_t, sl_l, i_zip, zipI_t, zipI_l, add_ii, sub_ii, neg_i, lt_ii, le_ii, gt_ii, ge_ii, eq_ii, ne_ii, eq_ss, ne_ss, eq_bb, ne_bb, len_t, len_l, min_ii, max_ii, int_i, int_b, tup_l, tup_t, lst_l, lst_t, sum_ints, e_tup, e_lst, itO_s, i_any, itA_t, itA_l, i_r1, i_r2, bindT, bindTs, unpk_t, un_L, un_P, mkSq, allD, wipeE, LINE, List.map_cons, List.map_nil, List.length_cons, List.length_nil, List.replicate, List.cons_append, List.nil_append, Nat.sub_self, Nat.reduceSub, Nat.reduceAdd, List.getElem?_cons_zero, List.getElem?_cons_succ, List.set_cons_zero, List.set_cons_succ, reduceIte, Bool.false_eq_true, Bool.not_true, Bool.not_false, Nat.reduceLeDiff, if_true, if_false, decide_true, decide_false, e_slS, s_asgL, nxL_s, itL_l]
  cases hw : wk p with
  | nil =>
    rw [hw] at wq
    refine fin (r := .rt (.d (.int (leastP p s))) []) ?_ ⟨_, rfl⟩
    rw [least_nil hw]
    have en : oEq (.tuple []) (.tuple []) = some (.bool true) := by rw [eq_nil rfl]; rfl
    simp only [b_least_many, wq, List.map_nil, en, startE, rb_ok, rb_exc, rs_ok, rs_exc, s_seq, seq_nx, seq_rt, seq_bk, seq_ct, seq_exc, nxO_s, s_asg, s_par, s_par3, s_ret, s_expr, s_next, s_bk, s_ct, s_raise, s_if, ifS_t, ifS_f, ifS_exc, s_for, eVar, e_c, wOf_s, rOf_s, bOf_s, e_ix, asD_d, ob_s, om_s, e_d1, e_d2, e_dN, asDs_1, asDs_2, bvO_s, e_t, o1_s, o2_s, a_nil, a_cons, prO_ok, prO_exc, e_cp, e_cg, call_1, call_2, call_3, call_4, call_5, call_6, b_not, b_and, b_or, andB_t, andB_f, orB_t, orB_f, b_tr, truW_b, e_if, ifE_t, ifE_f, e_isN, e_notN, e_notV, notV_s, e_andV, andV_t, andV_f, e_ch, chO_t, chO_f, e_sl, o_no, o_yes, oiO_s, sl_t, sl_l, i_zip, zipI_t, zipI_l, add_ii, sub_ii, neg_i, lt_ii, le_ii, gt_ii, ge_ii, eq_ii, ne_ii, eq_ss, ne_ss, eq_bb, ne_bb, len_t, len_l, min_ii, max_ii, int_i, int_b, tup_l, tup_t, lst_l, lst_t, sum_ints, e_tup, e_lst, itO_s, i_any, itA_t, itA_l, i_r1, i_r2, bindT, bindTs, unpk_t, un_L, un_P, mkSq, allD, wipeE, LINE, List.map_cons, List.map_nil, List.length_cons, List.length_nil, List.replicate, List.cons_append, List.nil_append, Nat.sub_self, Nat.reduceSub, Nat.reduceAdd, List.getElem?_cons_zero, List.getElem?_cons_succ, List.set_cons_zero, List.set_cons_succ, reduceIte, Bool.false_eq_true, Bool.not_true, Bool.not_false, Nat.reduceLeDiff, if_true, if_false, decide_true, decide_false, e_slS, s_asgL, nxL_s, itL_l]
  | cons e r =>
    rw [hw] at wq
    have re := wk_rng (p := p) (e := e) (by rw [hw]; exact List.mem_cons_self)
    have en : oEq (.tuple ((e :: r).map .int)) (.tuple []) = some (.bool false) := by rw [eq_nil (sh_ints _)]; rfl
    have z1 : small (0 - s) := ⟨by omega, by omega⟩
    have z2 : small (s + 1) := ⟨by omega, by omega⟩
    have rl : (rng (0 - s) (s + 1)).length ≤ 10000 := by rw [rng_len]; omega
    have h1 := fun (x3 x5 y4 : Option Wv) (S : Store) => eComp_all (it := (iR2 (aCons (eD2 oSub (eC (.int 0)) (eVar 1)) (aCons (eD2 oAdd (eVar 1) (eC (.int 1))) aNil)))) (tg := (.nm 4)) (f := e1_least_many) (vs := [4]) (ρ := [some (.d (dP p)), some (.d (.int (s))), some (.d (.int (e))), x3, y4, x5]) (S := S) (xs := (rng (0 - s) (s + 1))) (fun z => .d (.int z)) (fun z => .int ((e + z) % p.1)) (fun z => [some (.d (dP p)), some (.d (.int (s))), some (.d (.int (e))), x3, some (.d (.int z)), x5]) (by simp only [r2O_s z1 z2, rngW_eq, startE, rb_ok, rb_exc, rs_ok, rs_exc, s_seq, seq_nx, seq_rt, seq_bk, seq_ct, seq_exc, nxO_s, s_asg, s_par, s_par3, s_ret, s_expr, s_next, s_bk, s_ct, s_raise, s_if, ifS_t, ifS_f, ifS_exc, s_for, eVar, e_c, wOf_s, rOf_s, bOf_s, e_ix, asD_d, ob_s, om_s, e_d1, e_d2, e_dN, asDs_1, asDs_2, bvO_s, e_t, o1_s, o2_s, a_nil, a_cons, prO_ok, prO_exc, e_cp, e_cg, call_1, call_2, call_3, call_4, call_5, call_6, b_not, b_and, b_or, andB_t, andB_f, orB_t, orB_f, b_tr, truW_b, e_if, ifE_t, ifE_f, e_isN, e_notN, e_notV, notV_s, e_andV, andV_t, andV_f, e_ch, chO_t, chO_f, e_sl, o_no, o_yes, oiO_s, sl_t, sl_l, i_zip, zipI_t, zipI_l, add_ii, sub_ii, neg_i, lt_ii, le_ii, gt_ii, ge_ii, eq_ii, ne_ii, eq_ss, ne_ss, eq_bb, ne_bb, len_t, len_l, min_ii, max_ii, int_i, int_b, tup_l, tup_t, lst_l, lst_t, sum_ints, e_tup, e_lst, itO_s, i_any, itA_t, itA_l, i_r1, i_r2, bindT, bindTs, unpk_t, un_L, un_P, mkSq, allD, wipeE, LINE, List.map_cons, List.map_nil, List.length_cons, List.length_nil, List.replicate, List.cons_append, List.nil_append, Nat.sub_self, Nat.reduceSub, Nat.reduceAdd, List.getElem?_cons_zero, List.getElem?_cons_succ, List.set_cons_zero, List.set_cons_succ, reduceIte, Bool.false_eq_true, Bool.not_true, Bool.not_false, Nat.reduceLeDiff, if_true, if_false, decide_true, decide_false, e_slS, s_asgL, nxL_s, itL_l]) (by unfold LINE; omega) (fun z _ => rfl) (fun z hz => by simp only [e1_least_many, ix_P0, mod_ii hb.1, startE, rb_ok, rb_exc, rs_ok, rs_exc, s_seq, seq_nx, seq_rt, seq_bk, seq_ct, seq_exc, nxO_s, s_asg, s_par, s_par3, s_ret, s_expr, s_next, s_bk, s_ct, s_raise, s_if, ifS_t, ifS_f, ifS_exc, s_for, eVar, e_c, wOf_s, rOf_s, bOf_s, e_ix, asD_d, ob_s, om_s, e_d1, e_d2, e_dN, asDs_1, asDs_2, bvO_s, e_t, o1_s, o2_s, a_nil, a_cons, prO_ok, prO_exc, e_cp, e_cg, call_1, call_2, call_3, call_4, call_5, call_6, b_not, b_and, b_or, andB_t, andB_f, orB_t, orB_f, b_tr, truW_b, e_if, ifE_t, ifE_f, e_isN, e_notN, e_notV, notV_s, e_andV, andV_t, andV_f, e_ch, chO_t, chO_f, e_sl, o_no, o_yes, oiO_s, sl_t, sl_l, i_zip, zipI_t, zipI_l, add_ii, sub_ii, neg_i, lt_ii, le_ii, gt_ii, ge_ii, eq_ii, ne_ii, eq_ss, ne_ss, eq_bb, ne_bb, len_t, len_l, min_ii, max_ii, int_i, int_b, tup_l, tup_t, lst_l, lst_t, sum_ints, e_tup, e_lst, itO_s, i_any, itA_t, itA_l, i_r1, i_r2, bindT, bindTs, unpk_t, un_L, un_P, mkSq, allD, wipeE, LINE, List.map_cons, List.map_nil, List.length_cons, List.length_nil, List.replicate, List.cons_append, List.nil_append, Nat.sub_self, Nat.reduceSub, Nat.reduceAdd, List.getElem?_cons_zero, List.getElem?_cons_succ, List.set_cons_zero, List.set_cons_succ, reduceIte, Bool.false_eq_true, Bool.not_true, Bool.not_false, Nat.reduceLeDiff, if_true, if_false, decide_true, decide_false, e_slS, s_asgL, nxL_s, itL_l])
    rw [map_in] at h1
    have h2 := fun (x4 y5 : Option Wv) (S : Store) => eComp_all (it := (iAny (eVar 3))) (tg := (.nm 5)) (f := e2_least_many) (vs := [5]) (ρ := [some (.d (dP p)), some (.d (.int (s))), some (.d (.int (e))), some (.d (.list (((rng (0 - s) (s + 1)).map fun b => (e + b) % p.1).map .int))), x4, y5]) (S := S) (xs := ((rng (0 - s) (s + 1)).map fun b => (e + b) % p.1)) (fun f => .d (.int f)) (fun f => .int ((chP p f s).length : Int)) (fun f => [some (.d (dP p)), some (.d (.int (s))), some (.d (.int (e))), some (.d (.list (((rng (0 - s) (s + 1)).map fun b => (e + b) % p.1).map .int))), x4, some (.d (.int f))]) (by simp only [mapd, startE, rb_ok, rb_exc, rs_ok, rs_exc, s_seq, seq_nx, seq_rt, seq_bk, seq_ct, seq_exc, nxO_s, s_asg, s_par, s_par3, s_ret, s_expr, s_next, s_bk, s_ct, s_raise, s_if, ifS_t, ifS_f, ifS_exc, s_for, eVar, e_c, wOf_s, rOf_s, bOf_s, e_ix, asD_d, ob_s, om_s, e_d1, e_d2, e_dN, asDs_1, asDs_2, bvO_s, e_t, o1_s, o2_s, a_nil, a_cons, prO_ok, prO_exc, e_cp, e_cg, call_1, call_2, call_3, call_4, call_5, call_6, b_not, b_and, b_or, andB_t, andB_f, orB_t, orB_f, b_tr, truW_b, e_if, ifE_t, ifE_f, e_isN, e_notN, e_notV, notV_s, e_andV, andV_t, andV_f, e_ch, chO_t, chO_f, e_sl, o_no, o_yes, oiO_s, sl_t, sl_l, i_zip, zipI_t, zipI_l, add_ii, sub_ii, neg_i, lt_ii, le_ii, gt_ii, ge_ii, eq_ii, ne_ii, eq_ss, ne_ss, eq_bb, ne_bb, len_t, len_l, min_ii, max_ii, int_i, int_b, tup_l, tup_t, lst_l, lst_t, sum_ints, e_tup, e_lst, itO_s, i_any, itA_t, itA_l, i_r1, i_r2, bindT, bindTs, unpk_t, un_L, un_P, mkSq, allD, wipeE, LINE, List.map_cons, List.map_nil, List.length_cons, List.length_nil, List.replicate, List.cons_append, List.nil_append, Nat.sub_self, Nat.reduceSub, Nat.reduceAdd, List.getElem?_cons_zero, List.getElem?_cons_succ, List.set_cons_zero, List.set_cons_succ, reduceIte, Bool.false_eq_true, Bool.not_true, Bool.not_false, Nat.reduceLeDiff, if_true, if_false, decide_true, decide_false, e_slS, s_asgL, nxL_s, itL_l]) (by rw [List.length_map]; unfold LINE; omega) (fun f _ => rfl) (fun f hf => by
      obtain ⟨b, _, rfl⟩ := List.mem_map.mp hf
      simp only [e2_least_many, chain_eq g h31 (Int.emod_nonneg _ (by omega)) (Int.emod_lt_of_pos _ hb.1) s0, List.length_map, startE, rb_ok, rb_exc, rs_ok, rs_exc, s_seq, seq_nx, seq_rt, seq_bk, seq_ct, seq_exc, nxO_s, s_asg, s_par, s_par3, s_ret, s_expr, s_next, s_bk, s_ct, s_raise, s_if, ifS_t, ifS_f, ifS_exc, s_for, eVar, e_c, wOf_s, rOf_s, bOf_s, e_ix, asD_d, ob_s, om_s, e_d1, e_d2, e_dN, asDs_1, asDs_2, bvO_s, e_t, o1_s, o2_s, a_nil, a_cons, prO_ok, prO_exc, e_cp, e_cg, call_1, call_2, call_3, call_4, call_5, call_6, b_not, b_and, b_or, andB_t, andB_f, orB_t, orB_f, b_tr, truW_b, e_if, ifE_t, ifE_f, e_isN, e_notN, e_notV, notV_s, e_andV, andV_t, andV_f, e_ch, chO_t, chO_f, e_sl, o_no, o_yes, oiO_s, sl_t, sl_l, i_zip, zipI_t, zipI_l, add_ii, sub_ii, neg_i, lt_ii, le_ii, gt_ii, ge_ii, eq_ii, ne_ii, eq_ss, ne_ss, eq_bb, ne_bb, len_t, len_l, min_ii, max_ii, int_i, int_b, tup_l, tup_t, lst_l, lst_t, sum_ints, e_tup, e_lst, itO_s, i_any, itA_t, itA_l, i_r1, i_r2, bindT, bindTs, unpk_t, un_L, un_P, mkSq, allD, wipeE, LINE, List.map_cons, List.map_nil, List.length_cons, List.length_nil, List.replicate, List.cons_append, List.nil_append, Nat.sub_self, Nat.reduceSub, Nat.reduceAdd, List.getElem?_cons_zero, List.getElem?_cons_succ, List.set_cons_zero, List.set_cons_succ, reduceIte, Bool.false_eq_true, Bool.not_true, Bool.not_false, Nat.reduceLeDiff, if_true, if_false, decide_true, decide_false, e_slS, s_asgL, nxL_s, itL_l])
    have hm : (((rng (0 - s) (s + 1)).map fun b => (e + b) % p.1).map fun f => PyData.int ((chP p f s).length : Int)) = ((rng (0 - s) (s + 1)).map ((fun f => ((chP p f s).length : Int)) ∘ fun b => (e + b) % p.1)).map .int := by rw [List.map_map, List.map_map]; rfl
    rw [hm] at h2
    have mi := min1_l (xs := (rng (0 - s) (s + 1)).map ((fun f => ((chP p f s).length : Int)) ∘ fun b => (e + b) % p.1)) (by rw [rng_cons (by omega)]; simp)
    have lp : leastP p s = mn ((rng (0 - s) (s + 1)).map ((fun f => ((chP p f s).length : Int)) ∘ fun b => (e + b) % p.1)) := by unfold leastP; rw [hw]; rfl
    rw [← lp] at mi
    simp only [List.map_cons] at wq en
    apply step
    · simp only [wq, en, startE, rb_ok, rb_exc, rs_ok, rs_exc, s_seq, seq_nx, seq_rt, seq_bk, seq_ct, seq_exc, nxO_s, s_asg, s_par, s_par3, s_ret, s_expr, s_next, s_bk, s_ct, s_raise, s_if, ifS_t, ifS_f, ifS_exc, s_for, eVar, e_c, wOf_s, rOf_s, bOf_s, e_ix, asD_d, ob_s, om_s, e_d1, e_d2, e_dN, asDs_1, asDs_2, bvO_s, e_t, o1_s, o2_s, a_nil, a_cons, prO_ok, prO_exc, e_cp, e_cg, call_1, call_2, call_3, call_4, call_5, call_6, b_not, b_and, b_or, andB_t, andB_f, orB_t, orB_f, b_tr, truW_b, e_if, ifE_t, ifE_f, e_isN, e_notN, e_notV, notV_s, e_andV, andV_t, andV_f, e_ch, chO_t, chO_f, e_sl, o_no, o_yes, oiO_s, sl_t, sl_l, i_zip, zipI_t, zipI_l, add_ii, sub_ii, neg_i, lt_ii, le_ii, gt_ii, ge_ii, eq_ii, ne_ii, eq_ss, ne_ss, eq_bb, ne_bb, len_t, len_l, min_ii, max_ii, int_i, int_b, tup_l, tup_t, lst_l, lst_t, sum_ints, e_tup, e_lst, itO_s, i_any, itA_t, itA_l, i_r1, i_r2, bindT, bindTs, unpk_t, un_L, un_P, mkSq, allD, wipeE, LINE, List.map_cons, List.map_nil, List.length_cons, List.length_nil, List.replicate, List.cons_append, List.nil_append, Nat.sub_self, Nat.reduceSub, Nat.reduceAdd, List.getElem?_cons_zero, List.getElem?_cons_succ, List.set_cons_zero, List.set_cons_succ, reduceIte, Bool.false_eq_true, Bool.not_true, Bool.not_false, Nat.reduceLeDiff, if_true, if_false, decide_true, decide_false, e_slS, s_asgL, nxL_s, itL_l]
      try rfl
    apply step
    · simp only [wq, ix_head, startE, rb_ok, rb_exc, rs_ok, rs_exc, s_seq, seq_nx, seq_rt, seq_bk, seq_ct, seq_exc, nxO_s, s_asg, s_par, s_par3, s_ret, s_expr, s_next, s_bk, s_ct, s_raise, s_if, ifS_t, ifS_f, ifS_exc, s_for, eVar, e_c, wOf_s, rOf_s, bOf_s, e_ix, asD_d, ob_s, om_s, e_d1, e_d2, e_dN, asDs_1, asDs_2, bvO_s, e_t, o1_s, o2_s, a_nil, a_cons, prO_ok, prO_exc, e_cp, e_cg, call_1, call_2, call_3, call_4, call_5, call_6, b_not, b_and, b_or, andB_t, andB_f, orB_t, orB_f, b_tr, truW_b, e_if, ifE_t, ifE_f, e_isN, e_notN, e_notV, notV_s, e_andV, andV_t, andV_f, e_ch, chO_t, chO_f, e_sl, o_no, o_yes, oiO_s, sl_t, sl_l, i_zip, zipI_t, zipI_l, add_ii, sub_ii, neg_i, lt_ii, le_ii, gt_ii, ge_ii, eq_ii, ne_ii, eq_ss, ne_ss, eq_bb, ne_bb, len_t, len_l, min_ii, max_ii, int_i, int_b, tup_l, tup_t, lst_l, lst_t, sum_ints, e_tup, e_lst, itO_s, i_any, itA_t, itA_l, i_r1, i_r2, bindT, bindTs, unpk_t, un_L, un_P, mkSq, allD, wipeE, LINE, List.map_cons, List.map_nil, List.length_cons, List.length_nil, List.replicate, List.cons_append, List.nil_append, Nat.sub_self, Nat.reduceSub, Nat.reduceAdd, List.getElem?_cons_zero, List.getElem?_cons_succ, List.set_cons_zero, List.set_cons_succ, reduceIte, Bool.false_eq_true, Bool.not_true, Bool.not_false, Nat.reduceLeDiff, if_true, if_false, decide_true, decide_false, e_slS, s_asgL, nxL_s, itL_l]
      try rfl
    apply step
    · simp only [h1, startE, rb_ok, rb_exc, rs_ok, rs_exc, s_seq, seq_nx, seq_rt, seq_bk, seq_ct, seq_exc, nxO_s, s_asg, s_par, s_par3, s_ret, s_expr, s_next, s_bk, s_ct, s_raise, s_if, ifS_t, ifS_f, ifS_exc, s_for, eVar, e_c, wOf_s, rOf_s, bOf_s, e_ix, asD_d, ob_s, om_s, e_d1, e_d2, e_dN, asDs_1, asDs_2, bvO_s, e_t, o1_s, o2_s, a_nil, a_cons, prO_ok, prO_exc, e_cp, e_cg, call_1, call_2, call_3, call_4, call_5, call_6, b_not, b_and, b_or, andB_t, andB_f, orB_t, orB_f, b_tr, truW_b, e_if, ifE_t, ifE_f, e_isN, e_notN, e_notV, notV_s, e_andV, andV_t, andV_f, e_ch, chO_t, chO_f, e_sl, o_no, o_yes, oiO_s, sl_t, sl_l, i_zip, zipI_t, zipI_l, add_ii, sub_ii, neg_i, lt_ii, le_ii, gt_ii, ge_ii, eq_ii, ne_ii, eq_ss, ne_ss, eq_bb, ne_bb, len_t, len_l, min_ii, max_ii, int_i, int_b, tup_l, tup_t, lst_l, lst_t, sum_ints, e_tup, e_lst, itO_s, i_any, itA_t, itA_l, i_r1, i_r2, bindT, bindTs, unpk_t, un_L, un_P, mkSq, allD, wipeE, LINE, List.map_cons, List.map_nil, List.length_cons, List.length_nil, List.replicate, List.cons_append, List.nil_append, Nat.sub_self, Nat.reduceSub, Nat.reduceAdd, List.getElem?_cons_zero, List.getElem?_cons_succ, List.set_cons_zero, List.set_cons_succ, reduceIte, Bool.false_eq_true, Bool.not_true, Bool.not_false, Nat.reduceLeDiff, if_true, if_false, decide_true, decide_false, e_slS, s_asgL, nxL_s, itL_l]
      try rfl
    apply fin
    · simp only [h2, mi, startE, rb_ok, rb_exc, rs_ok, rs_exc, s_seq, seq_nx, seq_rt, seq_bk, seq_ct, seq_exc, nxO_s, s_asg, s_par, s_par3, s_ret, s_expr, s_next, s_bk, s_ct, s_raise, s_if, ifS_t, ifS_f, ifS_exc, s_for, eVar, e_c, wOf_s, rOf_s, bOf_s, e_ix, asD_d, ob_s, om_s, e_d1, e_d2, e_dN, asDs_1, asDs_2, bvO_s, e_t, o1_s, o2_s, a_nil, a_cons, prO_ok, prO_exc, e_cp, e_cg, call_1, call_2, call_3, call_4, call_5, call_6, b_not, b_and, b_or, andB_t, andB_f, orB_t, orB_f, b_tr, truW_b, e_if, ifE_t, ifE_f, e_isN, e_notN, e_notV, notV_s, e_andV, andV_t, andV_f, e_ch, chO_t, chO_f, e_sl, o_no, o_yes, oiO_s, sl_t, sl_l, i_zip, zipI_t, zipI_l, add_ii, sub_ii, neg_i, lt_ii, le_ii, gt_ii, ge_ii, eq_ii, ne_ii, eq_ss, ne_ss, eq_bb, ne_bb, len_t, len_l, min_ii, max_ii, int_i, int_b, tup_l, tup_t, lst_l, lst_t, sum_ints, e_tup, e_lst, itO_s, i_any, itA_t, itA_l, i_r1, i_r2, bindT, bindTs, unpk_t, un_L, un_P, mkSq, allD, wipeE, LINE, List.map_cons, List.map_nil, List.length_cons, List.length_nil, List.replicate, List.cons_append, List.nil_append, Nat.sub_self, Nat.reduceSub, Nat.reduceAdd, List.getElem?_cons_zero, List.getElem?_cons_succ, List.set_cons_zero, List.set_cons_succ, reduceIte, Bool.false_eq_true, Bool.not_true, Bool.not_false, Nat.reduceLeDiff, if_true, if_false, decide_true, decide_false, e_slS, s_asgL, nxL_s, itL_l]
      try rfl
    exact ⟨_, rfl⟩
theorem gz_all : ∀ (xs : List Int) (d : Int), xs.Pairwise (· < ·) → (∀ x ∈ xs, d < x) → gz 0 d xs = xs
  | [], _, _, _ => rfl
  | x :: r, d, up, h => by
    rw [List.pairwise_cons] at up
    rw [gz, if_pos (h x List.mem_cons_self), gz_all r _ up.2 fun y hy => by have := up.1 y hy; omega]
    rw [show x + 0 = x by omega]
/-- with no slack all edges -/
theorem least_0 {p : Pl} (g : Good p) : leastP p 0 = ((wk p).length : Int) := by
  have hb := g.b
  cases hw : wk p with
  | nil => rw [least_nil hw]; rfl
  | cons e r =>
    have re := wk_rng (p := p) (e := e) (by rw [hw]; exact List.mem_cons_self)
    have up := wk_up p
    rw [hw, List.pairwise_cons] at up
    have h1 : leastP p 0 = mn ((rng (0 - 0) (0 + 1)).map fun b => ((chP p ((e + b) % p.1) 0).length : Int)) := by unfold leastP; rw [hw]
    have h2 : (rng (0 - 0) (0 + 1) : List Int) = [0] := rfl
    rw [h1, h2]
    show ((chP p ((e + 0) % p.1) 0).length : Int) = _
    rw [show e + 0 = e by omega, Int.emod_eq_of_lt re.1 re.2]
    unfold chP chL
    rw [si_len, List.length_cons, List.length_map, gz_all _ _ (offs_up p e 0) fun x hx => (mem_offs.mp hx).1.1, ← off_eq g re.1 re.2 (Int.le_refl 0), si_len, List.length_map, hw, List.filter_cons, ap_self, decide_eq_false (by omega), if_neg Bool.false_ne_true, List.filter_eq_self.mpr, List.length_cons]
    intro x hx
    have rx := wk_rng (p := p) (e := x) (by rw [hw]; exact List.mem_cons_of_mem _ hx)
    have := up.1 x hx
    rw [ap_in rx.1 rx.2 re.1 re.2, if_neg (by omega)]
    exact decide_eq_true (by omega)
end PL

/-! # PL, part i: any of a tuple of numbers -/
namespace PL
open PySem PySem.Spec PyProof.Rows L2 PySem.SeqAt PySem.W
def oAnyX : PyData → Option PyData
  | .tuple xs => match intsOf xs with
    | some ns => some (.bool (ns.any fun n => n != 0))
    | none => none
  | x => oAny x
def rAnyI (K : PySem.W.Frag) : List V → Hp → VK → Prop := fun vs H Q => ∃ (a : Addr) (xs : List V) (ns : List Int), vs = [V.ref a] ∧ SqT K H a xs ∧ DpAll K H xs (ns.map .int) ∧ Q (.bl (ns.any fun n => n != 0)) H
section
variable {X : Cx} {ct : Str → Addr} {ex : WX} {e o : Expr} {es : List Expr} {f g : Ef} {fl : Lf} {p pos apos : Pos}
theorem plain_ints : ∀ ns : List Int, PyData.plainAll (ns.map .int) = true
  | [] => rfl
  | n :: r => by rw [List.map_cons, PyData.plainAll, plain_ints r]; rfl
theorem cr_anyI (hc : X.calm = true) : CallR X (.builtin "any") (rAnyI X.K) := by
  intro pins s σ H vs us Q I r h
  obtain ⟨a, xs, ns, rfl, hs, hd, q⟩ := h
  rw [Vals.ref1 r]
  obtain ⟨its, rv, hl, _⟩ := I.tuple hs
  obtain ⟨as, hr⟩ := Dp.readsAll I _ _ _ hd rv
  refine any_tuple_data (vs := its.toArray) (I.ok.hd hc) hl hr (plain_ints ns) (fun x hx => ?_) fun h' tk hk => ?_
  · obtain ⟨n, _, rfl⟩ := List.mem_map.mp hx
    exact trivial
  · refine ⟨.bl _, H, I.kept hk, ?_, q⟩
    show Value.bool _ = Value.bool _
    rw [List.any_map]
    rfl
theorem ok_anyX : OpN (CC X ct ex) (fun vs H Q => rAny X.K vs H Q ∨ rAnyI X.K vs H Q) (o1 oAnyX) := opN_one fun W S H v x y Q st hx e q => by
  cases x with
  | list xs =>
    have e0 : (match blsOf xs with | some ns => some (PyData.bool (ns.any id)) | none => none) = some y := e
    cases e1 : blsOf xs with
    | none => rw [e1] at e0; cases e0
    | some ns =>
      rw [e1] at e0; cases e0
      have e2 := blsOf_eq e1
      subst e2
      obtain ⟨a, vs, rfl, h1, h2⟩ := hx
      have e3 := dpBls h2
      subst e3
      exact .inl ⟨_, ns, rfl, h1, q.flat fun _ => .bl _⟩
  | tuple xs =>
    have e0 : (match intsOf xs with | some ns => some (PyData.bool (ns.any fun n => n != 0)) | none => none) = some y := e
    cases e1 : intsOf xs with
    | none => rw [e1] at e0; cases e0
    | some ns =>
      rw [e1] at e0; cases e0
      have e2 := intsOf_eq e1
      subst e2
      cases hx with
      | tup h1 h2 => exact .inr ⟨_, _, ns, rfl, Same.seqT (mask_same _ _) h1, DpAll.same (mask_same _ _) _ _ h2, q.flat fun _ => .bl _⟩
  | _ => cases e
theorem ee_anyX (hm : X.mg "any" = none) (hc : X.calm = true) (ha : PA X (e :: es) (tL (CC X ct ex) fl)) (hg : Gl X "any" := by rfl) (he : starEach (e :: es) X.env = (false, eval e X.env) :: starEach es X.env := by rfl) (hpl : (backTo pos (starEach es X.env)).any (·.1) = false := by rfl) :
    PE X (.Call (.Name "any" p) (e :: es) [] pos) (tE (CC X ct ex) (eDN (o1 oAnyX) fl)) := ee_callB ((cr_any hc).or (cr_anyI hc)) ok_anyX hm (by decide +kernel) ha hg (by decide) (by decide) he hpl
end
theorem anyX_ints {ns : List Int} : oAnyX (.tuple (ns.map .int)) = some (.bool (ns.any fun n => n != 0)) := by
  show (match intsOf (ns.map .int) with | some ns => some (PyData.bool (ns.any fun n => n != 0)) | none => none) = _
  rw [intsOf_map]
end PL

/-! # PL, part j: quiet stretches -/
namespace PL
open PySem PySem.Spec PyProof.Rows L2 PySem.SeqAt PySem.W
def dk (p : Pl) (b : Int) : Bool := decide (ct p b = 0)
theorem dk_mod {p : Pl} (b : Int) : dk p (b % p.1) = dk p b := by unfold dk; rw [ct_mod]
theorem dk_add {p : Pl} (b : Int) : dk p (b + p.1) = dk p b := by
  have := ct_round p b 1
  rw [Int.one_mul] at this
  unfold dk; rw [this]
/-- as far as q holds, from m on, at most k -/
def fst (q : Nat → Bool) : Nat → Nat → Nat
  | 0, m => m
  | k + 1, m => if q m = true then fst q k (m + 1) else m
theorem fst_spec (q : Nat → Bool) : ∀ (k m : Nat), m ≤ fst q k m ∧ fst q k m ≤ m + k ∧ (∀ j, m ≤ j → j < fst q k m → q j = true) ∧ (fst q k m < m + k → q (fst q k m) = false)
  | 0, m => ⟨Nat.le_refl _, Nat.le_refl _, fun j h1 h2 => by unfold fst at h2; omega, fun h => by unfold fst at h; omega⟩
  | k + 1, m => by
    unfold fst
    by_cases h : q m = true
    · rw [if_pos h]
      obtain ⟨a, b, c, d⟩ := fst_spec q k (m + 1)
      refine ⟨by omega, by omega, fun j h1 h2 => ?_, fun h1 => d (by omega)⟩
      by_cases e : j = m
      · rw [e]; exact h
      · exact c j (by omega) h2
    · rw [if_neg h]
      exact ⟨Nat.le_refl _, by omega, fun j h1 h2 => by omega, fun _ => by simpa using h⟩
def run (p : Pl) (b : Int) : Nat := fst (fun m => dk p (b + (m : Int))) p.1.toNat 0
theorem run_le (p : Pl) (b : Int) : run p b ≤ p.1.toNat := by
  have := (fst_spec (fun m => dk p (b + (m : Int))) p.1.toNat 0).2.1
  unfold run; omega
theorem run_dk {p : Pl} {b : Int} {j : Nat} (h : j < run p b) : dk p (b + (j : Int)) = true := (fst_spec (fun m => dk p (b + (m : Int))) p.1.toNat 0).2.2.1 j (Nat.zero_le _) h
def allDk (p : Pl) : Bool := (rng 0 p.1).all fun b => dk p b
theorem allDk_iff {p : Pl} (hb : 0 < p.1) : allDk p = true ↔ ∀ b, dk p b = true := by
  unfold allDk
  rw [List.all_eq_true]
  constructor
  · intro h b
    rw [← dk_mod]
    exact h _ (mem_rng (Int.emod_nonneg _ (by omega)) (Int.emod_lt_of_pos _ hb))
  · intro h b _
    exact h b
/-- n beats on end: one of them is any -/
theorem in_round {n : Int} (hn : 0 < n) (b c : Int) : ∃ j : Nat, (j : Int) < n ∧ (b + (j : Int)) % n = c % n := by
  have h0 := Int.emod_nonneg (c - b) (show n ≠ 0 by omega)
  have h1 := Int.emod_lt_of_pos (c - b) hn
  refine ⟨((c - b) % n).toNat, by omega, ?_⟩
  rw [Int.toNat_of_nonneg h0, Int.add_comm, Int.emod_add_emod, show c - b + b = c by omega]
theorem run_lt {p : Pl} (hb : 0 < p.1) (h : allDk p = false) (b : Int) : (run p b : Int) < p.1 ∧ dk p (b + (run p b : Int)) = false := by
  have le := run_le p b
  have lt : (run p b : Int) < p.1 := by
    rcases Decidable.em ((run p b : Int) < p.1) with q | q
    · exact q
    · exfalso
      have e : allDk p = true := (allDk_iff hb).mpr fun c => by
        obtain ⟨j, h1, h2⟩ := in_round hb b c
        rw [← dk_mod c, ← h2, dk_mod]
        exact run_dk (by omega)
      rw [e] at h; cases h
  refine ⟨lt, (fst_spec (fun m => dk p (b + (m : Int))) p.1.toNat 0).2.2.2 ?_⟩
  show run p b < 0 + p.1.toNat
  omega
theorem run_is {p : Pl} (hb : 0 < p.1) {b : Int} {m : Nat} (h1 : ∀ j : Nat, j < m → dk p (b + (j : Int)) = true) (h2 : dk p (b + (m : Int)) = false) : run p b = m := by
  have ha : allDk p = false := by
    cases e : allDk p with
    | false => rfl
    | true => rw [(allDk_iff hb).mp e] at h2; cases h2
  obtain ⟨r1, r2⟩ := run_lt hb ha b
  rcases Nat.lt_trichotomy (run p b) m with q | q | q
  · rw [h1 _ q] at r2; cases r2
  · exact q
  · rw [run_dk q] at h2; cases h2
theorem run_mod {p : Pl} (hb : 0 < p.1) (ha : allDk p = false) (b : Int) : run p (b % p.1) = run p b := by
  have s : ∀ j : Int, dk p (b % p.1 + j) = dk p (b + j) := fun j => by rw [← dk_mod, Int.emod_add_emod, dk_mod]
  exact run_is hb (fun j h => by rw [s]; exact run_dk h) (by rw [s]; exact (run_lt hb ha b).2)
def isStart (p : Pl) (b : Int) : Bool := dk p b && !dk p (b - 1)
def starts (p : Pl) : List Int := (rng 0 p.1).filter fun b => isStart p b
def runs (p : Pl) : List Int := (starts p).map fun b => (run p b : Int)
def longP (p : Pl) : Int := mx (0 :: runs p)
def dQ (q : Int × Int) : PyData := .tuple [.int q.1, .int q.2]
def quietP (p : Pl) : List (Int × Int) := if allDk p = true then [(0, p.1)] else ((starts p).map fun b => (b, (run p b : Int))).filter fun q => decide (q.2 = longP p)
theorem mem_starts {p : Pl} {b : Int} : b ∈ starts p ↔ (0 ≤ b ∧ b < p.1) ∧ dk p b = true ∧ dk p (b - 1) = false := by
  unfold starts isStart
  rw [List.mem_filter, Bool.and_eq_true, Bool.not_eq_true']
  constructor
  · rintro ⟨h1, h2⟩
    exact ⟨rng_mem h1, h2⟩
  · rintro ⟨h1, h2⟩
    exact ⟨mem_rng h1.1 h1.2, h2⟩
theorem starts_up (p : Pl) : (starts p).Pairwise (· < ·) := List.Pairwise.sublist List.filter_sublist (rng_up _ _)
theorem starts_len (p : Pl) : (starts p).length ≤ p.1.toNat := by
  have := List.length_filter_le (fun b => isStart p b) (rng 0 p.1)
  rw [rng_len] at this
  unfold starts; omega
theorem mem_quiet {p : Pl} (ha : allDk p = false) {b m : Int} : (b, m) ∈ quietP p ↔ b ∈ starts p ∧ m = (run p b : Int) ∧ m = longP p := by
  unfold quietP
  rw [if_neg (by rw [ha]; decide), List.mem_filter, decide_eq_true_eq, List.mem_map]
  constructor
  · rintro ⟨⟨c, hc, e⟩, h⟩
    cases e
    exact ⟨hc, rfl, h⟩
  · rintro ⟨h1, rfl, h2⟩
    exact ⟨⟨b, h1, rfl⟩, h2⟩
theorem long_ge {p : Pl} {b : Int} (h : b ∈ starts p) : (run p b : Int) ≤ longP p := (mx_le (by simp)).mp (Int.le_refl _) _ (List.mem_cons_of_mem _ (List.mem_map.mpr ⟨b, h, rfl⟩))
theorem long_0 (p : Pl) : 0 ≤ longP p := (mx_le (by simp)).mp (Int.le_refl _) _ List.mem_cons_self
theorem long_is (p : Pl) : longP p = 0 ∨ ∃ b ∈ starts p, longP p = (run p b : Int) := by
  rcases List.mem_cons.mp (mx_mem (l := 0 :: runs p) (by simp)) with h | h
  · exact .inl h
  · obtain ⟨b, hb, e⟩ := List.mem_map.mp h
    exact .inr ⟨b, hb, e.symm⟩
/-- a place in the row of n, from -n on -/
theorem ix_round {n : Int} (hn : 0 < n) (f : Int → PyData) (hf : ∀ b, f (b + n) = f b) {b : Int} (h0 : -n ≤ b) (h1 : b < n) : atI ((rng 0 n).map f) b = some (f b) := by
  have hl : ((rng 0 n).map f).length = n.toNat := by rw [List.length_map, rng_len, Int.sub_zero]
  have get : ∀ i : Nat, (i : Int) < n → ((rng 0 n).map f)[i]? = some (f i) := fun i hi => by
    rw [List.getElem?_map]
    unfold rng
    rw [List.getElem?_map, List.getElem?_range (by omega)]
    show some (f (0 + (i : Int))) = _
    rw [Int.zero_add]
  unfold atI ixN
  rw [hl]
  by_cases hb : 0 ≤ b
  · rw [if_pos hb, if_pos (by omega)]
    show ((rng 0 n).map f)[b.toNat]? = _
    rw [get _ (by omega), Int.toNat_of_nonneg hb]
  · rw [if_neg hb, if_pos (by omega)]
    show ((rng 0 n).map f)[(b + (n.toNat : Int)).toNat]? = _
    rw [get _ (by omega), Int.toNat_of_nonneg (by omega), Int.toNat_of_nonneg (by omega), hf]
theorem quiet_eq {p : Pl} (g : Good p) : f_quiet [dP p] = .ok (.tuple ((quietP p).map dQ)) := by
  have hb := g.b
  have sp : small p.1 := ⟨by omega, by omega⟩
  have rl : (rng 0 p.1).length ≤ 100000 := by rw [rng_len]; omega
  have sl := starts_len p
  have h1 := fun (x1 x2 x4 x5 x6 y3 : Option Wv) (S : Store) => eComp_all (it := (iR1 (aCons (eIx (eVar 0) (eC (.int 0))) aNil))) (tg := (.nm 3)) (f := e1_quiet) (vs := [3]) (ρ := [some (.d (dP p)), x1, x2, y3, x4, x5, x6]) (S := S) (xs := rng 0 p.1) (fun e => .d (.int e)) (fun e => .bool (dk p e)) (fun e => [some (.d (dP p)), x1, x2, some (.d (.int e)), x4, x5, x6]) (by simp only [ix_P0, r1O_s sp, rngW0_eq, startE, rb_ok, rb_exc, rs_ok, rs_exc, s_seq, seq_nx, seq_rt, seq_bk, seq_ct, seq_exc, nxO_s, s_asg, s_par, s_par3, s_ret, s_expr, s_next, s_bk, s_ct, s_raise, s_if, ifS_t, ifS_f, ifS_exc, s_for, eVar, e_c, wOf_s, rOf_s, bOf_s, e_ix, asD_d, ob_s, om_s, e_d1, e_d2, e_dN, asDs_1, asDs_2, bvO_s, e_t, o1_s, o2_s, a_nil, a_cons, prO_ok, prO_exc, e_cp, e_cg, call_1, call_2, call_3, call_4, call_5, call_6, b_not, b_and, b_or, andB_t, andB_f, orB_t, orB_f, b_tr, truW_b, e_if, ifE_t, ifE_f, e_isN, e_notN, e_notV, notV_s, e_andV, andV_t, andV_f, e_ch, chO_t, chO_f, e_sl, o_no, o_yes, oiO_s, sl_t, sl_l, i_zip, zipI_t, zipI_l, add_ii, sub_ii, neg_i, lt_ii, le_ii, gt_ii, ge_ii, eq_ii, ne_ii, eq_ss, ne_ss, eq_bb, ne_bb, len_t, len_l, min_ii, max_ii, int_i, int_b, tup_l, tup_t, lst_l, lst_t, sum_ints, e_tup, e_lst, itO_s, i_any, itA_t, itA_l, i_r1, i_r2, bindT, bindTs, unpk_t, un_L, un_P, mkSq, allD, wipeE, LINE, List.map_cons, List.map_nil, List.length_cons, List.length_nil, List.replicate, List.cons_append, List.nil_append, Nat.sub_self, Nat.reduceSub, Nat.reduceAdd, List.getElem?_cons_zero, List.getElem?_cons_succ, List.set_cons_zero, List.set_cons_succ, reduceIte, Bool.false_eq_true, Bool.not_true, Bool.not_false, Nat.reduceLeDiff, if_true, if_false, decide_true, decide_false, e_slS, s_asgL, nxL_s, itL_l]) (by unfold LINE; omega) (fun e _ => rfl) (fun e he => by simp only [e1_quiet, on_at_eq g, List.length_map, onAt_len, startE, rb_ok, rb_exc, rs_ok, rs_exc, s_seq, seq_nx, seq_rt, seq_bk, seq_ct, seq_exc, nxO_s, s_asg, s_par, s_par3, s_ret, s_expr, s_next, s_bk, s_ct, s_raise, s_if, ifS_t, ifS_f, ifS_exc, s_for, eVar, e_c, wOf_s, rOf_s, bOf_s, e_ix, asD_d, ob_s, om_s, e_d1, e_d2, e_dN, asDs_1, asDs_2, bvO_s, e_t, o1_s, o2_s, a_nil, a_cons, prO_ok, prO_exc, e_cp, e_cg, call_1, call_2, call_3, call_4, call_5, call_6, b_not, b_and, b_or, andB_t, andB_f, orB_t, orB_f, b_tr, truW_b, e_if, ifE_t, ifE_f, e_isN, e_notN, e_notV, notV_s, e_andV, andV_t, andV_f, e_ch, chO_t, chO_f, e_sl, o_no, o_yes, oiO_s, sl_t, sl_l, i_zip, zipI_t, zipI_l, add_ii, sub_ii, neg_i, lt_ii, le_ii, gt_ii, ge_ii, eq_ii, ne_ii, eq_ss, ne_ss, eq_bb, ne_bb, len_t, len_l, min_ii, max_ii, int_i, int_b, tup_l, tup_t, lst_l, lst_t, sum_ints, e_tup, e_lst, itO_s, i_any, itA_t, itA_l, i_r1, i_r2, bindT, bindTs, unpk_t, un_L, un_P, mkSq, allD, wipeE, LINE, List.map_cons, List.map_nil, List.length_cons, List.length_nil, List.replicate, List.cons_append, List.nil_append, Nat.sub_self, Nat.reduceSub, Nat.reduceAdd, List.getElem?_cons_zero, List.getElem?_cons_succ, List.set_cons_zero, List.set_cons_succ, reduceIte, Bool.false_eq_true, Bool.not_true, Bool.not_false, Nat.reduceLeDiff, if_true, if_false, decide_true, decide_false, e_slS, s_asgL, nxL_s, itL_l]; rfl)
  have dix : ∀ (S : Store) (b : Int), -p.1 ≤ b → b < p.1 → ixW S (.d (.list ((rng 0 p.1).map fun e => PyData.bool (dk p e)))) (.d (.int b)) = some (.d (.bool (dk p b))) := fun S b h0 h1 => ix_list (ix_round hb.1 (fun e => PyData.bool (dk p e)) (fun e => by rw [dk_add]) h0 h1)
  have al : oAll (.list ((rng 0 p.1).map fun e => PyData.bool (dk p e))) = some (.bool (allDk p)) := by
    have := all_bls (bs := (rng 0 p.1).map fun e => dk p e)
    rw [List.map_map] at this
    refine Eq.trans this ?_
    rw [List.all_map]; rfl
  refine runP_gs ?_
  simp only [startE, startE, rb_ok, rb_exc, rs_ok, rs_exc, s_seq, seq_nx, seq_rt, seq_bk, seq_ct, seq_exc, nxO_s, s_asg, s_par, s_par3, s_ret, s_expr, s_next, s_bk, s_ct, s_raise, s_if, ifS_t, ifS_f, ifS_exc, s_for, eVar, e_c, wOf_s, rOf_s, bOf_s, e_ix, asD_d, ob_s, om_s, e_d1, e_d2, e_dN, asDs_1, asDs_2, bvO_s, e_t, o1_s, o2_s, a_nil, a_cons, prO_ok, prO_exc, e_cp, e_cg, call_1, call_2, call_3, call_4, call_5, call_6, b_not, b_and, b_or, andB_t, andB_f, orB_t, orB_f, b_tr, truW_b, e_if, ifE_t, ifE_f, e_isN, e_notN, e_notV, notV_s, e_andV, andV_t, andV_f, e_ch, chO_t, chO_f, e_sl, o_no, o_yes, oiO_s, sl_t, sl_l, i_zip, zipI_t, zipI_l, add_ii, sub_ii, neg_i, lt_ii, le_ii, gt_ii, ge_ii, eq_ii, ne_ii, eq_ss, ne_ss, eq_bb, ne_bb, len_t, len_l, min_ii, max_ii, int_i, int_b, tup_l, tup_t, lst_l, lst_t, sum_ints, e_tup, e_lst, itO_s, i_any, itA_t, itA_l, i_r1, i_r2, bindT, bindTs, unpk_t, un_L, un_P, mkSq, allD, wipeE, LINE, List.map_cons, List.map_nil, List.length_cons, List.length_nil, List.replicate, List.cons_append, List.nil_append, Nat.sub_self, Nat.reduceSub, Nat.reduceAdd, List.getElem?_cons_zero, List.getElem?_cons_succ, List.set_cons_zero, List.set_cons_succ, reduceIte, Bool.false_eq_true, Bool.not_true, Bool.not_false, Nat.reduceLeDiff, if_true, if_false, decide_true, decide_false, e_slS, s_asgL, nxL_s, itL_l]
  apply step
  · simp only [h1, startE, rb_ok, rb_exc, rs_ok, rs_exc, s_seq, seq_nx, seq_rt, seq_bk, seq_ct, seq_exc, nxO_s, s_asg, s_par, s_par3, s_ret, s_expr, s_next, s_bk, s_ct, s_raise, s_if, ifS_t, ifS_f, ifS_exc, s_for, eVar, e_c, wOf_s, rOf_s, bOf_s, e_ix, asD_d, ob_s, om_s, e_d1, e_d2, e_dN, asDs_1, asDs_2, bvO_s, e_t, o1_s, o2_s, a_nil, a_cons, prO_ok, prO_exc, e_cp, e_cg, call_1, call_2, call_3, call_4, call_5, call_6, b_not, b_and, b_or, andB_t, andB_f, orB_t, orB_f, b_tr, truW_b, e_if, ifE_t, ifE_f, e_isN, e_notN, e_notV, notV_s, e_andV, andV_t, andV_f, e_ch, chO_t, chO_f, e_sl, o_no, o_yes, oiO_s, sl_t, sl_l, i_zip, zipI_t, zipI_l, add_ii, sub_ii, neg_i, lt_ii, le_ii, gt_ii, ge_ii, eq_ii, ne_ii, eq_ss, ne_ss, eq_bb, ne_bb, len_t, len_l, min_ii, max_ii, int_i, int_b, tup_l, tup_t, lst_l, lst_t, sum_ints, e_tup, e_lst, itO_s, i_any, itA_t, itA_l, i_r1, i_r2, bindT, bindTs, unpk_t, un_L, un_P, mkSq, allD, wipeE, LINE, List.map_cons, List.map_nil, List.length_cons, List.length_nil, List.replicate, List.cons_append, List.nil_append, Nat.sub_self, Nat.reduceSub, Nat.reduceAdd, List.getElem?_cons_zero, List.getElem?_cons_succ, List.set_cons_zero, List.set_cons_succ, reduceIte, Bool.false_eq_true, Bool.not_true, Bool.not_false, Nat.reduceLeDiff, if_true, if_false, decide_true, decide_false, e_slS, s_asgL, nxL_s, itL_l]
    try rfl
  obtain ⟨D, hD⟩ : ∃ D, D = (rng 0 p.1).map fun e => PyData.bool (dk p e) := ⟨_, rfl⟩
  rw [← hD] at dix al ⊢
  rcases tf (allDk p) with ha | ha
  · refine fin (r := .rt (.d (.tuple ((quietP p).map dQ))) []) ?_ ⟨_, rfl⟩
    unfold quietP
    rw [ha] at al
    rw [if_pos ha]
    simp only [al, ix_P0, startE, rb_ok, rb_exc, rs_ok, rs_exc, s_seq, seq_nx, seq_rt, seq_bk, seq_ct, seq_exc, nxO_s, s_asg, s_par, s_par3, s_ret, s_expr, s_next, s_bk, s_ct, s_raise, s_if, ifS_t, ifS_f, ifS_exc, s_for, eVar, e_c, wOf_s, rOf_s, bOf_s, e_ix, asD_d, ob_s, om_s, e_d1, e_d2, e_dN, asDs_1, asDs_2, bvO_s, e_t, o1_s, o2_s, a_nil, a_cons, prO_ok, prO_exc, e_cp, e_cg, call_1, call_2, call_3, call_4, call_5, call_6, b_not, b_and, b_or, andB_t, andB_f, orB_t, orB_f, b_tr, truW_b, e_if, ifE_t, ifE_f, e_isN, e_notN, e_notV, notV_s, e_andV, andV_t, andV_f, e_ch, chO_t, chO_f, e_sl, o_no, o_yes, oiO_s, sl_t, sl_l, i_zip, zipI_t, zipI_l, add_ii, sub_ii, neg_i, lt_ii, le_ii, gt_ii, ge_ii, eq_ii, ne_ii, eq_ss, ne_ss, eq_bb, ne_bb, len_t, len_l, min_ii, max_ii, int_i, int_b, tup_l, tup_t, lst_l, lst_t, sum_ints, e_tup, e_lst, itO_s, i_any, itA_t, itA_l, i_r1, i_r2, bindT, bindTs, unpk_t, un_L, un_P, mkSq, allD, wipeE, LINE, List.map_cons, List.map_nil, List.length_cons, List.length_nil, List.replicate, List.cons_append, List.nil_append, Nat.sub_self, Nat.reduceSub, Nat.reduceAdd, List.getElem?_cons_zero, List.getElem?_cons_succ, List.set_cons_zero, List.set_cons_succ, reduceIte, Bool.false_eq_true, Bool.not_true, Bool.not_false, Nat.reduceLeDiff, if_true, if_false, decide_true, decide_false, e_slS, s_asgL, nxL_s, itL_l]
    rfl
  · rw [ha] at al
    apply step
    · simp only [al, startE, rb_ok, rb_exc, rs_ok, rs_exc, s_seq, seq_nx, seq_rt, seq_bk, seq_ct, seq_exc, nxO_s, s_asg, s_par, s_par3, s_ret, s_expr, s_next, s_bk, s_ct, s_raise, s_if, ifS_t, ifS_f, ifS_exc, s_for, eVar, e_c, wOf_s, rOf_s, bOf_s, e_ix, asD_d, ob_s, om_s, e_d1, e_d2, e_dN, asDs_1, asDs_2, bvO_s, e_t, o1_s, o2_s, a_nil, a_cons, prO_ok, prO_exc, e_cp, e_cg, call_1, call_2, call_3, call_4, call_5, call_6, b_not, b_and, b_or, andB_t, andB_f, orB_t, orB_f, b_tr, truW_b, e_if, ifE_t, ifE_f, e_isN, e_notN, e_notV, notV_s, e_andV, andV_t, andV_f, e_ch, chO_t, chO_f, e_sl, o_no, o_yes, oiO_s, sl_t, sl_l, i_zip, zipI_t, zipI_l, add_ii, sub_ii, neg_i, lt_ii, le_ii, gt_ii, ge_ii, eq_ii, ne_ii, eq_ss, ne_ss, eq_bb, ne_bb, len_t, len_l, min_ii, max_ii, int_i, int_b, tup_l, tup_t, lst_l, lst_t, sum_ints, e_tup, e_lst, itO_s, i_any, itA_t, itA_l, i_r1, i_r2, bindT, bindTs, unpk_t, un_L, un_P, mkSq, allD, wipeE, LINE, List.map_cons, List.map_nil, List.length_cons, List.length_nil, List.replicate, List.cons_append, List.nil_append, Nat.sub_self, Nat.reduceSub, Nat.reduceAdd, List.getElem?_cons_zero, List.getElem?_cons_succ, List.set_cons_zero, List.set_cons_succ, reduceIte, Bool.false_eq_true, Bool.not_true, Bool.not_false, Nat.reduceLeDiff, if_true, if_false, decide_true, decide_false, e_slS, s_asgL, nxL_s, itL_l]
      try rfl
    refine step (ρ' := [some (.d (dP p)), some (.d (.list D)), some (.o 0), none, none, none, none]) (S' := [.lst []]) rfl ?_
    refine for_step (rng 0 p.1) (fun z => .d (.int z)) (fun i ρ S => (∃ F : Nat → Option Wv, ρ = [some (.d (dP p)), some (.d (.list D)), some (.o 0), F 3, F 4, none, none]) ∧ S = [.lst ((((((rng 0 p.1).take i).filter fun b => isStart p b).map fun b => dQ (b, (run p b : Int)))).map .d)]) (S' := [.lst []]) ?_ ⟨slots rfl, rfl⟩ ?_ ?_
    · simp only [ix_P0, r1O_s sp, rngW0_eq, startE, rb_ok, rb_exc, rs_ok, rs_exc, s_seq, seq_nx, seq_rt, seq_bk, seq_ct, seq_exc, nxO_s, s_asg, s_par, s_par3, s_ret, s_expr, s_next, s_bk, s_ct, s_raise, s_if, ifS_t, ifS_f, ifS_exc, s_for, eVar, e_c, wOf_s, rOf_s, bOf_s, e_ix, asD_d, ob_s, om_s, e_d1, e_d2, e_dN, asDs_1, asDs_2, bvO_s, e_t, o1_s, o2_s, a_nil, a_cons, prO_ok, prO_exc, e_cp, e_cg, call_1, call_2, call_3, call_4, call_5, call_6, b_not, b_and, b_or, andB_t, andB_f, orB_t, orB_f, b_tr, truW_b, e_if, ifE_t, ifE_f, e_isN, e_notN, e_notV, notV_s, e_andV, andV_t, andV_f, e_ch, chO_t, chO_f, e_sl, o_no, o_yes, oiO_s, sl_t, sl_l, i_zip, zipI_t, zipI_l, add_ii, sub_ii, neg_i, lt_ii, le_ii, gt_ii, ge_ii, eq_ii, ne_ii, eq_ss, ne_ss, eq_bb, ne_bb, len_t, len_l, min_ii, max_ii, int_i, int_b, tup_l, tup_t, lst_l, lst_t, sum_ints, e_tup, e_lst, itO_s, i_any, itA_t, itA_l, i_r1, i_r2, bindT, bindTs, unpk_t, un_L, un_P, mkSq, allD, wipeE, LINE, List.map_cons, List.map_nil, List.length_cons, List.length_nil, List.replicate, List.cons_append, List.nil_append, Nat.sub_self, Nat.reduceSub, Nat.reduceAdd, List.getElem?_cons_zero, List.getElem?_cons_succ, List.set_cons_zero, List.set_cons_succ, reduceIte, Bool.false_eq_true, Bool.not_true, Bool.not_false, Nat.reduceLeDiff, if_true, if_false, decide_true, decide_false, e_slS, s_asgL, nxL_s, itL_l]
    · rintro i b hi ρ S ⟨⟨F, rfl⟩, rfl⟩
      have il := (List.getElem?_eq_some_iff.mp hi).1
      rw [rng_len] at il
      have rb := rng_mem (List.mem_of_getElem? hi)
      have tk : (rng 0 p.1).take (i + 1) = (rng 0 p.1).take i ++ [b] := by rw [List.take_add_one, hi]; rfl
      have fl := List.length_filter_le (fun b => isStart p b) ((rng 0 p.1).take i)
      rw [List.length_take] at fl
      obtain ⟨acc, hacc⟩ : ∃ acc, acc = (((rng 0 p.1).take i).filter fun b => isStart p b).map fun b => dQ (b, (run p b : Int)) := ⟨_, rfl⟩
      have al2 : acc.length ≤ 100000 := by rw [hacc, List.length_map]; omega
      rw [← hacc]
      refine ⟨_, rfl, ?_⟩
      have d0 := fun S => dix S b (by omega) (by omega)
      have d1 := fun S => dix S (b - 1) (by omega) (by omega)
      rcases tf (isStart p b) with hs | hs
      · have hs' := hs
        unfold isStart at hs'
        rw [Bool.and_eq_true, Bool.not_eq_true'] at hs'
        obtain ⟨r1, r2⟩ := run_lt hb.1 ha b
        rw [hs'.1] at d0
        rw [hs'.2] at d1
        have go : Gs (sSeq (sAsg (.nm 4) (eC (.int 0))) (sSeq (sWhile fu_quiet_1 t1_quiet l1_quiet) (sExpr (eApp (eVar 2) (aCons (eTup (aCons (eVar 3) (aCons (eVar 4) aNil))) aNil))))) [some (.d (dP p)), some (.d (.list D)), some (.o 0), some (.d (.int b)), F 4, none, none] [.lst (acc.map .d)] (fun r => r = .nx [some (.d (dP p)), some (.d (.list D)), some (.o 0), some (.d (.int b)), some (.d (.int (run p b : Int))), none, none] [.lst ((acc ++ [dQ (b, (run p b : Int))]).map .d)]) := by
          refine step (ρ' := [some (.d (dP p)), some (.d (.list D)), some (.o 0), some (.d (.int b)), some (.d (.int 0)), none, none]) (S' := [.lst (acc.map .d)]) rfl ?_
          refine via (P := fun ρ S => ρ = [some (.d (dP p)), some (.d (.list D)), some (.o 0), some (.d (.int b)), some (.d (.int (run p b : Int))), none, none] ∧ S = [.lst (acc.map .d)]) ?_ ?_
          · refine while_go (fun k ρ S => ∃ m : Nat, m ≤ run p b ∧ k = run p b - m ∧ ρ = [some (.d (dP p)), some (.d (.list D)), some (.o 0), some (.d (.int b)), some (.d (.int (m : Int))), none, none] ∧ S = [.lst (acc.map .d)]) (run p b) (by show _ < 100000; omega) ⟨0, by omega, by omega, rfl, rfl⟩ ?_
            rintro k ρ S ⟨m, hm, rfl, rfl, rfl⟩
            have hmod := fun S => dix S ((b + (m : Int)) % p.1) (by have := Int.emod_nonneg (b + (m : Int)) (show p.1 ≠ 0 by omega); omega) (Int.emod_lt_of_pos _ hb.1)
            rw [dk_mod] at hmod
            by_cases e : m = run p b
            · left
              subst e
              rw [r2] at hmod
              refine ⟨[.lst (acc.map .d)], ?_, _, _, rfl, rfl, rfl⟩
              simp only [t1_quiet, ix_P0, mod_ii hb.1, hmod, startE, rb_ok, rb_exc, rs_ok, rs_exc, s_seq, seq_nx, seq_rt, seq_bk, seq_ct, seq_exc, nxO_s, s_asg, s_par, s_par3, s_ret, s_expr, s_next, s_bk, s_ct, s_raise, s_if, ifS_t, ifS_f, ifS_exc, s_for, eVar, e_c, wOf_s, rOf_s, bOf_s, e_ix, asD_d, ob_s, om_s, e_d1, e_d2, e_dN, asDs_1, asDs_2, bvO_s, e_t, o1_s, o2_s, a_nil, a_cons, prO_ok, prO_exc, e_cp, e_cg, call_1, call_2, call_3, call_4, call_5, call_6, b_not, b_and, b_or, andB_t, andB_f, orB_t, orB_f, b_tr, truW_b, e_if, ifE_t, ifE_f, e_isN, e_notN, e_notV, notV_s, e_andV, andV_t, andV_f, e_ch, chO_t, chO_f, e_sl, o_no, o_yes, oiO_s, sl_t, sl_l, i_zip, zipI_t, zipI_l, add_ii, sub_ii, neg_i, lt_ii, le_ii, gt_ii, ge_ii, eq_ii, ne_ii, eq_ss, ne_ss, eq_bb, ne_bb, len_t, len_l, min_ii, max_ii, int_i, int_b, tup_l, tup_t, lst_l, lst_t, sum_ints, e_tup, e_lst, itO_s, i_any, itA_t, itA_l, i_r1, i_r2, bindT, bindTs, unpk_t, un_L, un_P, mkSq, allD, wipeE, LINE, List.map_cons, List.map_nil, List.length_cons, List.length_nil, List.replicate, List.cons_append, List.nil_append, Nat.sub_self, Nat.reduceSub, Nat.reduceAdd, List.getElem?_cons_zero, List.getElem?_cons_succ, List.set_cons_zero, List.set_cons_succ, reduceIte, Bool.false_eq_true, Bool.not_true, Bool.not_false, Nat.reduceLeDiff, if_true, if_false, decide_true, decide_false, e_slS, s_asgL, nxL_s, itL_l]
            · right
              rw [run_dk (p := p) (b := b) (j := m) (by omega)] at hmod
              exact ⟨_, _, _, run p b - (m + 1), by simp only [t1_quiet, ix_P0, mod_ii hb.1, hmod, startE, rb_ok, rb_exc, rs_ok, rs_exc, s_seq, seq_nx, seq_rt, seq_bk, seq_ct, seq_exc, nxO_s, s_asg, s_par, s_par3, s_ret, s_expr, s_next, s_bk, s_ct, s_raise, s_if, ifS_t, ifS_f, ifS_exc, s_for, eVar, e_c, wOf_s, rOf_s, bOf_s, e_ix, asD_d, ob_s, om_s, e_d1, e_d2, e_dN, asDs_1, asDs_2, bvO_s, e_t, o1_s, o2_s, a_nil, a_cons, prO_ok, prO_exc, e_cp, e_cg, call_1, call_2, call_3, call_4, call_5, call_6, b_not, b_and, b_or, andB_t, andB_f, orB_t, orB_f, b_tr, truW_b, e_if, ifE_t, ifE_f, e_isN, e_notN, e_notV, notV_s, e_andV, andV_t, andV_f, e_ch, chO_t, chO_f, e_sl, o_no, o_yes, oiO_s, sl_t, sl_l, i_zip, zipI_t, zipI_l, add_ii, sub_ii, neg_i, lt_ii, le_ii, gt_ii, ge_ii, eq_ii, ne_ii, eq_ss, ne_ss, eq_bb, ne_bb, len_t, len_l, min_ii, max_ii, int_i, int_b, tup_l, tup_t, lst_l, lst_t, sum_ints, e_tup, e_lst, itO_s, i_any, itA_t, itA_l, i_r1, i_r2, bindT, bindTs, unpk_t, un_L, un_P, mkSq, allD, wipeE, LINE, List.map_cons, List.map_nil, List.length_cons, List.length_nil, List.replicate, List.cons_append, List.nil_append, Nat.sub_self, Nat.reduceSub, Nat.reduceAdd, List.getElem?_cons_zero, List.getElem?_cons_succ, List.set_cons_zero, List.set_cons_succ, reduceIte, Bool.false_eq_true, Bool.not_true, Bool.not_false, Nat.reduceLeDiff, if_true, if_false, decide_true, decide_false, e_slS, s_asgL, nxL_s, itL_l]; rfl, by simp only [l1_quiet, startE, rb_ok, rb_exc, rs_ok, rs_exc, s_seq, seq_nx, seq_rt, seq_bk, seq_ct, seq_exc, nxO_s, s_asg, s_par, s_par3, s_ret, s_expr, s_next, s_bk, s_ct, s_raise, s_if, ifS_t, ifS_f, ifS_exc, s_for, eVar, e_c, wOf_s, rOf_s, bOf_s, e_ix, asD_d, ob_s, om_s, e_d1, e_d2, e_dN, asDs_1, asDs_2, bvO_s, e_t, o1_s, o2_s, a_nil, a_cons, prO_ok, prO_exc, e_cp, e_cg, call_1, call_2, call_3, call_4, call_5, call_6, b_not, b_and, b_or, andB_t, andB_f, orB_t, orB_f, b_tr, truW_b, e_if, ifE_t, ifE_f, e_isN, e_notN, e_notV, notV_s, e_andV, andV_t, andV_f, e_ch, chO_t, chO_f, e_sl, o_no, o_yes, oiO_s, sl_t, sl_l, i_zip, zipI_t, zipI_l, add_ii, sub_ii, neg_i, lt_ii, le_ii, gt_ii, ge_ii, eq_ii, ne_ii, eq_ss, ne_ss, eq_bb, ne_bb, len_t, len_l, min_ii, max_ii, int_i, int_b, tup_l, tup_t, lst_l, lst_t, sum_ints, e_tup, e_lst, itO_s, i_any, itA_t, itA_l, i_r1, i_r2, bindT, bindTs, unpk_t, un_L, un_P, mkSq, allD, wipeE, LINE, List.map_cons, List.map_nil, List.length_cons, List.length_nil, List.replicate, List.cons_append, List.nil_append, Nat.sub_self, Nat.reduceSub, Nat.reduceAdd, List.getElem?_cons_zero, List.getElem?_cons_succ, List.set_cons_zero, List.set_cons_succ, reduceIte, Bool.false_eq_true, Bool.not_true, Bool.not_false, Nat.reduceLeDiff, if_true, if_false, decide_true, decide_false, e_slS, s_asgL, nxL_s, itL_l]; rfl, by omega, m + 1, by omega, rfl, by rw [Int.natCast_add]; rfl, rfl⟩
          · rintro ρ S ⟨rfl, rfl⟩
            have ap1 := e_app (f := eVar 2) (g := aCons (eTup (aCons (eVar 3) (aCons (eVar 4) aNil))) aNil) (ρ := [some (.d (dP p)), some (.d (.list D)), some (.o 0), some (.d (.int b)), some (.d (.int (run p b : Int))), none, none]) (S := [.lst (acc.map .d)]) (S1 := [.lst (acc.map .d)]) (k := 0) (w := .d (dQ (b, (run p b : Int)))) rfl rfl rfl rfl (by rw [List.length_map]; unfold LINE; omega)
            refine fin (r := .nx _ _) (by simp only [ap1, startE, rb_ok, rb_exc, rs_ok, rs_exc, s_seq, seq_nx, seq_rt, seq_bk, seq_ct, seq_exc, nxO_s, s_asg, s_par, s_par3, s_ret, s_expr, s_next, s_bk, s_ct, s_raise, s_if, ifS_t, ifS_f, ifS_exc, s_for, eVar, e_c, wOf_s, rOf_s, bOf_s, e_ix, asD_d, ob_s, om_s, e_d1, e_d2, e_dN, asDs_1, asDs_2, bvO_s, e_t, o1_s, o2_s, a_nil, a_cons, prO_ok, prO_exc, e_cp, e_cg, call_1, call_2, call_3, call_4, call_5, call_6, b_not, b_and, b_or, andB_t, andB_f, orB_t, orB_f, b_tr, truW_b, e_if, ifE_t, ifE_f, e_isN, e_notN, e_notV, notV_s, e_andV, andV_t, andV_f, e_ch, chO_t, chO_f, e_sl, o_no, o_yes, oiO_s, sl_t, sl_l, i_zip, zipI_t, zipI_l, add_ii, sub_ii, neg_i, lt_ii, le_ii, gt_ii, ge_ii, eq_ii, ne_ii, eq_ss, ne_ss, eq_bb, ne_bb, len_t, len_l, min_ii, max_ii, int_i, int_b, tup_l, tup_t, lst_l, lst_t, sum_ints, e_tup, e_lst, itO_s, i_any, itA_t, itA_l, i_r1, i_r2, bindT, bindTs, unpk_t, un_L, un_P, mkSq, allD, wipeE, LINE, List.map_cons, List.map_nil, List.length_cons, List.length_nil, List.replicate, List.cons_append, List.nil_append, Nat.sub_self, Nat.reduceSub, Nat.reduceAdd, List.getElem?_cons_zero, List.getElem?_cons_succ, List.set_cons_zero, List.set_cons_succ, reduceIte, Bool.false_eq_true, Bool.not_true, Bool.not_false, Nat.reduceLeDiff, if_true, if_false, decide_true, decide_false, e_slS, s_asgL, nxL_s, itL_l]; rfl) ?_
            rw [List.map_append]; rfl
        have go' := go
        unfold Gs at go'
        refine fin (r := .nx _ _) (by simp only [l2_quiet, d0, d1, startE, rb_ok, rb_exc, rs_ok, rs_exc, s_seq, seq_nx, seq_rt, seq_bk, seq_ct, seq_exc, nxO_s, s_asg, s_par, s_par3, s_ret, s_expr, s_next, s_bk, s_ct, s_raise, s_if, ifS_t, ifS_f, ifS_exc, s_for, eVar, e_c, wOf_s, rOf_s, bOf_s, e_ix, asD_d, ob_s, om_s, e_d1, e_d2, e_dN, asDs_1, asDs_2, bvO_s, e_t, o1_s, o2_s, a_nil, a_cons, prO_ok, prO_exc, e_cp, e_cg, call_1, call_2, call_3, call_4, call_5, call_6, b_not, b_and, b_or, andB_t, andB_f, orB_t, orB_f, b_tr, truW_b, e_if, ifE_t, ifE_f, e_isN, e_notN, e_notV, notV_s, e_andV, andV_t, andV_f, e_ch, chO_t, chO_f, e_sl, o_no, o_yes, oiO_s, sl_t, sl_l, i_zip, zipI_t, zipI_l, add_ii, sub_ii, neg_i, lt_ii, le_ii, gt_ii, ge_ii, eq_ii, ne_ii, eq_ss, ne_ss, eq_bb, ne_bb, len_t, len_l, min_ii, max_ii, int_i, int_b, tup_l, tup_t, lst_l, lst_t, sum_ints, e_tup, e_lst, itO_s, i_any, itA_t, itA_l, i_r1, i_r2, bindT, bindTs, unpk_t, un_L, un_P, mkSq, allD, wipeE, LINE, List.map_cons, List.map_nil, List.length_cons, List.length_nil, List.replicate, List.cons_append, List.nil_append, Nat.sub_self, Nat.reduceSub, Nat.reduceAdd, List.getElem?_cons_zero, List.getElem?_cons_succ, List.set_cons_zero, List.set_cons_succ, reduceIte, Bool.false_eq_true, Bool.not_true, Bool.not_false, Nat.reduceLeDiff, if_true, if_false, decide_true, decide_false, e_slS, s_asgL, nxL_s, itL_l]; exact go') ⟨_, _, rfl, slots rfl, ?_⟩
        have q : (((rng 0 p.1).take (i + 1)).filter fun b => isStart p b).map (fun b => dQ (b, (run p b : Int))) = acc ++ [dQ (b, (run p b : Int))] := by rw [tk, List.filter_append, List.filter_cons, hs, if_pos rfl, List.filter_nil, List.map_append, ← hacc]; rfl
        rw [q]
      · refine fin (r := .nx [some (.d (dP p)), some (.d (.list D)), some (.o 0), some (.d (.int b)), F 4, none, none] [.lst (acc.map .d)]) ?_ ⟨_, _, rfl, slots rfl, ?_⟩
        · unfold isStart at hs
          rcases tf (dk p b) with h0 | h0
          · rw [h0] at d0 hs
            have h1 : dk p (b - 1) = true := by simpa using hs
            rw [h1] at d1
            simp only [l2_quiet, d0, d1, startE, rb_ok, rb_exc, rs_ok, rs_exc, s_seq, seq_nx, seq_rt, seq_bk, seq_ct, seq_exc, nxO_s, s_asg, s_par, s_par3, s_ret, s_expr, s_next, s_bk, s_ct, s_raise, s_if, ifS_t, ifS_f, ifS_exc, s_for, eVar, e_c, wOf_s, rOf_s, bOf_s, e_ix, asD_d, ob_s, om_s, e_d1, e_d2, e_dN, asDs_1, asDs_2, bvO_s, e_t, o1_s, o2_s, a_nil, a_cons, prO_ok, prO_exc, e_cp, e_cg, call_1, call_2, call_3, call_4, call_5, call_6, b_not, b_and, b_or, andB_t, andB_f, orB_t, orB_f, b_tr, truW_b, e_if, ifE_t, ifE_f, e_isN, e_notN, e_notV, notV_s, e_andV, andV_t, andV_f, e_ch, chO_t, chO_f, e_sl, o_no, o_yes, oiO_s, sl_t, sl_l, i_zip, zipI_t, zipI_l, add_ii, sub_ii, neg_i, lt_ii, le_ii, gt_ii, ge_ii, eq_ii, ne_ii, eq_ss, ne_ss, eq_bb, ne_bb, len_t, len_l, min_ii, max_ii, int_i, int_b, tup_l, tup_t, lst_l, lst_t, sum_ints, e_tup, e_lst, itO_s, i_any, itA_t, itA_l, i_r1, i_r2, bindT, bindTs, unpk_t, un_L, un_P, mkSq, allD, wipeE, LINE, List.map_cons, List.map_nil, List.length_cons, List.length_nil, List.replicate, List.cons_append, List.nil_append, Nat.sub_self, Nat.reduceSub, Nat.reduceAdd, List.getElem?_cons_zero, List.getElem?_cons_succ, List.set_cons_zero, List.set_cons_succ, reduceIte, Bool.false_eq_true, Bool.not_true, Bool.not_false, Nat.reduceLeDiff, if_true, if_false, decide_true, decide_false, e_slS, s_asgL, nxL_s, itL_l]
          · rw [h0] at d0
            simp only [l2_quiet, d0, startE, rb_ok, rb_exc, rs_ok, rs_exc, s_seq, seq_nx, seq_rt, seq_bk, seq_ct, seq_exc, nxO_s, s_asg, s_par, s_par3, s_ret, s_expr, s_next, s_bk, s_ct, s_raise, s_if, ifS_t, ifS_f, ifS_exc, s_for, eVar, e_c, wOf_s, rOf_s, bOf_s, e_ix, asD_d, ob_s, om_s, e_d1, e_d2, e_dN, asDs_1, asDs_2, bvO_s, e_t, o1_s, o2_s, a_nil, a_cons, prO_ok, prO_exc, e_cp, e_cg, call_1, call_2, call_3, call_4, call_5, call_6, b_not, b_and, b_or, andB_t, andB_f, orB_t, orB_f, b_tr, truW_b, e_if, ifE_t, ifE_f, e_isN, e_notN, e_notV, notV_s, e_andV, andV_t, andV_f, e_ch, chO_t, chO_f, e_sl, o_no, o_yes, oiO_s, sl_t, sl_l, i_zip, zipI_t, zipI_l, add_ii, sub_ii, neg_i, lt_ii, le_ii, gt_ii, ge_ii, eq_ii, ne_ii, eq_ss, ne_ss, eq_bb, ne_bb, len_t, len_l, min_ii, max_ii, int_i, int_b, tup_l, tup_t, lst_l, lst_t, sum_ints, e_tup, e_lst, itO_s, i_any, itA_t, itA_l, i_r1, i_r2, bindT, bindTs, unpk_t, un_L, un_P, mkSq, allD, wipeE, LINE, List.map_cons, List.map_nil, List.length_cons, List.length_nil, List.replicate, List.cons_append, List.nil_append, Nat.sub_self, Nat.reduceSub, Nat.reduceAdd, List.getElem?_cons_zero, List.getElem?_cons_succ, List.set_cons_zero, List.set_cons_succ, reduceIte, Bool.false_eq_true, Bool.not_true, Bool.not_false, Nat.reduceLeDiff, if_true, if_false, decide_true, decide_false, e_slS, s_asgL, nxL_s, itL_l]
        · rw [tk, List.filter_append, List.filter_cons, hs, if_neg Bool.false_ne_true, List.filter_nil, List.append_nil, ← hacc]
    · rintro ρ S ⟨⟨F, rfl⟩, rfl⟩
      rw [List.take_length]
      refine gs_frz (k := 0) rfl rfl ?_
      rw [mkSq_ds]
      show Gs _ [some (.d (dP p)), some (.d (.list D)), some (.d (.list ((starts p).map fun b => dQ (b, (run p b : Int))))), F 3, F 4, none, none] [.dead] _
      have h2 := fun (x5 x6 y3 y4 : Option Wv) (S : Store) => eComp_all (it := (iAny (eVar 2))) (tg := (.tp [(.nm 3), (.nm 4)])) (f := e2_quiet) (vs := [3, 4]) (ρ := [some (.d (dP p)), some (.d (.list D)), some (.d (.list ((starts p).map fun b => dQ (b, (run p b : Int))))), y3, y4, x5, x6]) (S := S) (xs := starts p) (fun z => .d (dQ (z, (run p z : Int)))) (fun z => .int (run p z : Int)) (fun z => [some (.d (dP p)), some (.d (.list D)), some (.d (.list ((starts p).map fun b => dQ (b, (run p b : Int))))), some (.d (.int (z))), some (.d (.int ((run p z : Int)))), x5, x6]) (by simp only [mapd, startE, rb_ok, rb_exc, rs_ok, rs_exc, s_seq, seq_nx, seq_rt, seq_bk, seq_ct, seq_exc, nxO_s, s_asg, s_par, s_par3, s_ret, s_expr, s_next, s_bk, s_ct, s_raise, s_if, ifS_t, ifS_f, ifS_exc, s_for, eVar, e_c, wOf_s, rOf_s, bOf_s, e_ix, asD_d, ob_s, om_s, e_d1, e_d2, e_dN, asDs_1, asDs_2, bvO_s, e_t, o1_s, o2_s, a_nil, a_cons, prO_ok, prO_exc, e_cp, e_cg, call_1, call_2, call_3, call_4, call_5, call_6, b_not, b_and, b_or, andB_t, andB_f, orB_t, orB_f, b_tr, truW_b, e_if, ifE_t, ifE_f, e_isN, e_notN, e_notV, notV_s, e_andV, andV_t, andV_f, e_ch, chO_t, chO_f, e_sl, o_no, o_yes, oiO_s, sl_t, sl_l, i_zip, zipI_t, zipI_l, add_ii, sub_ii, neg_i, lt_ii, le_ii, gt_ii, ge_ii, eq_ii, ne_ii, eq_ss, ne_ss, eq_bb, ne_bb, len_t, len_l, min_ii, max_ii, int_i, int_b, tup_l, tup_t, lst_l, lst_t, sum_ints, e_tup, e_lst, itO_s, i_any, itA_t, itA_l, i_r1, i_r2, bindT, bindTs, unpk_t, un_L, un_P, mkSq, allD, wipeE, LINE, List.map_cons, List.map_nil, List.length_cons, List.length_nil, List.replicate, List.cons_append, List.nil_append, Nat.sub_self, Nat.reduceSub, Nat.reduceAdd, List.getElem?_cons_zero, List.getElem?_cons_succ, List.set_cons_zero, List.set_cons_succ, reduceIte, Bool.false_eq_true, Bool.not_true, Bool.not_false, Nat.reduceLeDiff, if_true, if_false, decide_true, decide_false, e_slS, s_asgL, nxL_s, itL_l]) (by unfold LINE; omega) (fun z _ => rfl) (fun z hz => by simp only [e2_quiet, startE, rb_ok, rb_exc, rs_ok, rs_exc, s_seq, seq_nx, seq_rt, seq_bk, seq_ct, seq_exc, nxO_s, s_asg, s_par, s_par3, s_ret, s_expr, s_next, s_bk, s_ct, s_raise, s_if, ifS_t, ifS_f, ifS_exc, s_for, eVar, e_c, wOf_s, rOf_s, bOf_s, e_ix, asD_d, ob_s, om_s, e_d1, e_d2, e_dN, asDs_1, asDs_2, bvO_s, e_t, o1_s, o2_s, a_nil, a_cons, prO_ok, prO_exc, e_cp, e_cg, call_1, call_2, call_3, call_4, call_5, call_6, b_not, b_and, b_or, andB_t, andB_f, orB_t, orB_f, b_tr, truW_b, e_if, ifE_t, ifE_f, e_isN, e_notN, e_notV, notV_s, e_andV, andV_t, andV_f, e_ch, chO_t, chO_f, e_sl, o_no, o_yes, oiO_s, sl_t, sl_l, i_zip, zipI_t, zipI_l, add_ii, sub_ii, neg_i, lt_ii, le_ii, gt_ii, ge_ii, eq_ii, ne_ii, eq_ss, ne_ss, eq_bb, ne_bb, len_t, len_l, min_ii, max_ii, int_i, int_b, tup_l, tup_t, lst_l, lst_t, sum_ints, e_tup, e_lst, itO_s, i_any, itA_t, itA_l, i_r1, i_r2, bindT, bindTs, unpk_t, un_L, un_P, mkSq, allD, wipeE, LINE, List.map_cons, List.map_nil, List.length_cons, List.length_nil, List.replicate, List.cons_append, List.nil_append, Nat.sub_self, Nat.reduceSub, Nat.reduceAdd, List.getElem?_cons_zero, List.getElem?_cons_succ, List.set_cons_zero, List.set_cons_succ, reduceIte, Bool.false_eq_true, Bool.not_true, Bool.not_false, Nat.reduceLeDiff, if_true, if_false, decide_true, decide_false, e_slS, s_asgL, nxL_s, itL_l])
      rw [map_in] at h2
      have ad : oAdd (.list [.int 0]) (.list (((starts p).map fun b => (run p b : Int)).map .int)) = some (.list ((0 :: runs p).map .int)) := by rw [add_ll (xs := [.int 0]) (by rw [List.length_map, List.length_map]; show 1 + _ ≤ _; omega)]; rfl
      have mq := max1_l (xs := 0 :: runs p) (by simp)
      have lq : mx (0 :: runs p) = longP p := rfl
      rw [lq, List.map_cons] at mq
      apply step
      · simp only [h2, ad, mq, startE, rb_ok, rb_exc, rs_ok, rs_exc, s_seq, seq_nx, seq_rt, seq_bk, seq_ct, seq_exc, nxO_s, s_asg, s_par, s_par3, s_ret, s_expr, s_next, s_bk, s_ct, s_raise, s_if, ifS_t, ifS_f, ifS_exc, s_for, eVar, e_c, wOf_s, rOf_s, bOf_s, e_ix, asD_d, ob_s, om_s, e_d1, e_d2, e_dN, asDs_1, asDs_2, bvO_s, e_t, o1_s, o2_s, a_nil, a_cons, prO_ok, prO_exc, e_cp, e_cg, call_1, call_2, call_3, call_4, call_5, call_6, b_not, b_and, b_or, andB_t, andB_f, orB_t, orB_f, b_tr, truW_b, e_if, ifE_t, ifE_f, e_isN, e_notN, e_notV, notV_s, e_andV, andV_t, andV_f, e_ch, chO_t, chO_f, e_sl, o_no, o_yes, oiO_s, sl_t, sl_l, i_zip, zipI_t, zipI_l, add_ii, sub_ii, neg_i, lt_ii, le_ii, gt_ii, ge_ii, eq_ii, ne_ii, eq_ss, ne_ss, eq_bb, ne_bb, len_t, len_l, min_ii, max_ii, int_i, int_b, tup_l, tup_t, lst_l, lst_t, sum_ints, e_tup, e_lst, itO_s, i_any, itA_t, itA_l, i_r1, i_r2, bindT, bindTs, unpk_t, un_L, un_P, mkSq, allD, wipeE, LINE, List.map_cons, List.map_nil, List.length_cons, List.length_nil, List.replicate, List.cons_append, List.nil_append, Nat.sub_self, Nat.reduceSub, Nat.reduceAdd, List.getElem?_cons_zero, List.getElem?_cons_succ, List.set_cons_zero, List.set_cons_succ, reduceIte, Bool.false_eq_true, Bool.not_true, Bool.not_false, Nat.reduceLeDiff, if_true, if_false, decide_true, decide_false, e_slS, s_asgL, nxL_s, itL_l]
        try rfl
      have ix1 : ∀ (S : Store) (q : Int × Int), ixW S (.d (dQ q)) (.d (.int 1)) = some (.d (.int q.2)) := fun _ _ => rfl
      have lm : (starts p).map (fun b => dQ (b, (run p b : Int))) = ((starts p).map fun b => (b, (run p b : Int))).map dQ := by rw [List.map_map]; rfl
      rw [lm]
      have h3 := fun (x3 x4 y6 : Option Wv) (S : Store) => eComp_eq (it := (iAny (eVar 2))) (tg := (.nm 6)) (t := t2_quiet) (f := e3_quiet) (vs := [6]) (ρ := [some (.d (dP p)), some (.d (.list D)), some (.d (.list (((starts p).map fun b => (b, (run p b : Int))).map dQ))), x3, x4, some (.d (.int (longP p))), y6]) (S := S) (xs := ((starts p).map fun b => (b, (run p b : Int)))) (fun q => .d (dQ q)) (fun q => decide (q.2 = longP p)) (fun q => dQ q) (fun q => [some (.d (dP p)), some (.d (.list D)), some (.d (.list (((starts p).map fun b => (b, (run p b : Int))).map dQ))), x3, x4, some (.d (.int (longP p))), some (.d (dQ q))]) (by simp only [mapd, startE, rb_ok, rb_exc, rs_ok, rs_exc, s_seq, seq_nx, seq_rt, seq_bk, seq_ct, seq_exc, nxO_s, s_asg, s_par, s_par3, s_ret, s_expr, s_next, s_bk, s_ct, s_raise, s_if, ifS_t, ifS_f, ifS_exc, s_for, eVar, e_c, wOf_s, rOf_s, bOf_s, e_ix, asD_d, ob_s, om_s, e_d1, e_d2, e_dN, asDs_1, asDs_2, bvO_s, e_t, o1_s, o2_s, a_nil, a_cons, prO_ok, prO_exc, e_cp, e_cg, call_1, call_2, call_3, call_4, call_5, call_6, b_not, b_and, b_or, andB_t, andB_f, orB_t, orB_f, b_tr, truW_b, e_if, ifE_t, ifE_f, e_isN, e_notN, e_notV, notV_s, e_andV, andV_t, andV_f, e_ch, chO_t, chO_f, e_sl, o_no, o_yes, oiO_s, sl_t, sl_l, i_zip, zipI_t, zipI_l, add_ii, sub_ii, neg_i, lt_ii, le_ii, gt_ii, ge_ii, eq_ii, ne_ii, eq_ss, ne_ss, eq_bb, ne_bb, len_t, len_l, min_ii, max_ii, int_i, int_b, tup_l, tup_t, lst_l, lst_t, sum_ints, e_tup, e_lst, itO_s, i_any, itA_t, itA_l, i_r1, i_r2, bindT, bindTs, unpk_t, un_L, un_P, mkSq, allD, wipeE, LINE, List.map_cons, List.map_nil, List.length_cons, List.length_nil, List.replicate, List.cons_append, List.nil_append, Nat.sub_self, Nat.reduceSub, Nat.reduceAdd, List.getElem?_cons_zero, List.getElem?_cons_succ, List.set_cons_zero, List.set_cons_succ, reduceIte, Bool.false_eq_true, Bool.not_true, Bool.not_false, Nat.reduceLeDiff, if_true, if_false, decide_true, decide_false, e_slS, s_asgL, nxL_s, itL_l]) (by rw [List.length_map]; unfold LINE; omega) (fun q _ => rfl) (fun q hq => by simp only [t2_quiet, ix1, startE, rb_ok, rb_exc, rs_ok, rs_exc, s_seq, seq_nx, seq_rt, seq_bk, seq_ct, seq_exc, nxO_s, s_asg, s_par, s_par3, s_ret, s_expr, s_next, s_bk, s_ct, s_raise, s_if, ifS_t, ifS_f, ifS_exc, s_for, eVar, e_c, wOf_s, rOf_s, bOf_s, e_ix, asD_d, ob_s, om_s, e_d1, e_d2, e_dN, asDs_1, asDs_2, bvO_s, e_t, o1_s, o2_s, a_nil, a_cons, prO_ok, prO_exc, e_cp, e_cg, call_1, call_2, call_3, call_4, call_5, call_6, b_not, b_and, b_or, andB_t, andB_f, orB_t, orB_f, b_tr, truW_b, e_if, ifE_t, ifE_f, e_isN, e_notN, e_notV, notV_s, e_andV, andV_t, andV_f, e_ch, chO_t, chO_f, e_sl, o_no, o_yes, oiO_s, sl_t, sl_l, i_zip, zipI_t, zipI_l, add_ii, sub_ii, neg_i, lt_ii, le_ii, gt_ii, ge_ii, eq_ii, ne_ii, eq_ss, ne_ss, eq_bb, ne_bb, len_t, len_l, min_ii, max_ii, int_i, int_b, tup_l, tup_t, lst_l, lst_t, sum_ints, e_tup, e_lst, itO_s, i_any, itA_t, itA_l, i_r1, i_r2, bindT, bindTs, unpk_t, un_L, un_P, mkSq, allD, wipeE, LINE, List.map_cons, List.map_nil, List.length_cons, List.length_nil, List.replicate, List.cons_append, List.nil_append, Nat.sub_self, Nat.reduceSub, Nat.reduceAdd, List.getElem?_cons_zero, List.getElem?_cons_succ, List.set_cons_zero, List.set_cons_succ, reduceIte, Bool.false_eq_true, Bool.not_true, Bool.not_false, Nat.reduceLeDiff, if_true, if_false, decide_true, decide_false, e_slS, s_asgL, nxL_s, itL_l]) (fun q hq _ => by simp only [e3_quiet, startE, rb_ok, rb_exc, rs_ok, rs_exc, s_seq, seq_nx, seq_rt, seq_bk, seq_ct, seq_exc, nxO_s, s_asg, s_par, s_par3, s_ret, s_expr, s_next, s_bk, s_ct, s_raise, s_if, ifS_t, ifS_f, ifS_exc, s_for, eVar, e_c, wOf_s, rOf_s, bOf_s, e_ix, asD_d, ob_s, om_s, e_d1, e_d2, e_dN, asDs_1, asDs_2, bvO_s, e_t, o1_s, o2_s, a_nil, a_cons, prO_ok, prO_exc, e_cp, e_cg, call_1, call_2, call_3, call_4, call_5, call_6, b_not, b_and, b_or, andB_t, andB_f, orB_t, orB_f, b_tr, truW_b, e_if, ifE_t, ifE_f, e_isN, e_notN, e_notV, notV_s, e_andV, andV_t, andV_f, e_ch, chO_t, chO_f, e_sl, o_no, o_yes, oiO_s, sl_t, sl_l, i_zip, zipI_t, zipI_l, add_ii, sub_ii, neg_i, lt_ii, le_ii, gt_ii, ge_ii, eq_ii, ne_ii, eq_ss, ne_ss, eq_bb, ne_bb, len_t, len_l, min_ii, max_ii, int_i, int_b, tup_l, tup_t, lst_l, lst_t, sum_ints, e_tup, e_lst, itO_s, i_any, itA_t, itA_l, i_r1, i_r2, bindT, bindTs, unpk_t, un_L, un_P, mkSq, allD, wipeE, LINE, List.map_cons, List.map_nil, List.length_cons, List.length_nil, List.replicate, List.cons_append, List.nil_append, Nat.sub_self, Nat.reduceSub, Nat.reduceAdd, List.getElem?_cons_zero, List.getElem?_cons_succ, List.set_cons_zero, List.set_cons_succ, reduceIte, Bool.false_eq_true, Bool.not_true, Bool.not_false, Nat.reduceLeDiff, if_true, if_false, decide_true, decide_false, e_slS, s_asgL, nxL_s, itL_l])
      have qe : quietP p = ((starts p).map fun b => (b, (run p b : Int))).filter fun q => decide (q.2 = longP p) := by unfold quietP; rw [if_neg (by rw [ha]; decide)]
      rw [qe]
      apply fin
      · simp only [h3, startE, rb_ok, rb_exc, rs_ok, rs_exc, s_seq, seq_nx, seq_rt, seq_bk, seq_ct, seq_exc, nxO_s, s_asg, s_par, s_par3, s_ret, s_expr, s_next, s_bk, s_ct, s_raise, s_if, ifS_t, ifS_f, ifS_exc, s_for, eVar, e_c, wOf_s, rOf_s, bOf_s, e_ix, asD_d, ob_s, om_s, e_d1, e_d2, e_dN, asDs_1, asDs_2, bvO_s, e_t, o1_s, o2_s, a_nil, a_cons, prO_ok, prO_exc, e_cp, e_cg, call_1, call_2, call_3, call_4, call_5, call_6, b_not, b_and, b_or, andB_t, andB_f, orB_t, orB_f, b_tr, truW_b, e_if, ifE_t, ifE_f, e_isN, e_notN, e_notV, notV_s, e_andV, andV_t, andV_f, e_ch, chO_t, chO_f, e_sl, o_no, o_yes, oiO_s, sl_t, sl_l, i_zip, zipI_t, zipI_l, add_ii, sub_ii, neg_i, lt_ii, le_ii, gt_ii, ge_ii, eq_ii, ne_ii, eq_ss, ne_ss, eq_bb, ne_bb, len_t, len_l, min_ii, max_ii, int_i, int_b, tup_l, tup_t, lst_l, lst_t, sum_ints, e_tup, e_lst, itO_s, i_any, itA_t, itA_l, i_r1, i_r2, bindT, bindTs, unpk_t, un_L, un_P, mkSq, allD, wipeE, LINE, List.map_cons, List.map_nil, List.length_cons, List.length_nil, List.replicate, List.cons_append, List.nil_append, Nat.sub_self, Nat.reduceSub, Nat.reduceAdd, List.getElem?_cons_zero, List.getElem?_cons_succ, List.set_cons_zero, List.set_cons_succ, reduceIte, Bool.false_eq_true, Bool.not_true, Bool.not_false, Nat.reduceLeDiff, if_true, if_false, decide_true, decide_false, e_slS, s_asgL, nxL_s, itL_l]
        try rfl
      exact ⟨_, rfl⟩
end PL

/-! # PL, part k: range of three; turns that go on early -/
namespace L2
open PySem PySem.Spec PyProof.Rows
def Itr3 (lo c : Int) (n : Nat) : It := ⟨fun i _ => i < n, fun i H x H' => H' = H ∧ x = .int (lo + (i : Int) * c), fun i _ => n ≤ i⟩
theorem turn_range3 {P : Program} {w : World} {K : PySem.W.Frag} {tg : Expr} (it : Addr) (lo c : Int) (n : Nat) : Turn P w K tg (Itr3 lo c n) [it] it (fun i h => IsRangeIter h it (lo + (i : Nat) * c) ((n : Int) - (i : Nat)) c) where
  mem := by simp
  obj := fun i h st b hb => by
    have e : b = it := by simpa using hb
    subst e
    exact ⟨_, st, fun v z => by
      have z' : Data.fields _ = Data.cell v := z
      cases z'⟩
  keep := fun i h h' st k => k it (by simp) _ st
  item := by
    intro X hP hw hK hc i pins s σ H E I hf st hg
    subst hP hw hK
    obtain ⟨f0, f1, f2, f3, f4, f5⟩ := hf it (by simp)
    have W := Walks.range (prog := X.prog) (w := X.w) (I.ok.hd hc) it lo c n
    refine W.item i s _ _ hg st fun v h' tk hv st' kk => ?_
    obtain ⟨t, rfl⟩ := hv
    have I1 : Inv X pins σ H { s with heap := h', toks := tk } := I.turned (fun b o hb e => kk b o (by simpa using hb) e) f0 f1 f3 f4 f5
    exact ⟨_, rfl, go_of (s := { s with heap := h', toks := tk }) (n := "range_iterator") st' rfl rfl (by decide) ⟨.int (lo + (i : Int) * c), H, I1, ⟨t, rfl⟩, ⟨rfl, rfl⟩, st', fun b hb => (hf b hb).1⟩⟩
  done := by
    intro X hP hw hK hc i pins s σ H E I hf st hg
    subst hP hw hK
    obtain ⟨f0, f1, f2, f3, f4, f5⟩ := hf it (by simp)
    exact wpAny_pyNext_range_end (I.ok.hd hc) st (by have : n ≤ i := hg; omega) fun h' eb => ⟨rfl, I.turned (t' := s.toks) (fun b o hb e => eb b o hb e) f0 f1 f3 f4 f5⟩
  self := fun _ _ _ _ _ st h => wpAny_pyIter_rangeiter st h
section
variable {X : Cx} {tg : Expr}
def sm3 (lo hi c : Int) : Prop := (-1000000 ≤ lo ∧ lo ≤ 1000000) ∧ (-1000000 ≤ hi ∧ hi ≤ 1000000) ∧ 1 ≤ c ∧ c ≤ 1000000
instance (lo hi c : Int) : Decidable (sm3 lo hi c) := inferInstanceAs (Decidable (_ ∧ _))
theorem size3 {lo hi c : Int} (h : sm3 lo hi c) : 0 ≤ Builtin.Range.rangeSize lo hi c ∧ Builtin.Range.rangeSize lo hi c ≤ 2000001 := by
  obtain ⟨h1, h2, h3, h4⟩ := h
  unfold Builtin.Range.rangeSize
  rw [if_pos (show c > 0 by omega)]
  split
  · have a := Int.ediv_nonneg (show 0 ≤ hi - lo - 1 by omega) (show 0 ≤ c by omega)
    have b := Int.ediv_le_self c (show 0 ≤ hi - lo - 1 by omega)
    omega
  · omega
theorem small3 {lo hi c : Int} (h : sm3 lo hi c) : Builtin.Range.small lo hi c = true := by
  have z := size3 h
  obtain ⟨h1, h2, h3, h4⟩ := h
  unfold Builtin.Range.small
  simp only [Builtin.Range.rangeFitsLong, Bool.and_eq_true, Bool.or_eq_true, decide_eq_true_eq, beq_iff_eq, show c > 0 by omega, if_true]
  omega
theorem range_it3 {pins : List (Addr × Obj)} {σ : St} {H : Hp} {s : Shared} {R : It → Hp → Prop} {E : Value → Shared → Prop} {lo hi c : Int} {t u v : Tok} {tk : Nat} (I : Inv X pins σ H s) (h : sm3 lo hi c)
    (q : R (Itr3 lo c (Builtin.Range.rangeSize lo hi c).toNat) H) : wpAny (model X.prog X.w) X.A (pyIter (.ref s.heap.objs.size)) (PIE X pins σ tg R) E { s with heap := s.heap.push { cls := .type "range", data := .fields #[.int lo t, .int hi u, .int c v] }, toks := tk } := by
  refine wpAny_pyIter_range (IsRange.new ..) (small3 h) ?_
  have z := size3 h
  have I1 : Inv X pins σ H { s with heap := s.heap.push { cls := .type "range", data := .fields #[.int lo t, .int hi u, .int c v] }, toks := tk } := I.kept fun b o e => Heap.get?_push_of_some _ e
  refine ⟨(s.heap.push { cls := .type "range", data := .fields #[.int lo t, .int hi u, .int c v] }).objs.size, [(s.heap.push { cls := .type "range", data := .fields #[.int lo t, .int hi u, .int c v] }).objs.size], _, _, H, rfl,
    I1.kept (t' := tk) fun b o e => Heap.get?_push_of_some _ e, turn_range3 _ lo c (Builtin.Range.rangeSize lo hi c).toNat, ?_, fun b hb => ?_, q⟩
  · have e1 : lo + ((0 : Nat) : Int) * c = lo := by simp
    have e2 : (((Builtin.Range.rangeSize lo hi c).toNat : Nat) : Int) - ((0 : Nat) : Int) = Builtin.Range.rangeSize lo hi c := by omega
    show IsRangeIter _ _ (lo + ((0 : Nat) : Int) * c) ((((Builtin.Range.rangeSize lo hi c).toNat : Nat) : Int) - ((0 : Nat) : Int)) c
    rw [e1, e2]
    exact Heap.get?_push_size _ rfl
  · have e : b = (s.heap.push { cls := .type "range", data := .fields #[.int lo t, .int hi u, .int c v] }).objs.size := by simpa using hb
    subst e
    exact I1.fpOk (Nat.le_refl _) (I1.hok.fresh (Nat.le_refl _))
def iRngS (ta : TA) : TI := fun σ H R => ta σ H fun vs H1 => ∃ i j c : Int, vs = [.int i, .int j, .int c] ∧ sm3 i j c ∧ R (Itr3 i c (Builtin.Range.rangeSize i j c).toNat) H1
theorem pi_rangeS {a b d : Expr} {ta : TA} {p pos : Pos} (hg : Gl X "range") (hm : X.mg "range" = none) (ha : PA X [a, b, d] ta) (hs : starEach [a, b, d] X.env = [(false, eval a X.env), (false, eval b X.env), (false, eval d X.env)] := by rfl) (hs2 : starEach [b, d] X.env = [(false, eval b X.env), (false, eval d X.env)] := by rfl) :
    PI X tg (.Call (.Name "range" p) [a, b, d] [] pos) (iRngS ta) := by
  refine ⟨fun pins s σ H R I h => ?_⟩
  refine Call_ (ld_blt I hg hm boot_range (PyProof.Rows.callWith_type1 (thn (ha.run pos pins s σ H _ I h) fun us s1 ⟨vs, H1, I1, r1, q1⟩ => ?_) (by rw [hs, hs2]) (by rw [hs2]; rfl)))
  obtain ⟨i, j, c, e, z, q⟩ := q1
  subst e
  cases r1 with
  | cons r rr =>
    cases rr with
    | cons r' rr =>
      cases rr with
      | cons r'' rr =>
        cases rr
        obtain ⟨t, rfl⟩ := r
        obtain ⟨t', rfl⟩ := r'
        obtain ⟨t'', rfl⟩ := r''
        have z' := z
        obtain ⟨z1, z2, z3, z4⟩ := z'
        exact call_range_3 (by omega) (range_it3 I1 z q) (Or.inl (PyProof.noPylong_small (by omega)))
end
end L2
namespace PL
open PySem PySem.Spec PyProof.Rows L2
def rngS (lo c : Int) (n : Nat) : List Wv := (List.range n).map fun i : Nat => .d (.int (lo + (i : Int) * c))
theorem walkR3 {C : Cn} {W : Wd} {H : Hp} {lo c : Int} {n : Nat} : WalkD C W H (Itr3 lo c n) (rngS lo c n) where
  goes := fun i W2 S2 H2 le st hi => by
    have : (rngS lo c n).length = n := by simp [rngS]
    show i < n
    omega
  stops := fun W2 S2 H2 le st => by
    have : (rngS lo c n).length = n := by simp [rngS]
    show n ≤ (rngS lo c n).length
    omega
  yields := fun i W2 S2 H2 x H' le st hi y => by
    obtain ⟨e, rfl⟩ := y
    subst e
    have hn : i < n := by simpa [rngS] using hi
    exact ⟨Same.refl _, .d (.int (lo + (i : Int) * c)), by simp [rngS, hn], .d (.int _)⟩
def iR3 (f : Lf) : If := fun ρ S => (f ρ S).bind fun ws S1 => match ws with
  | [.d (.int i), .d (.int j), .d (.int c)] => if sm3 i j c then .ok (rngS i c (Builtin.Range.rangeSize i j c).toNat) S1 else .bad
  | _ => .bad
section
variable {X : Cx} {ct : Str → Addr} {ex : WX} {a b d tg : Expr} {fl : Lf} {p pos : Pos}
theorem ii_r3 (hm : X.mg "range" = none) (ha : PA X [a, b, d] (tL (CC X ct ex) fl)) (hg : Gl X "range" := by rfl) (hs : starEach [a, b, d] X.env = [(false, eval a X.env), (false, eval b X.env), (false, eval d X.env)] := by rfl) (hs2 : starEach [b, d] X.env = [(false, eval b X.env), (false, eval d X.env)] := by rfl) :
    PI X tg (.Call (.Name "range" p) [a, b, d] [] pos) (tI (CC X ct ex) (iR3 fl)) := by
  refine PI.imp (pi_rangeS hg hm ha hs hs2) fun σ H R ⟨W, ρ, S, k, q⟩ => ?_
  refine tL_I k q fun v w W1 S1 H1 k1 r1 p1 => ?_
  match w, r1, p1 with
  | [.d (.int i), .d (.int j), .d (.int c)], .cons (.d (.int _)) (.cons (.d (.int _)) (.cons (.d (.int _)) .nil)), p1 =>
    have p2 : PostI (CC X ct ex) W1 σ H1 (if sm3 i j c then .ok (rngS i c (Builtin.Range.rangeSize i j c).toNat) S1 else .bad) R := p1
    by_cases hj : sm3 i j c
    · rw [if_pos hj] at p2
      exact ⟨i, j, c, rfl, hj, p2 _ W1 H1 (Le.refl _ _) k1.st walkR3⟩
    · rw [if_neg hj] at p2; exact p2.elim
end
theorem i_r3 {fl : Lf} {ρ : En} {S S1 : Store} {i j c : Int} (h : fl ρ S = .ok [.d (.int i), .d (.int j), .d (.int c)] S1) (hs : sm3 i j c) : iR3 fl ρ S = .ok (rngS i c (Builtin.Range.rangeSize i j c).toNat) S1 := by
  unfold iR3; rw [h]; exact if_pos hs
/-! ### turns that go on early -/
def Ct (P : En → Store → Prop) (r : SRes) : Prop := ∃ ρ S, (r = .nx ρ S ∨ r = .ct ρ S) ∧ P ρ S
section
variable {it : If} {tg : Tg} {body b : Sf} {ρ : En} {S S' : Store} {Q : SRes → Prop}
theorem for_finC {α : Type} (xs : List α) (g : α → Wv) (I : Nat → En → Store → Prop) (hit : it ρ S = .ok (xs.map g) S') (h0 : I 0 ρ S')
    (hs : ∀ i x, xs[i]? = some x → ∀ ρ S, I i ρ S → ∃ ρ1, bindT tg (g x) ρ = some ρ1 ∧ Gs body ρ1 S (Ct (I (i + 1)))) : Gs (sFor it tg body) ρ S (Nx (I xs.length)) := by
  have gen : ∀ (m i : Nat) (ρ : En) (S : Store), xs.length - i = m → i ≤ xs.length → I i ρ S → ∃ ρ2 S2, loopS tg body ((xs.drop i).map g) ρ S = .nx ρ2 S2 ∧ I xs.length ρ2 S2 := by
    intro m
    induction m with
    | zero =>
      intro i ρ S hm hi h
      have e : i = xs.length := by omega
      subst e
      rw [List.drop_length]
      exact ⟨ρ, S, rfl, h⟩
    | succ m ih =>
      intro i ρ S hm hi h
      have hl : i < xs.length := by omega
      obtain ⟨ρ1, e1, ρ2, S2, e2, h2⟩ := hs i xs[i] (List.getElem?_eq_getElem hl) ρ S h
      obtain ⟨ρ3, S3, e3, h3⟩ := ih (i + 1) ρ2 S2 (by omega) (by omega) h2
      refine ⟨ρ3, S3, ?_, h3⟩
      rw [List.drop_eq_getElem_cons hl, List.map_cons, loopS, e1]
      dsimp only
      rcases e2 with e2 | e2
      · rw [e2]; exact e3
      · rw [e2]; exact e3
  obtain ⟨ρ2, S2, e, h⟩ := gen _ 0 ρ S' rfl (Nat.zero_le _) h0
  rw [List.drop_zero] at e
  refine ⟨ρ2, S2, ?_, h⟩
  unfold sFor
  rw [hit]
  exact e
end
end PL

namespace PL.K16
open PySem PySem.Spec PyProof.Rows L2 PL
def top (i : Nat) : Stmt := PySem.Challenge.pw_pulselines_k16_whole_chains_of_wakings.main.body.getD i (.Pass ⟨0, 0, 0, 0⟩)
structure Bt (K : PySem.W.Frag) (mg : Str → Option Value) : Prop where
  x_NoLine : ExcOk K mg "NoLine"
  n_all : mg "all" = none
  n_any : mg "any" = none
  n_len : mg "len" = none
  n_list : mg "list" = none
  n_min : mg "min" = none
  n_range : mg "range" = none
  n_set : mg "set" = none
  n_sorted : mg "sorted" = none
  n_tuple : mg "tuple" = none
section
variable {P : Program} {w : World} {K : PySem.W.Frag} {mg : Str → Option Value} {base : Heap}
abbrev s_line_of : Stmt := top 4
theorem sc_line_of : FnScope n_line_of p_line_of (defScope s_line_of) := ⟨rfl, rfl, rfl, by decide +kernel, rfl, by decide +kernel, by decide +kernel⟩
theorem w_line_of (B : Bt K mg)  (D : DefAt K mg "line_of" s_line_of p_line_of) : Callee P w K mg base 1 "line_of" p_line_of (spP K (ctOf mg) 2 f_line_of) := mkP (ctOf mg) D sc_line_of b_line_of fun f cdv A outer s H E hr =>
  (ss_cons (ss_for (passes_of rfl) rfl (ii_any (ee_ix (ee_var 0) ee_int)) (gg_nm sc_line_of.nd) (ss_one (ss_if (tt_cmp (op_eqA (huA hr)) ok_eq (ee_ix (ee_var 2) ee_int) (ee_var 1) (nomark _)) (ss_one (ss_ret (ee_var 2))) ss_nil))) (ss_one (ss_raise rfl tkD B.x_NoLine)))
abbrev s_line_edges : Stmt := top 6
theorem sc_line_edges : FnScope n_line_edges p_line_edges (defScope s_line_edges) := ⟨rfl, rfl, rfl, by decide +kernel, rfl, by decide +kernel, by decide +kernel⟩
theorem w_line_edges (B : Bt K mg) (G_line_of : Callee P w K mg base 1 "line_of" p_line_of (spP K (ctOf mg) 2 f_line_of)) (D : DefAt K mg "line_edges" s_line_edges p_line_edges) : Callee P w K mg base 2 "line_edges" p_line_edges (spP K (ctOf mg) 2 f_line_edges) := mkP (ctOf mg) D sc_line_edges b_line_edges fun f cdv A outer s H E hr =>
  (ss_cons (ss_set (i := 2) sc_line_edges.nd (ee_cP G_line_of (hr.mono (by decide)) tkD (by exact (aa_cons (ee_var 0) (aa_cons (ee_var 1) aa_nil))) (lenL_cons (lenL_cons lenL_nil)))) (ss_cons (ss_if (tt_w (ww_or (tt_cmp (op_eqA (huA hr)) ok_eq (ee_ix (ee_var 2) ee_int) ee_int (nomark _)) (ww_or1 (tt_cmp (op_eqA (huA hr)) ok_eq (ee_ix (ee_var 2) ee_int) (ee_ix (ee_var 0) ee_int) (nomark _))))) (ss_one (ss_ret ee_non)) ss_nil) (ss_one (ss_ret (ee_tup (aa_cons (ee_ix (ee_var 2) ee_int) (aa_cons (ee_bin op_mod ok_mod (ee_bin op_addA ok_add (ee_ix (ee_var 2) ee_int) (ee_ix (ee_var 2) ee_int)) (ee_ix (ee_var 0) ee_int)) aa_nil)))))))
abbrev s_wakes : Stmt := top 7
theorem sc_wakes : FnScope n_wakes p_wakes (defScope s_wakes) := ⟨rfl, rfl, rfl, by decide +kernel, rfl, by decide +kernel, by decide +kernel⟩
theorem w_wakes (B : Bt K mg) (G_line_edges : Callee P w K mg base 2 "line_edges" p_line_edges (spP K (ctOf mg) 2 f_line_edges)) (D : DefAt K mg "wakes" s_wakes p_wakes) : Callee P w K mg base 3 "wakes" p_wakes (spP K (ctOf mg) 1 f_wakes) := mkP (ctOf mg) D sc_wakes b_wakes fun f cdv A outer s H E hr =>
  (ss_cons (ss_set (i := 1) sc_wakes.nd (ee_newL aa_nil)) (ss_cons (ss_for (passes_of rfl) rfl (ii_any (ee_ix (ee_var 0) ee_int)) (gg_nm sc_wakes.nd) (ss_cons (ss_set (i := 3) sc_wakes.nd (ee_cP G_line_edges (hr.mono (by decide)) tkD (by exact (aa_cons (ee_var 0) (aa_cons (ee_ix (ee_var 2) ee_int) aa_nil))) (lenL_cons (lenL_cons lenL_nil)))) (ss_one (ss_if (tt_notN (ee_var 3)) (ss_one (ss_expr (ee_ext (ee_var 1) (by exact (aa_cons (ee_list B.n_list (by exact (aa_cons (ee_var 3) aa_nil))) aa_nil))))) ss_nil)))) (ss_frz 1 (ss_one (ss_ret (ee_tuple B.n_tuple (by exact (aa_cons (ee_sset B.n_sorted B.n_set rfl (by exact (aa_cons (ee_var 1) aa_nil))) aa_nil))))))))
abbrev s_apart : Stmt := top 8
theorem sc_apart : FnScope n_apart p_apart (defScope s_apart) := ⟨rfl, rfl, rfl, by decide +kernel, rfl, by decide +kernel, by decide +kernel⟩
theorem w_apart (B : Bt K mg)  (D : DefAt K mg "apart" s_apart p_apart) : Callee P w K mg base 1 "apart" p_apart (spP K (ctOf mg) 3 f_apart) := mkP (ctOf mg) D sc_apart b_apart fun f cdv A outer s H E hr =>
  (ss_one (ss_ret (ee_min2 B.n_min rfl (by exact (aa_cons (ee_bin op_mod ok_mod (ee_bin op_sub ok_sub (ee_var 1) (ee_var 2)) (ee_var 0)) (aa_cons (ee_bin op_mod ok_mod (ee_bin op_sub ok_sub (ee_var 2) (ee_var 1)) (ee_var 0)) aa_nil))))))
abbrev s_is_near : Stmt := top 9
theorem sc_is_near : FnScope n_is_near p_is_near (defScope s_is_near) := ⟨rfl, rfl, rfl, by decide +kernel, rfl, by decide +kernel, by decide +kernel⟩
theorem w_is_near (B : Bt K mg) (G_apart : Callee P w K mg base 1 "apart" p_apart (spP K (ctOf mg) 3 f_apart)) (G_wakes : Callee P w K mg base 3 "wakes" p_wakes (spP K (ctOf mg) 1 f_wakes)) (D : DefAt K mg "is_near" s_is_near p_is_near) : Callee P w K mg base 4 "is_near" p_is_near (spP K (ctOf mg) 3 f_is_near) := mkP (ctOf mg) D sc_is_near b_is_near fun f cdv A outer s H E hr =>
  (ss_one (ss_ret (ee_all B.n_all rfl (by exact (aa_cons (by exact (ee_lc (own := [("edge", 3)]) rfl sc_is_near.nd (blkOk_by (own := [("edge", 3)]) (N := n_is_near) (sc := (defScope s_is_near)) (by decide +kernel)) (ii_any (ee_cP G_wakes (hr.mono (by decide)) tkD (by exact (aa_cons (ee_var 0) aa_nil)) (lenL_cons lenL_nil))) (fun _ _ _ _ _ => (gw_nm sc_is_near.nd)) (fun _ _ _ _ _ => ts_nil) (fun _ _ _ _ _ => (ee_any B.n_any rfl (by exact (aa_cons (by exact (ee_lc (own := [("one", 4)]) rfl sc_is_near.nd (blkOk_by (own := [("one", 4)]) (N := n_is_near) (by rfl)) (ii_any (ee_var 1)) (fun _ _ _ _ _ => (gw_nm sc_is_near.nd)) (fun _ _ _ _ _ => ts_nil) (fun _ _ _ _ _ => (ee_cmp op_leA ok_le (ee_cP G_apart (hr.mono (by decide)) takes0 (by exact (aa_cons (ee_ix (ee_var 0) ee_int) (aa_cons (ee_var 3) (aa_cons (ee_var 4) aa_nil)))) (lenL_cons (lenL_cons (lenL_cons lenL_nil)))) (ee_var 2) (nomark _))))) aa_nil)))))) aa_nil)))))
abbrev s_chain : Stmt := top 10
theorem sc_chain : FnScope n_chain p_chain (defScope s_chain) := ⟨rfl, rfl, rfl, by decide +kernel, rfl, by decide +kernel, by decide +kernel⟩
theorem w_chain (B : Bt K mg) (G_apart : Callee P w K mg base 1 "apart" p_apart (spP K (ctOf mg) 3 f_apart)) (G_wakes : Callee P w K mg base 3 "wakes" p_wakes (spP K (ctOf mg) 1 f_wakes)) (D : DefAt K mg "chain" s_chain p_chain) : Callee P w K mg base 4 "chain" p_chain (spP K (ctOf mg) 3 f_chain) := mkP (ctOf mg) D sc_chain b_chain fun f cdv A outer s H E hr =>
  (ss_cons (ss_set (i := 3) sc_chain.nd (ee_ix (ee_var 0) ee_int)) (ss_cons (ss_set (i := 4) sc_chain.nd (ee_srt B.n_sorted (huB hr) (by exact (aa_cons (by exact (ee_lc (own := [("edge", 7)]) rfl sc_chain.nd (blkOk_by (own := [("edge", 7)]) (N := n_chain) (sc := (defScope s_chain)) (by decide +kernel)) (ii_any (ee_cP G_wakes (hr.mono (by decide)) tkD (by exact (aa_cons (ee_var 0) aa_nil)) (lenL_cons lenL_nil))) (fun _ _ _ _ _ => (gw_nm sc_chain.nd)) (fun _ _ _ _ _ => (ts_one (tt_cmp op_gt ok_gt (ee_cP G_apart (hr.mono (by decide)) takes0 (by exact (aa_cons (ee_var 3) (aa_cons (ee_var 7) (aa_cons (ee_var 1) aa_nil)))) (lenL_cons (lenL_cons (lenL_cons lenL_nil)))) (ee_var 2) (nomark _)))) (fun _ _ _ _ _ => (ee_bin op_mod ok_mod (ee_bin op_sub ok_sub (ee_var 7) (ee_var 1)) (ee_var 3))))) aa_nil)))) (ss_cons (ss_set (i := 5) sc_chain.nd (ee_newL (aa_cons (ee_var 1) aa_nil))) (ss_cons (ss_while fu_chain_1 (passes_of rfl) (tt_tru (ee_var 4)) (ss_cons (ss_set (i := 6) sc_chain.nd (ee_bin op_addA ok_add (ee_ix (ee_var 4) ee_int) (ee_var 2))) (ss_cons (ss_expr (ee_app (ee_var 5) (aa_cons (ee_bin op_mod ok_mod (ee_bin op_addA ok_add (ee_var 1) (ee_var 6)) (ee_var 3)) aa_nil))) (ss_one (ss_setLc (i := 4) (own := [("edge", 7)]) rfl sc_chain.nd (blkOk_by (own := [("edge", 7)]) (N := n_chain) (sc := (defScope s_chain)) (by decide +kernel)) (ii_any (ee_var 4)) (fun _ _ _ _ _ => (gw_nm sc_chain.nd)) (fun _ _ _ _ _ => (ts_one (tt_cmp op_gt ok_gt (ee_var 7) (ee_bin op_addA ok_add (ee_var 6) (ee_var 2)) (nomark _)))) (fun _ _ _ _ _ => (ee_var 7))))))) (ss_frz 5 (ss_one (ss_ret (ee_tuple B.n_tuple (by exact (aa_cons (ee_srt B.n_sorted (huB hr) (by exact (aa_cons (ee_var 5) aa_nil))) aa_nil))))))))))
abbrev s_least_many : Stmt := top 11
theorem sc_least_many : FnScope n_least_many p_least_many (defScope s_least_many) := ⟨rfl, rfl, rfl, by decide +kernel, rfl, by decide +kernel, by decide +kernel⟩
theorem w_least_many (B : Bt K mg) (G_chain : Callee P w K mg base 4 "chain" p_chain (spP K (ctOf mg) 3 f_chain)) (G_wakes : Callee P w K mg base 3 "wakes" p_wakes (spP K (ctOf mg) 1 f_wakes)) (D : DefAt K mg "least_many" s_least_many p_least_many) : Callee P w K mg base 5 "least_many" p_least_many (spP K (ctOf mg) 2 f_least_many) := mkP (ctOf mg) D sc_least_many b_least_many fun f cdv A outer s H E hr =>
  (ss_cons (ss_if (tt_cmp (op_eqA (huA hr)) ok_eq (ee_cP G_wakes (hr.mono (by decide)) tkD (by exact (aa_cons (ee_var 0) aa_nil)) (lenL_cons lenL_nil)) (ee_tup aa_nil) (nomark _)) (ss_one (ss_ret ee_int)) ss_nil) (ss_cons (ss_set (i := 2) sc_least_many.nd (ee_ix (ee_cP G_wakes (hr.mono (by decide)) tkD (by exact (aa_cons (ee_var 0) aa_nil)) (lenL_cons lenL_nil)) ee_int)) (ss_cons (ss_setLc (i := 3) (own := [("by", 4)]) rfl sc_least_many.nd (blkOk_by (own := [("by", 4)]) (N := n_least_many) (sc := (defScope s_least_many)) (by decide +kernel)) (ii_r2 B.n_range (aa_cons (ee_bin op_sub ok_sub ee_int (ee_var 1)) (aa_cons (ee_bin op_addA ok_add (ee_var 1) ee_int) aa_nil))) (fun _ _ _ _ _ => (gw_nm sc_least_many.nd)) (fun _ _ _ _ _ => ts_nil) (fun _ _ _ _ _ => (ee_bin op_mod ok_mod (ee_bin op_addA ok_add (ee_var 2) (ee_var 4)) (ee_ix (ee_var 0) ee_int)))) (ss_one (ss_ret (ee_min1 B.n_min rfl (huB hr) (by exact (aa_cons (by exact (ee_lc (own := [("first", 5)]) rfl sc_least_many.nd (blkOk_by (own := [("first", 5)]) (N := n_least_many) (sc := (defScope s_least_many)) (by decide +kernel)) (ii_any (ee_var 3)) (fun _ _ _ _ _ => (gw_nm sc_least_many.nd)) (fun _ _ _ _ _ => ts_nil) (fun _ _ _ _ _ => (ee_len B.n_len (by exact (aa_cons (ee_cP G_chain (hr.mono (by decide)) takes0 (by exact (aa_cons (ee_var 0) (aa_cons (ee_var 5) (aa_cons (ee_var 1) aa_nil)))) (lenL_cons (lenL_cons (lenL_cons lenL_nil)))) aa_nil)))))) aa_nil))))))))
abbrev s_turned : Stmt := top 13
theorem sc_turned : FnScope n_turned p_turned (defScope s_turned) := ⟨rfl, rfl, rfl, by decide +kernel, rfl, by decide +kernel, by decide +kernel⟩
theorem w_turned (B : Bt K mg)  (D : DefAt K mg "turned" s_turned p_turned) : Callee P w K mg base 1 "turned" p_turned (spP K (ctOf mg) 2 f_turned) := mkP (ctOf mg) D sc_turned b_turned fun f cdv A outer s H E hr =>
  (ss_one (ss_ret (ee_tup (aa_cons (ee_ix (ee_var 0) ee_int) (aa_cons (ee_tuple B.n_tuple (by exact (aa_cons (by exact (ee_lc (own := [("name", 2), ("width", 3), ("shift", 4)]) rfl sc_turned.nd (blkOk_by (own := [("name", 2), ("width", 3), ("shift", 4)]) (N := n_turned) (sc := (defScope s_turned)) (by decide +kernel)) (ii_any (ee_ix (ee_var 0) ee_int)) (fun _ _ _ _ _ => (gw_tup rfl (gws_cons (gw_nm sc_turned.nd) (gws_cons (gw_nm sc_turned.nd) (gws_cons (gw_nm sc_turned.nd) gws_nil))))) (fun _ _ _ _ _ => ts_nil) (fun _ _ _ _ _ => (ee_tup (aa_cons (ee_var 2) (aa_cons (ee_var 3) (aa_cons (ee_bin op_mod ok_mod (ee_bin op_addA ok_add (ee_var 4) (ee_var 1)) (ee_ix (ee_var 0) ee_int)) aa_nil))))))) aa_nil))) aa_nil)))))
abbrev s__law_draw : Stmt := top 15
theorem sc__law_draw : FnScope n__law_draw p__law_draw (defScope s__law_draw) := ⟨rfl, rfl, rfl, by decide +kernel, rfl, by decide +kernel, by decide +kernel⟩
theorem w__law_draw (B : Bt K mg)  (D : DefAt K mg "_law_draw" s__law_draw p__law_draw) : Callee P w K mg base 1 "_law_draw" p__law_draw (spG K (ctOf mg) 3 g__law_draw) := mkG (ctOf mg) D sc__law_draw b__law_draw fun f cdv A outer s H E hr =>
  (ss_cons (ss_expr (ee_app (ee_var 1) (aa_cons ee_int aa_nil))) (ss_cons (ss_set (i := 3) sc__law_draw.nd (ee_len B.n_len (by exact (aa_cons (ee_var 1) aa_nil)))) (ss_cons (ss_set (i := 4) sc__law_draw.nd ee_int) (ss_cons (ss_if (tt_tru (ee_var 0)) (ss_one (ss_set (i := 4) sc__law_draw.nd (ee_ix (ee_var 0) (ee_bin op_mod ok_mod (ee_var 3) (ee_len B.n_len (by exact (aa_cons (ee_var 0) aa_nil))))))) ss_nil) (ss_cons (ss_set (i := 5) sc__law_draw.nd (ee_bin op_mod ok_mod (ee_bin op_addA ok_add (ee_var 4) (ee_bin op_mul ok_mul ee_int (ee_var 3))) ee_int)) (ss_cons (ss_set (i := 5) sc__law_draw.nd (ee_bin op_mod ok_mod (ee_bin op_mul ok_mul (ee_bin op_mod ok_mod (ee_bin op_mul ok_mul (ee_var 5) (ee_var 5)) ee_int) ee_int) ee_int)) (ss_cons (ss_set (i := 6) sc__law_draw.nd (ee_bin op_mod ok_mod (ee_bin op_mul ok_mul (ee_bin op_mod ok_mod (ee_bin op_mul ok_mul (ee_var 5) (ee_var 5)) ee_int) ee_int) ee_int)) (ss_one (ss_ret (ee_bin op_mod ok_mod (ee_bin op_addA ok_add (ee_bin op_mul ok_mul (ee_bin op_fdiv ok_div (ee_var 5) ee_int) ee_int) (ee_bin op_fdiv ok_div (ee_var 6) ee_int)) (ee_var 2)))))))))))
abbrev s__law_pick : Stmt := top 16
theorem sc__law_pick : FnScope n__law_pick p__law_pick (defScope s__law_pick) := ⟨rfl, rfl, rfl, by decide +kernel, rfl, by decide +kernel, by decide +kernel⟩
theorem w__law_pick (B : Bt K mg) (G__law_draw : Callee P w K mg base 1 "_law_draw" p__law_draw (spG K (ctOf mg) 3 g__law_draw)) (D : DefAt K mg "_law_pick" s__law_pick p__law_pick) : Callee P w K mg base 2 "_law_pick" p__law_pick (spG K (ctOf mg) 3 g__law_pick) := mkG (ctOf mg) D sc__law_pick b__law_pick fun f cdv A outer s H E hr =>
  (ss_one (ss_ret (ee_ix (ee_var 2) (ee_cG G__law_draw (hr.mono (by decide)) tkD (by exact (aa_cons (ee_var 0) (aa_cons (ee_var 1) (aa_cons (ee_len B.n_len (by exact (aa_cons (ee_var 2) aa_nil))) aa_nil)))) (lenL_cons (lenL_cons (lenL_cons lenL_nil)))))))
abbrev s__law_plan : Stmt := top 17
theorem sc__law_plan : FnScope n__law_plan p__law_plan (defScope s__law_plan) := ⟨rfl, rfl, rfl, by decide +kernel, rfl, by decide +kernel, by decide +kernel⟩
theorem w__law_plan (B : Bt K mg) (G__law_draw : Callee P w K mg base 1 "_law_draw" p__law_draw (spG K (ctOf mg) 3 g__law_draw)) (G__law_pick : Callee P w K mg base 2 "_law_pick" p__law_pick (spG K (ctOf mg) 3 g__law_pick)) (D : DefAt K mg "_law_plan" s__law_plan p__law_plan) : Callee P w K mg base 3 "_law_plan" p__law_plan (spG K (ctOf mg) 3 g__law_plan) := mkG (ctOf mg) D sc__law_plan b__law_plan fun f cdv A outer s H E hr =>
  (ss_cons (ss_set (i := 3) sc__law_plan.nd (ee_bin op_addA ok_add ee_int (ee_cG G__law_draw (hr.mono (by decide)) tkD (by exact (aa_cons (ee_var 0) (aa_cons (ee_var 1) (aa_cons (ee_bin op_sub ok_sub (ee_var 2) ee_int) aa_nil)))) (lenL_cons (lenL_cons (lenL_cons lenL_nil)))))) (ss_cons (ss_par (i := 4) (j := 5) rfl sc__law_plan.nd (aa_cons (ee_tup aa_nil) (aa_cons (ee_cG G__law_draw (hr.mono (by decide)) tkD (by exact (aa_cons (ee_var 0) (aa_cons (ee_var 1) (aa_cons ee_int aa_nil)))) (lenL_cons (lenL_cons (lenL_cons lenL_nil)))) aa_nil))) (ss_cons (ss_for (passes_of rfl) rfl (ii_r1 B.n_range (aa_cons (ee_bin op_addA ok_add ee_int (ee_cG G__law_draw (hr.mono (by decide)) tkD (by exact (aa_cons (ee_var 0) (aa_cons (ee_var 1) (aa_cons ee_int aa_nil)))) (lenL_cons (lenL_cons (lenL_cons lenL_nil))))) aa_nil)) (gg_nm sc__law_plan.nd) (ss_cons (ss_setLc (i := 7) (own := [("_law_j", 10)]) rfl sc__law_plan.nd (blkOk_by (own := [("_law_j", 10)]) (N := n__law_plan) (sc := (defScope s__law_plan)) (by decide +kernel)) (ii_r1 B.n_range (aa_cons ee_int aa_nil)) (fun _ _ _ _ _ => (gw_nm sc__law_plan.nd)) (fun _ _ _ _ _ => ts_nil) (fun _ _ _ _ _ => (ee_cG G__law_draw (hr.mono (by decide)) takes0 (by exact (aa_cons (ee_var 0) (aa_cons (ee_var 1) (aa_cons (ee_bin op_addA ok_add (ee_var 3) ee_int) aa_nil)))) (lenL_cons (lenL_cons (lenL_cons lenL_nil)))))) (ss_cons (ss_set (i := 8) sc__law_plan.nd (ee_cG G__law_pick (hr.mono (by decide)) tkD (by exact (aa_cons (ee_var 0) (aa_cons (ee_var 1) (aa_cons (ee_bin op_addA ok_add (ee_lst (aa_cons ee_int (aa_cons (ee_var 3) (aa_cons ee_int aa_nil)))) (ee_var 7)) aa_nil)))) (lenL_cons (lenL_cons (lenL_cons lenL_nil))))) (ss_cons (ss_set (i := 9) sc__law_plan.nd (ee_ix ee_str (ee_bin op_addA ok_add (ee_var 5) (ee_bin op_mul ok_mul ee_int (ee_var 6))))) (ss_one (ss_set (i := 4) sc__law_plan.nd (ee_bin op_addA ok_add (ee_var 4) (ee_tup (aa_cons (ee_tup (aa_cons (ee_var 9) (aa_cons (ee_var 8) (aa_cons (ee_cG G__law_draw (hr.mono (by decide)) tkD (by exact (aa_cons (ee_var 0) (aa_cons (ee_var 1) (aa_cons (ee_var 3) aa_nil)))) (lenL_cons (lenL_cons (lenL_cons lenL_nil)))) aa_nil)))) aa_nil))))))))) (ss_one (ss_ret (ee_tup (aa_cons (ee_var 3) (aa_cons (ee_var 4) aa_nil))))))))
abbrev s__law_chain_holds : Stmt := top 18
abbrev n__law_chain_holds : List Str := ["_law_plan_here", "_law_first", "_law_slack", "_law_some", "_law_beats", "_law_one", "_law_less", "_law_by", "_law_there", "_law_begin", "_law_other"]
abbrev p__law_chain_holds : List Str := ["_law_plan_here", "_law_first", "_law_slack"]
theorem sc__law_chain_holds : FnScope n__law_chain_holds p__law_chain_holds (defScope s__law_chain_holds) := ⟨rfl, rfl, rfl, by decide +kernel, rfl, by decide +kernel, by decide +kernel⟩
def e1__law_chain_holds : Ef := (eChain oLe oLt (eC (.int 0)) (eVar 5) (eVar 4))
def e2__law_chain_holds : Ef := (eVar 10)
def t1__law_chain_holds : Bf := (eT (eD2 oNe (eVar 10) (eVar 5)))
def l1__law_chain_holds : Sf := (sSeq (sAsg (.nm 6) (eDN (o1 oTuple) (aCons (eComp (iAny (eVar 3)) (.nm 10) t1__law_chain_holds e2__law_chain_holds [10]) aNil))) (sIf (bAnd (eT (eD2 oNe (eVar 5) (eVar 1))) (bTr (eCallP f_is_near (aCons (eVar 0) (aCons (eVar 6) (aCons (eVar 2) aNil)))))) (sRet (eC (.bool false))) sNext))
def e3__law_chain_holds : Ef := (eD2 oSub (eD2 oAdd (eVar 5) (eVar 7)) (eD2 oMulT (eD2 oDiv (eD2 oAdd (eVar 5) (eVar 7)) (eVar 4)) (eVar 4)))
def b__law_chain_holds : Sf := (sSeq (sAsg (.tp [(.nm 3), (.nm 4)]) (eTup (aCons (eCallP f_chain (aCons (eVar 0) (aCons (eVar 1) (aCons (eVar 2) aNil)))) (aCons (eIx (eVar 0) (eC (.int 0))) aNil)))) (sSeq (sIf (bOr (eT (eD2 oNotIn (eVar 1) (eVar 3))) (bOr (eT (eD2 oNe (eDN (o1 oList) (aCons (eVar 3) aNil)) (eDN (o1 oSSet) (aCons (eVar 3) aNil)))) (bNot (bTr (eDN (o1 oAll) (aCons (eComp (iAny (eVar 3)) (.nm 5) bYes e1__law_chain_holds [5]) aNil)))))) (sRet (eC (.bool false))) sNext) (sSeq (sIf (bNot (bTr (eCallP f_is_near (aCons (eVar 0) (aCons (eVar 3) (aCons (eVar 2) aNil)))))) (sRet (eC (.bool false))) sNext) (sSeq (sFor (iAny (eVar 3)) (.nm 5) l1__law_chain_holds) (sSeq (sAsg (.nm 7) (eD2 oAdd (eVar 1) (eC (.int 3)))) (sSeq (sAsg (.nm 8) (eComp (iAny (eVar 3)) (.nm 5) bYes e3__law_chain_holds [5])) (sSeq (sAsg (.nm 9) (eD2 oSub (eD2 oAdd (eVar 1) (eVar 7)) (eD2 oMulT (eD2 oDiv (eD2 oAdd (eVar 1) (eVar 7)) (eVar 4)) (eVar 4)))) (sRet (eD2 oEq (eCallP f_chain (aCons (eCallP f_turned (aCons (eVar 0) (aCons (eVar 7) aNil))) (aCons (eVar 9) (aCons (eVar 2) aNil)))) (eDN (o1 oTuple) (aCons (eDN (o1 oSrt) (aCons (eVar 8) aNil)) aNil)))))))))))
def f__law_chain_holds : List PyData → PRes := runP 11 b__law_chain_holds
theorem w__law_chain_holds (B : Bt K mg) (G_chain : Callee P w K mg base 4 "chain" p_chain (spP K (ctOf mg) 3 f_chain)) (G_is_near : Callee P w K mg base 4 "is_near" p_is_near (spP K (ctOf mg) 3 f_is_near)) (G_turned : Callee P w K mg base 1 "turned" p_turned (spP K (ctOf mg) 2 f_turned)) (D : DefAt K mg "_law_chain_holds" s__law_chain_holds p__law_chain_holds) : Callee P w K mg base 5 "_law_chain_holds" p__law_chain_holds (spP K (ctOf mg) 3 f__law_chain_holds) := mkP (ctOf mg) D sc__law_chain_holds b__law_chain_holds fun f cdv A outer s H E hr =>
  (ss_cons (ss_asg (ee_tup (aa_cons (ee_cP G_chain (hr.mono (by decide)) tkD (by exact (aa_cons (ee_var 0) (aa_cons (ee_var 1) (aa_cons (ee_var 2) aa_nil)))) (lenL_cons (lenL_cons (lenL_cons lenL_nil)))) (aa_cons (ee_ix (ee_var 0) ee_int) aa_nil))) (gg_tup rfl (ggs_cons (gg_nm sc__law_chain_holds.nd) (ggs_cons (gg_nm sc__law_chain_holds.nd) ggs_nil)))) (ss_cons (ss_if (tt_w (ww_or (tt_cmp (op_notInA (huB hr)) ok_notIn (ee_var 1) (ee_var 3) rfl) (ww_or (tt_cmp (op_neA (huA hr)) ok_ne (ee_list B.n_list (by exact (aa_cons (ee_var 3) aa_nil))) (ee_sset B.n_sorted B.n_set rfl (by exact (aa_cons (ee_var 3) aa_nil))) (nomark _)) (ww_or1 (tt_not (tt_tru (ee_all B.n_all rfl (by exact (aa_cons (by exact (ee_lc (own := [("_law_one", 5)]) rfl sc__law_chain_holds.nd (blkOk_by (own := [("_law_one", 5)]) (N := n__law_chain_holds) (sc := (defScope s__law_chain_holds)) (by decide +kernel)) (ii_any (ee_var 3)) (fun _ _ _ _ _ => (gw_nm sc__law_chain_holds.nd)) (fun _ _ _ _ _ => ts_nil) (fun _ _ _ _ _ => (ee_chain op_leA op_ltA ok_le ok_lt ee_int (ee_var 5) (ee_var 4))))) aa_nil))))))))) (ss_one (ss_ret ee_bl)) ss_nil) (ss_cons (ss_if (tt_not (tt_tru (ee_cP G_is_near (hr.mono (by decide)) tkD (by exact (aa_cons (ee_var 0) (aa_cons (ee_var 3) (aa_cons (ee_var 2) aa_nil)))) (lenL_cons (lenL_cons (lenL_cons lenL_nil)))))) (ss_one (ss_ret ee_bl)) ss_nil) (ss_cons (ss_for (passes_of rfl) rfl (ii_any (ee_var 3)) (gg_nm sc__law_chain_holds.nd) (ss_cons (ss_set (i := 6) sc__law_chain_holds.nd (ee_tuple B.n_tuple (by exact (aa_cons (by exact (ee_lc (own := [("_law_other", 10)]) rfl sc__law_chain_holds.nd (blkOk_by (own := [("_law_other", 10)]) (N := n__law_chain_holds) (sc := (defScope s__law_chain_holds)) (by decide +kernel)) (ii_any (ee_var 3)) (fun _ _ _ _ _ => (gw_nm sc__law_chain_holds.nd)) (fun _ _ _ _ _ => (ts_one (tt_cmp (op_neA (huA hr)) ok_ne (ee_var 10) (ee_var 5) (nomark _)))) (fun _ _ _ _ _ => (ee_var 10)))) aa_nil)))) (ss_one (ss_if (tt_w (ww_and (tt_cmp (op_neA (huA hr)) ok_ne (ee_var 5) (ee_var 1) (nomark _)) (ww_and1 (tt_tru (ee_cP G_is_near (hr.mono (by decide)) tkD (by exact (aa_cons (ee_var 0) (aa_cons (ee_var 6) (aa_cons (ee_var 2) aa_nil)))) (lenL_cons (lenL_cons (lenL_cons lenL_nil)))))))) (ss_one (ss_ret ee_bl)) ss_nil)))) (ss_cons (ss_set (i := 7) sc__law_chain_holds.nd (ee_bin op_addA ok_add (ee_var 1) ee_int)) (ss_cons (ss_setLc (i := 8) (own := [("_law_one", 5)]) rfl sc__law_chain_holds.nd (blkOk_by (own := [("_law_one", 5)]) (N := n__law_chain_holds) (sc := (defScope s__law_chain_holds)) (by decide +kernel)) (ii_any (ee_var 3)) (fun _ _ _ _ _ => (gw_nm sc__law_chain_holds.nd)) (fun _ _ _ _ _ => ts_nil) (fun _ _ _ _ _ => (ee_bin op_sub ok_sub (ee_bin op_addA ok_add (ee_var 5) (ee_var 7)) (ee_bin op_mulT ok_mulT (ee_bin op_fdiv ok_div (ee_bin op_addA ok_add (ee_var 5) (ee_var 7)) (ee_var 4)) (ee_var 4))))) (ss_cons (ss_set (i := 9) sc__law_chain_holds.nd (ee_bin op_sub ok_sub (ee_bin op_addA ok_add (ee_var 1) (ee_var 7)) (ee_bin op_mulT ok_mulT (ee_bin op_fdiv ok_div (ee_bin op_addA ok_add (ee_var 1) (ee_var 7)) (ee_var 4)) (ee_var 4)))) (ss_one (ss_ret (ee_cmp (op_eqA (huA hr)) ok_eq (ee_cP G_chain (hr.mono (by decide)) tkD (by exact (aa_cons (ee_cP G_turned (hr.mono (by decide)) tkD (by exact (aa_cons (ee_var 0) (aa_cons (ee_var 7) aa_nil))) (lenL_cons (lenL_cons lenL_nil))) (aa_cons (ee_var 9) (aa_cons (ee_var 2) aa_nil)))) (lenL_cons (lenL_cons (lenL_cons lenL_nil)))) (ee_tuple B.n_tuple (by exact (aa_cons (ee_srt B.n_sorted (huB hr) (by exact (aa_cons (ee_var 8) aa_nil))) aa_nil))) (nomark _)))))))))))
abbrev s_law : Stmt := top 19
abbrev n_law : List Str := ["_law_script", "_law_town", "_law_k", "_law_plan_here", "_law_beats", "_law_before", "_law_slack", "_law_sizes", "_law_first", "_law_many", "_law_j", "_law_some", "_law_turn"]
abbrev p_law : List Str := ["_law_script"]
theorem sc_law : FnScope n_law p_law (defScope s_law) := ⟨rfl, rfl, rfl, by decide +kernel, rfl, by decide +kernel, by decide +kernel⟩
def l1_law : Sf := (sSeq (sIf (bNot (bTr (eCallP f__law_chain_holds (aCons (eVar 3) (aCons (eVar 8) (aCons (eVar 6) aNil)))))) (sRet (eC (.bool false))) sNext) (sExpr (eApp (eVar 7) (aCons (eDN (o1 oLen) (aCons (eCallP f_chain (aCons (eVar 3) (aCons (eVar 8) (aCons (eVar 6) aNil)))) aNil)) aNil))))
def e1_law : Ef := (eCallG g__law_draw (aCons (eVar 0) (aCons (eVar 1) (aCons (eVar 4) aNil))))
def l2_law : Sf := (sSeq (sAsg (.nm 11) (eDN (o1 oTuple) (aCons (eComp (iR1 (aCons (eD2 oSub (eVar 9) (eC (.int 1))) aNil)) (.nm 12) bYes e1_law [12]) aNil))) (sIf (bTr (eCallP f_is_near (aCons (eVar 3) (aCons (eVar 11) (aCons (eVar 6) aNil))))) (sRet (eC (.bool false))) sNext))
def r1_law : Sf := (sSeq (sIf (bOr (eT (eD2 oGt (eVar 9) (eDN (o1 oMin1) (aCons (eVar 7) aNil)))) (bOr (bAnd (eT (eNotN (eVar 5))) (eT (eD2 oGt (eVar 9) (eVar 5)))) (eT (eD2 oLt (eVar 9) (eC (.int 1)))))) (sRet (eC (.bool false))) sNext) (sSeq (sIf (bAnd (eT (eD2 oEq (eVar 6) (eC (.int 0)))) (eT (eD2 oNe (eVar 9) (eDN (o1 oLen) (aCons (eCallP f_wakes (aCons (eVar 3) aNil)) aNil))))) (sRet (eC (.bool false))) sNext) (sSeq (sAsg (.nm 5) (eVar 9)) (sFor (iR1 (aCons (eC (.int 6)) aNil)) (.nm 10) l2_law))))
def l3_law : Sf := (sSeq (sAsg (.nm 7) (eNewL aNil)) (sSeq (sFor (iR3 (aCons (eC (.int 0)) (aCons (eVar 4) (aCons (eD2 oAdd (eC (.int 1)) (eD2 oDiv (eVar 4) (eC (.int 12)))) aNil)))) (.nm 8) l1_law) (frz 7 (sSeq (sAsg (.nm 9) (eCallP f_least_many (aCons (eVar 3) (aCons (eVar 6) aNil)))) (sSeq (sIf (eT (eD2 oEq (eCallP f_wakes (aCons (eVar 3) aNil)) (eTup aNil))) (sSeq (sIf (bOr (eT (eD2 oNe (eVar 9) (eC (.int 0)))) (eT (eD2 oNe (eDN (o1 oMin1) (aCons (eVar 7) aNil)) (eC (.int 1))))) (sRet (eC (.bool false))) sNext) sCt) sNext) r1_law)))))
def l4_law : Sf := (sSeq (sAsg (.nm 3) (eCallG g__law_plan (aCons (eVar 0) (aCons (eVar 1) (aCons (eC (.int 30)) aNil))))) (sSeq (sAsg (.tp [(.nm 4), (.nm 5)]) (eTup (aCons (eIx (eVar 3) (eC (.int 0))) (aCons (eC .none) aNil)))) (sFor (iR1 (aCons (eC (.int 4)) aNil)) (.nm 6) l3_law)))
def b_law : Sf := (sSeq (sAsg (.nm 1) (eNewL aNil)) (sSeq (sFor (iR1 (aCons (eC (.int 4)) aNil)) (.nm 2) l4_law) (sRet (eC (.bool true)))))
def f_law : List PyData → PRes := runP 13 b_law
theorem w_law (B : Bt K mg) (G__law_chain_holds : Callee P w K mg base 5 "_law_chain_holds" p__law_chain_holds (spP K (ctOf mg) 3 f__law_chain_holds)) (G__law_draw : Callee P w K mg base 1 "_law_draw" p__law_draw (spG K (ctOf mg) 3 g__law_draw)) (G__law_plan : Callee P w K mg base 3 "_law_plan" p__law_plan (spG K (ctOf mg) 3 g__law_plan)) (G_chain : Callee P w K mg base 4 "chain" p_chain (spP K (ctOf mg) 3 f_chain)) (G_is_near : Callee P w K mg base 4 "is_near" p_is_near (spP K (ctOf mg) 3 f_is_near)) (G_least_many : Callee P w K mg base 5 "least_many" p_least_many (spP K (ctOf mg) 2 f_least_many)) (G_wakes : Callee P w K mg base 3 "wakes" p_wakes (spP K (ctOf mg) 1 f_wakes)) {f : Addr} {fd : FuncData} (F : Fun K "law" "law" s_law f fd) : FnOk P w K mg base (L2.CX P w) 6 f fd p_law (spP K (ctOf mg) 1 f_law) := defP F sc_law b_law fun cdv A outer s H E hr =>
  (ss_cons (ss_set (i := 1) sc_law.nd (ee_newL aa_nil)) (ss_cons (ss_for (passes_of rfl) rfl (ii_r1 B.n_range (aa_cons ee_int aa_nil)) (gg_nm sc_law.nd) (ss_cons (ss_set (i := 3) sc_law.nd (ee_cG G__law_plan (hr.mono (by decide)) tkD (by exact (aa_cons (ee_var 0) (aa_cons (ee_var 1) (aa_cons ee_int aa_nil)))) (lenL_cons (lenL_cons (lenL_cons lenL_nil))))) (ss_cons (ss_asg (ee_tup (aa_cons (ee_ix (ee_var 3) ee_int) (aa_cons ee_non aa_nil))) (gg_tup rfl (ggs_cons (gg_nm sc_law.nd) (ggs_cons (gg_nm sc_law.nd) ggs_nil)))) (ss_one (ss_for (passes_of rfl) rfl (ii_r1 B.n_range (aa_cons ee_int aa_nil)) (gg_nm sc_law.nd) (ss_cons (ss_set (i := 7) sc_law.nd (ee_newL aa_nil)) (ss_cons (ss_for (passes_of rfl) rfl (ii_r3 B.n_range (aa_cons ee_int (aa_cons (ee_var 4) (aa_cons (ee_bin op_addA ok_add ee_int (ee_bin op_fdiv ok_div (ee_var 4) ee_int)) aa_nil)))) (gg_nm sc_law.nd) (ss_cons (ss_if (tt_not (tt_tru (ee_cP G__law_chain_holds (hr.mono (by decide)) tkD (by exact (aa_cons (ee_var 3) (aa_cons (ee_var 8) (aa_cons (ee_var 6) aa_nil)))) (lenL_cons (lenL_cons (lenL_cons lenL_nil)))))) (ss_one (ss_ret ee_bl)) ss_nil) (ss_one (ss_expr (ee_app (ee_var 7) (aa_cons (ee_len B.n_len (by exact (aa_cons (ee_cP G_chain (hr.mono (by decide)) tkD (by exact (aa_cons (ee_var 3) (aa_cons (ee_var 8) (aa_cons (ee_var 6) aa_nil)))) (lenL_cons (lenL_cons (lenL_cons lenL_nil)))) aa_nil))) aa_nil)))))) (ss_frz 7 (ss_cons (ss_set (i := 9) sc_law.nd (ee_cP G_least_many (hr.mono (by decide)) tkD (by exact (aa_cons (ee_var 3) (aa_cons (ee_var 6) aa_nil))) (lenL_cons (lenL_cons lenL_nil)))) (ss_cons (ss_if (tt_cmp (op_eqA (huA hr)) ok_eq (ee_cP G_wakes (hr.mono (by decide)) tkD (by exact (aa_cons (ee_var 3) aa_nil)) (lenL_cons lenL_nil)) (ee_tup aa_nil) (nomark _)) (ss_cons (ss_if (tt_w (ww_or (tt_cmp (op_neA (huA hr)) ok_ne (ee_var 9) ee_int (nomark _)) (ww_or1 (tt_cmp (op_neA (huA hr)) ok_ne (ee_min1 B.n_min rfl (huB hr) (by exact (aa_cons (ee_var 7) aa_nil))) ee_int (nomark _))))) (ss_one (ss_ret ee_bl)) ss_nil) (ss_one ss_continue)) ss_nil) (ss_cons (ss_if (tt_w (ww_or (tt_cmp op_gt ok_gt (ee_var 9) (ee_min1 B.n_min rfl (huB hr) (by exact (aa_cons (ee_var 7) aa_nil))) (nomark _)) (ww_or (tt_w (ww_and (tt_notN (ee_var 5)) (ww_and1 (tt_cmp op_gt ok_gt (ee_var 9) (ee_var 5) (nomark _))))) (ww_or1 (tt_cmp op_ltA ok_lt (ee_var 9) ee_int (nomark _)))))) (ss_one (ss_ret ee_bl)) ss_nil) (ss_cons (ss_if (tt_w (ww_and (tt_cmp (op_eqA (huA hr)) ok_eq (ee_var 6) ee_int (nomark _)) (ww_and1 (tt_cmp (op_neA (huA hr)) ok_ne (ee_var 9) (ee_len B.n_len (by exact (aa_cons (ee_cP G_wakes (hr.mono (by decide)) tkD (by exact (aa_cons (ee_var 3) aa_nil)) (lenL_cons lenL_nil)) aa_nil))) (nomark _))))) (ss_one (ss_ret ee_bl)) ss_nil) (ss_cons (ss_set (i := 5) sc_law.nd (ee_var 9)) (ss_one (ss_for (passes_of rfl) rfl (ii_r1 B.n_range (aa_cons ee_int aa_nil)) (gg_nm sc_law.nd) (ss_cons (ss_set (i := 11) sc_law.nd (ee_tuple B.n_tuple (by exact (aa_cons (by exact (ee_lc (own := [("_law_turn", 12)]) rfl sc_law.nd (blkOk_by (own := [("_law_turn", 12)]) (N := n_law) (sc := (defScope s_law)) (by decide +kernel)) (ii_r1 B.n_range (aa_cons (ee_bin op_sub ok_sub (ee_var 9) ee_int) aa_nil)) (fun _ _ _ _ _ => (gw_nm sc_law.nd)) (fun _ _ _ _ _ => ts_nil) (fun _ _ _ _ _ => (ee_cG G__law_draw (hr.mono (by decide)) takes0 (by exact (aa_cons (ee_var 0) (aa_cons (ee_var 1) (aa_cons (ee_var 4) aa_nil)))) (lenL_cons (lenL_cons (lenL_cons lenL_nil))))))) aa_nil)))) (ss_one (ss_if (tt_tru (ee_cP G_is_near (hr.mono (by decide)) tkD (by exact (aa_cons (ee_var 3) (aa_cons (ee_var 11) (aa_cons (ee_var 6) aa_nil)))) (lenL_cons (lenL_cons (lenL_cons lenL_nil))))) (ss_one (ss_ret ee_bl)) ss_nil)))))))))))))))))) (ss_one (ss_ret ee_bl))))
end
end PL.K16

namespace PL.K16
open PySem PySem.Spec PyProof.Rows L2 PL PySem.SeqAt PySem.W
theorem near_mono {p : Pl} {xs ys : List Int} {k m : Int} (h : nearB p xs k = true) (hs : ∀ x ∈ xs, x ∈ ys) (hk : k ≤ m) : nearB p ys m = true := by
  rw [nearB_iff] at h ⊢
  intro e he
  obtain ⟨o, ho, q⟩ := h e he
  exact ⟨o, hs o ho, Int.le_trans q hk⟩
theorem si_up (xs : List Int) : (si xs).Pairwise (· ≤ ·) := by
  have h := List.pairwise_mergeSort (le := fun a b : Int => decide (a ≤ b)) (fun a b c h1 h2 => by simp at h1 h2 ⊢; omega) (fun a b => by simp; omega) xs
  exact h.imp fun h => by simpa using h
theorem si_lt {xs : List Int} (h : xs.Nodup) : (si xs).Pairwise (· < ·) := by
  have nd : (si xs).Nodup := (si_perm xs).symm.nodup h
  exact (List.Pairwise.and (si_up xs) nd).imp fun h => by omega
theorem gz_rng {p : Pl} {f s y : Int} (s0 : 0 ≤ s) (h : y ∈ gz s s (offs p f s)) : (s < y - s ∧ y - s < p.1 - s) ∧ (f + (y - s)) % p.1 ∈ wk p := mem_offs.mp (gz_from s s0 _ _ y h).1
theorem at_inj {n f a b : Int} (hn : 0 < n) (a0 : 0 ≤ a) (a1 : a < n) (b0 : 0 ≤ b) (b1 : b < n) (h : (f + a) % n = (f + b) % n) : a = b := by
  have e : ∀ x : Int, 0 ≤ x → x < n → ((f + x) % n - f) % n = x := fun x x0 x1 => by
    rw [Int.emod_sub_emod, show f + x - f = x by omega]; exact Int.emod_eq_of_lt x0 x1
  rw [← e a a0 a1, h, e b b0 b1]
theorem chL_nodup {p : Pl} (hb : 0 < p.1) {f s : Int} (f0 : 0 ≤ f) (f1 : f < p.1) (s0 : 0 ≤ s) : (chL p f s).Nodup := by
  unfold chL
  rw [List.nodup_cons]
  constructor
  · intro h
    obtain ⟨y, hy, e⟩ := List.mem_map.mp h
    have r := (gz_rng s0 hy).1
    have e0 : (f + 0) % p.1 = f := by rw [Int.add_zero]; exact Int.emod_eq_of_lt f0 f1
    have := at_inj hb (a := y) (b := 0) (by omega) (by omega) (by omega) (by omega) (e.trans e0.symm)
    omega
  · refine List.pairwise_map.mpr (List.Pairwise.imp_of_mem ?_ (gz_sep s s0 (offs p f s) s))
    intro a b hA hB hab e
    have ra := (gz_rng s0 hA).1
    have rb := (gz_rng s0 hB).1
    have := at_inj hb (a := a) (b := b) (by omega) (by omega) (by omega) (by omega) e
    omega
/-- but for the first none may be left out -/
theorem ch_need {p : Pl} (hb : 0 < p.1) {f s : Int} (f0 : 0 ≤ f) (f1 : f < p.1) (s0 : 0 ≤ s) {o : Int} (ho : o ∈ chP p f s) (hf : o ≠ f) : nearB p ((chP p f s).filter fun z => decide (z ≠ o)) s = false := by
  rcases tf (nearB p ((chP p f s).filter fun z => decide (z ≠ o)) s) with h | h
  · exfalso
    rw [nearB_iff] at h
    rcases List.mem_cons.mp (mem_si.mp ho) with e | e
    · exact hf e
    · obtain ⟨y, hy, rfl⟩ := List.mem_map.mp e
      have ry := gz_rng s0 hy
      obtain ⟨o, ho2, q⟩ := h _ ry.2
      obtain ⟨ho3, hne⟩ := List.mem_filter.mp ho2
      have hne := of_decide_eq_true hne
      rcases List.mem_cons.mp (mem_si.mp ho3) with e2 | e2
      · subst e2
        rw [ap_off f0 f1 (by omega) (by omega)] at q
        omega
      · obtain ⟨z, hz, rfl⟩ := List.mem_map.mp e2
        have rz := (gz_rng s0 hz).1
        have hyz : y ≠ z := fun e => hne (by rw [e])
        have sep : y + s + s < z ∨ z + s + s < y := by
          have := gz_sep s s0 (offs p f s) s
          obtain ⟨i, hi⟩ := List.getElem?_of_mem hy
          obtain ⟨j, hj⟩ := List.getElem?_of_mem hz
          obtain ⟨hi1, hi2⟩ := List.getElem?_eq_some_iff.mp hi
          obtain ⟨hj1, hj2⟩ := List.getElem?_eq_some_iff.mp hj
          rw [List.pairwise_iff_getElem] at this
          rcases Nat.lt_trichotomy i j with h | h | h
          · left; have := this i j hi1 hj1 h; rwa [hi2, hj2] at this
          · subst h; rw [hi2] at hj2; exact absurd hj2 hyz
          · right; have := this j i hj1 hi1 h; rwa [hi2, hj2] at this
        rcases sep with k | k
        · rw [ap_two hb (by omega) (by omega) (by omega) (by omega) (by omega)] at q; omega
        · rw [ap_comm, ap_two hb (by omega) (by omega) (by omega) (by omega) (by omega)] at q; omega
  · exact h
/-! ### turned -/
theorem wk_turned {p : Pl} (hb : 0 < p.1) (k e : Int) : (e + k) % p.1 ∈ wk (turnedP p k) ↔ e % p.1 ∈ wk p := by
  have m : ∀ (q : Pl) (l : Ln) (z : Int), chg q l (z % q.1) = chg q l z := fun q l z => by
    have a := Int.emod_add_mul_ediv z q.1
    have h := isOn_round (p := q) (l := l) (z % q.1) (z / q.1)
    have h2 := isOn_round (p := q) (l := l) (z % q.1 - 1) (z / q.1)
    rw [show z % q.1 + z / q.1 * q.1 = z by rw [Int.mul_comm]; exact a] at h
    rw [show z % q.1 - 1 + z / q.1 * q.1 = z - 1 by rw [Int.mul_comm]; omega] at h2
    unfold chg
    rw [h, h2]
  have r : ∀ z : Int, 0 ≤ z % p.1 ∧ z % p.1 < p.1 := fun z => ⟨Int.emod_nonneg _ (by omega), Int.emod_lt_of_pos _ hb⟩
  rw [mem_wk, mem_wk]
  have m1 := m (turnedP p k)
  have t1 : (turnedP p k).1 = p.1 := rfl
  rw [t1] at m1 ⊢
  constructor
  · rintro ⟨_, l, hl, hc⟩
    rw [turnedP_eq] at hl
    obtain ⟨l0, hl0, rfl⟩ := List.mem_map.mp hl
    rw [m1, chg_turned hb] at hc
    exact ⟨r e, l0, hl0, by rw [m]; exact hc⟩
  · rintro ⟨_, l, hl, hc⟩
    rw [m] at hc
    exact ⟨r (e + k), turnedL p k l, by rw [turnedP_eq]; exact List.mem_map.mpr ⟨l, hl, rfl⟩, by rw [m1, chg_turned hb]; exact hc⟩
theorem offs_turned {p : Pl} (hb : 0 < p.1) (f k s : Int) : offs (turnedP p k) ((f + k) % p.1) s = offs p f s := by
  unfold offs
  have t1 : (turnedP p k).1 = p.1 := rfl
  rw [t1]
  congr 1
  funext d
  have := wk_turned hb k (f + d)
  rw [show f + d + k = f + k + d by omega] at this
  rw [Int.emod_add_emod]
  exact decide_eq_decide.mpr this
theorem chP_turned {p : Pl} (hb : 0 < p.1) {f : Int} (k s : Int) : chP (turnedP p k) ((f + k) % p.1) s = si ((chP p f s).map fun z => (z + k) % p.1) := by
  have q : ∀ {xs ys : List Int}, xs.Perm ys → si xs = si ys := fun {xs ys} h => by
    apply map_int_inj
    rw [← srt_si, ← srt_si]
    have a := srt_sorted (xs.map .int)
    have b := (si_up ys)
    rw [srt_si ys]
    have h1 : (srt (xs.map .int)).Perm ((si ys).map .int) := ((List.mergeSort_perm _ _).trans (h.map _)).trans ((si_perm ys).symm.map _)
    rw [srt_si] at h1 ⊢
    have h2 : (si xs).Perm (si ys) := (si_perm xs).trans (h.trans (si_perm ys).symm)
    rw [h2.eq_of_pairwise (le := fun a b : Int => a ≤ b) (fun a b _ _ h1 h2 => by omega) (si_up xs) b]
  unfold chP
  rw [show si ((si (chL p f s)).map fun z => (z + k) % p.1) = si ((chL p f s).map fun z => (z + k) % p.1) from q ((si_perm _).map _)]
  congr 1
  unfold chL
  rw [offs_turned hb, List.map_cons, List.map_map]
  congr 1
  apply List.map_congr_left
  intro y _
  show ((f + k) % p.1 + y) % p.1 = ((f + y) % p.1 + k) % p.1
  rw [Int.emod_add_emod, Int.emod_add_emod, show f + k + y = f + y + k by omega]
/-! ### the chain -/
theorem holds_eq {p : Pl} (g : Good p) (h31 : p.2.length ≤ 31) (n60 : p.1 ≤ 60) {f s : Int} (f0 : 0 ≤ f) (f1 : f < p.1) (s0 : 0 ≤ s) : f__law_chain_holds [dP p, .int f, .int s] = .ok (.bool true) := by
  have hb := g.b
  have fn : Fac p.1 := ⟨by omega, by omega⟩
  have em : ∀ z : Int, z - z / p.1 * p.1 = z % p.1 := fun z => by rw [Int.emod_def, Int.mul_comm]
  have ce := chain_eq g h31 f0 f1 s0
  obtain ⟨C, hC⟩ : ∃ C, C = chP p f s := ⟨_, rfl⟩
  have cr : ∀ x ∈ C, 0 ≤ x ∧ x < p.1 := by rw [hC]; exact ch_rng hb.1 f0 f1
  have cu : C.Pairwise (· < ·) := by rw [hC]; exact si_lt (chL_nodup hb.1 f0 f1 s0)
  have cl : C.length < 64 := by
    have := sub_len (up_nodup cu) (ys := rng 0 p.1) fun x hx => mem_rng (cr x hx).1 (cr x hx).2
    rw [rng_len] at this
    omega
  have cf : f ∈ C := by rw [hC]; exact mem_si.mpr List.mem_cons_self
  have cs : sset C = C := up_ext (sset_up _) cu fun k => mem_sset
  have ss := sset_t (ns := C) cl
  rw [cs] at ss
  have ni : oNotIn (.int f) (.tuple (C.map .int)) = some (.bool false) := by
    have : oNotIn (.int f) (.tuple (C.map .int)) = some (.bool (!decide (f ∈ C))) := by
      show ((if shaped (.int f) = true ∧ shaped (.tuple (C.map .int)) = true then some ((C.map PyData.int).any fun z => PyData.eqv z (.int f)) else none).map fun b => PyData.bool (!b)) = _
      rw [if_pos ⟨rfl, sh_ints C⟩, any_eqvI]; rfl
    rw [this, decide_eq_true cf]; rfl
  have nl : oNe (.list (C.map .int)) (.list (C.map .int)) = some (.bool false) := ne_sameL (sh_intsL C)
  have al : oAll (.list (C.map fun _ => PyData.bool true)) = some (.bool true) := by
    have := all_bls (bs := C.map fun _ => true)
    rw [List.map_map, all_true] at this
    exact this
  have nr : f_is_near [dP p, .tuple (C.map .int), .int s] = .ok (.bool true) := by
    rw [is_near_eq g h31 (by omega) s, hC, ch_near hb.1 f0 f1 s0]
  rw [← hC] at ce
  have h1 := fun (x0 x1 x2 x6 x7 x8 x9 x10 y5 : Option Wv) (S : Store) => eComp_all (it := (iAny (eVar 3))) (tg := (.nm 5)) (f := e1__law_chain_holds) (vs := [5]) (ρ := [x0, x1, x2, some (.d (.tuple (C.map .int))), some (.d (.int (p.1))), y5, x6, x7, x8, x9, x10]) (S := S) (xs := C) (fun o => .d (.int o)) (fun o => .bool true) (fun o => [x0, x1, x2, some (.d (.tuple (C.map .int))), some (.d (.int (p.1))), some (.d (.int o)), x6, x7, x8, x9, x10]) (by simp only [mapd, startE, rb_ok, rb_exc, rs_ok, rs_exc, s_seq, seq_nx, seq_rt, seq_bk, seq_ct, seq_exc, nxO_s, s_asg, s_par, s_par3, s_ret, s_expr, s_next, s_bk, s_ct, s_raise, s_if, ifS_t, ifS_f, ifS_exc, s_for, eVar, e_c, wOf_s, rOf_s, bOf_s, e_ix, asD_d, ob_s, om_s, e_d1, e_d2, e_dN, asDs_1, asDs_2, bvO_s, e_t, o1_s, o2_s, a_nil, a_cons, prO_ok, prO_exc, e_cp, e_cg, call_1, call_2, call_3, call_4, call_5, call_6, b_not, b_and, b_or, andB_t, andB_f, orB_t, orB_f, b_tr, truW_b, e_if, ifE_t, ifE_f, e_isN, e_notN, e_notV, notV_s, e_andV, andV_t, andV_f, e_ch, chO_t, chO_f, e_sl, o_no, o_yes, oiO_s, sl_t, sl_l, i_zip, zipI_t, zipI_l, add_ii, sub_ii, neg_i, lt_ii, le_ii, gt_ii, ge_ii, eq_ii, ne_ii, eq_ss, ne_ss, eq_bb, ne_bb, len_t, len_l, min_ii, max_ii, int_i, int_b, tup_l, tup_t, lst_l, lst_t, sum_ints, e_tup, e_lst, itO_s, i_any, itA_t, itA_l, i_r1, i_r2, bindT, bindTs, unpk_t, un_L, un_P, mkSq, allD, wipeE, LINE, List.map_cons, List.map_nil, List.length_cons, List.length_nil, List.replicate, List.cons_append, List.nil_append, Nat.sub_self, Nat.reduceSub, Nat.reduceAdd, List.getElem?_cons_zero, List.getElem?_cons_succ, List.set_cons_zero, List.set_cons_succ, reduceIte, Bool.false_eq_true, Bool.not_true, Bool.not_false, Nat.reduceLeDiff, if_true, if_false, decide_true, decide_false, e_slS, s_asgL, nxL_s, itL_l]) (by unfold LINE; omega) (fun o _ => rfl) (fun o ho => by
    have ro := cr o ho
    simp only [e1__law_chain_holds, decide_eq_true ro.1, decide_eq_true ro.2, startE, rb_ok, rb_exc, rs_ok, rs_exc, s_seq, seq_nx, seq_rt, seq_bk, seq_ct, seq_exc, nxO_s, s_asg, s_par, s_par3, s_ret, s_expr, s_next, s_bk, s_ct, s_raise, s_if, ifS_t, ifS_f, ifS_exc, s_for, eVar, e_c, wOf_s, rOf_s, bOf_s, e_ix, asD_d, ob_s, om_s, e_d1, e_d2, e_dN, asDs_1, asDs_2, bvO_s, e_t, o1_s, o2_s, a_nil, a_cons, prO_ok, prO_exc, e_cp, e_cg, call_1, call_2, call_3, call_4, call_5, call_6, b_not, b_and, b_or, andB_t, andB_f, orB_t, orB_f, b_tr, truW_b, e_if, ifE_t, ifE_f, e_isN, e_notN, e_notV, notV_s, e_andV, andV_t, andV_f, e_ch, chO_t, chO_f, e_sl, o_no, o_yes, oiO_s, sl_t, sl_l, i_zip, zipI_t, zipI_l, add_ii, sub_ii, neg_i, lt_ii, le_ii, gt_ii, ge_ii, eq_ii, ne_ii, eq_ss, ne_ss, eq_bb, ne_bb, len_t, len_l, min_ii, max_ii, int_i, int_b, tup_l, tup_t, lst_l, lst_t, sum_ints, e_tup, e_lst, itO_s, i_any, itA_t, itA_l, i_r1, i_r2, bindT, bindTs, unpk_t, un_L, un_P, mkSq, allD, wipeE, LINE, List.map_cons, List.map_nil, List.length_cons, List.length_nil, List.replicate, List.cons_append, List.nil_append, Nat.sub_self, Nat.reduceSub, Nat.reduceAdd, List.getElem?_cons_zero, List.getElem?_cons_succ, List.set_cons_zero, List.set_cons_succ, reduceIte, Bool.false_eq_true, Bool.not_true, Bool.not_false, Nat.reduceLeDiff, if_true, if_false, decide_true, decide_false, e_slS, s_asgL, nxL_s, itL_l])
  refine runP_gs ?_
  simp only [startE, startE, rb_ok, rb_exc, rs_ok, rs_exc, s_seq, seq_nx, seq_rt, seq_bk, seq_ct, seq_exc, nxO_s, s_asg, s_par, s_par3, s_ret, s_expr, s_next, s_bk, s_ct, s_raise, s_if, ifS_t, ifS_f, ifS_exc, s_for, eVar, e_c, wOf_s, rOf_s, bOf_s, e_ix, asD_d, ob_s, om_s, e_d1, e_d2, e_dN, asDs_1, asDs_2, bvO_s, e_t, o1_s, o2_s, a_nil, a_cons, prO_ok, prO_exc, e_cp, e_cg, call_1, call_2, call_3, call_4, call_5, call_6, b_not, b_and, b_or, andB_t, andB_f, orB_t, orB_f, b_tr, truW_b, e_if, ifE_t, ifE_f, e_isN, e_notN, e_notV, notV_s, e_andV, andV_t, andV_f, e_ch, chO_t, chO_f, e_sl, o_no, o_yes, oiO_s, sl_t, sl_l, i_zip, zipI_t, zipI_l, add_ii, sub_ii, neg_i, lt_ii, le_ii, gt_ii, ge_ii, eq_ii, ne_ii, eq_ss, ne_ss, eq_bb, ne_bb, len_t, len_l, min_ii, max_ii, int_i, int_b, tup_l, tup_t, lst_l, lst_t, sum_ints, e_tup, e_lst, itO_s, i_any, itA_t, itA_l, i_r1, i_r2, bindT, bindTs, unpk_t, un_L, un_P, mkSq, allD, wipeE, LINE, List.map_cons, List.map_nil, List.length_cons, List.length_nil, List.replicate, List.cons_append, List.nil_append, Nat.sub_self, Nat.reduceSub, Nat.reduceAdd, List.getElem?_cons_zero, List.getElem?_cons_succ, List.set_cons_zero, List.set_cons_succ, reduceIte, Bool.false_eq_true, Bool.not_true, Bool.not_false, Nat.reduceLeDiff, if_true, if_false, decide_true, decide_false, e_slS, s_asgL, nxL_s, itL_l]
  apply step
  · simp only [ce, ix_P0, startE, rb_ok, rb_exc, rs_ok, rs_exc, s_seq, seq_nx, seq_rt, seq_bk, seq_ct, seq_exc, nxO_s, s_asg, s_par, s_par3, s_ret, s_expr, s_next, s_bk, s_ct, s_raise, s_if, ifS_t, ifS_f, ifS_exc, s_for, eVar, e_c, wOf_s, rOf_s, bOf_s, e_ix, asD_d, ob_s, om_s, e_d1, e_d2, e_dN, asDs_1, asDs_2, bvO_s, e_t, o1_s, o2_s, a_nil, a_cons, prO_ok, prO_exc, e_cp, e_cg, call_1, call_2, call_3, call_4, call_5, call_6, b_not, b_and, b_or, andB_t, andB_f, orB_t, orB_f, b_tr, truW_b, e_if, ifE_t, ifE_f, e_isN, e_notN, e_notV, notV_s, e_andV, andV_t, andV_f, e_ch, chO_t, chO_f, e_sl, o_no, o_yes, oiO_s, sl_t, sl_l, i_zip, zipI_t, zipI_l, add_ii, sub_ii, neg_i, lt_ii, le_ii, gt_ii, ge_ii, eq_ii, ne_ii, eq_ss, ne_ss, eq_bb, ne_bb, len_t, len_l, min_ii, max_ii, int_i, int_b, tup_l, tup_t, lst_l, lst_t, sum_ints, e_tup, e_lst, itO_s, i_any, itA_t, itA_l, i_r1, i_r2, bindT, bindTs, unpk_t, un_L, un_P, mkSq, allD, wipeE, LINE, List.map_cons, List.map_nil, List.length_cons, List.length_nil, List.replicate, List.cons_append, List.nil_append, Nat.sub_self, Nat.reduceSub, Nat.reduceAdd, List.getElem?_cons_zero, List.getElem?_cons_succ, List.set_cons_zero, List.set_cons_succ, reduceIte, Bool.false_eq_true, Bool.not_true, Bool.not_false, Nat.reduceLeDiff, if_true, if_false, decide_true, decide_false, e_slS, s_asgL, nxL_s, itL_l]
    try rfl
  apply step
  · simp only [ni, ss, nl, h1, al, startE, rb_ok, rb_exc, rs_ok, rs_exc, s_seq, seq_nx, seq_rt, seq_bk, seq_ct, seq_exc, nxO_s, s_asg, s_par, s_par3, s_ret, s_expr, s_next, s_bk, s_ct, s_raise, s_if, ifS_t, ifS_f, ifS_exc, s_for, eVar, e_c, wOf_s, rOf_s, bOf_s, e_ix, asD_d, ob_s, om_s, e_d1, e_d2, e_dN, asDs_1, asDs_2, bvO_s, e_t, o1_s, o2_s, a_nil, a_cons, prO_ok, prO_exc, e_cp, e_cg, call_1, call_2, call_3, call_4, call_5, call_6, b_not, b_and, b_or, andB_t, andB_f, orB_t, orB_f, b_tr, truW_b, e_if, ifE_t, ifE_f, e_isN, e_notN, e_notV, notV_s, e_andV, andV_t, andV_f, e_ch, chO_t, chO_f, e_sl, o_no, o_yes, oiO_s, sl_t, sl_l, i_zip, zipI_t, zipI_l, add_ii, sub_ii, neg_i, lt_ii, le_ii, gt_ii, ge_ii, eq_ii, ne_ii, eq_ss, ne_ss, eq_bb, ne_bb, len_t, len_l, min_ii, max_ii, int_i, int_b, tup_l, tup_t, lst_l, lst_t, sum_ints, e_tup, e_lst, itO_s, i_any, itA_t, itA_l, i_r1, i_r2, bindT, bindTs, unpk_t, un_L, un_P, mkSq, allD, wipeE, LINE, List.map_cons, List.map_nil, List.length_cons, List.length_nil, List.replicate, List.cons_append, List.nil_append, Nat.sub_self, Nat.reduceSub, Nat.reduceAdd, List.getElem?_cons_zero, List.getElem?_cons_succ, List.set_cons_zero, List.set_cons_succ, reduceIte, Bool.false_eq_true, Bool.not_true, Bool.not_false, Nat.reduceLeDiff, if_true, if_false, decide_true, decide_false, e_slS, s_asgL, nxL_s, itL_l]
    try rfl
  apply step
  · simp only [nr, startE, rb_ok, rb_exc, rs_ok, rs_exc, s_seq, seq_nx, seq_rt, seq_bk, seq_ct, seq_exc, nxO_s, s_asg, s_par, s_par3, s_ret, s_expr, s_next, s_bk, s_ct, s_raise, s_if, ifS_t, ifS_f, ifS_exc, s_for, eVar, e_c, wOf_s, rOf_s, bOf_s, e_ix, asD_d, ob_s, om_s, e_d1, e_d2, e_dN, asDs_1, asDs_2, bvO_s, e_t, o1_s, o2_s, a_nil, a_cons, prO_ok, prO_exc, e_cp, e_cg, call_1, call_2, call_3, call_4, call_5, call_6, b_not, b_and, b_or, andB_t, andB_f, orB_t, orB_f, b_tr, truW_b, e_if, ifE_t, ifE_f, e_isN, e_notN, e_notV, notV_s, e_andV, andV_t, andV_f, e_ch, chO_t, chO_f, e_sl, o_no, o_yes, oiO_s, sl_t, sl_l, i_zip, zipI_t, zipI_l, add_ii, sub_ii, neg_i, lt_ii, le_ii, gt_ii, ge_ii, eq_ii, ne_ii, eq_ss, ne_ss, eq_bb, ne_bb, len_t, len_l, min_ii, max_ii, int_i, int_b, tup_l, tup_t, lst_l, lst_t, sum_ints, e_tup, e_lst, itO_s, i_any, itA_t, itA_l, i_r1, i_r2, bindT, bindTs, unpk_t, un_L, un_P, mkSq, allD, wipeE, LINE, List.map_cons, List.map_nil, List.length_cons, List.length_nil, List.replicate, List.cons_append, List.nil_append, Nat.sub_self, Nat.reduceSub, Nat.reduceAdd, List.getElem?_cons_zero, List.getElem?_cons_succ, List.set_cons_zero, List.set_cons_succ, reduceIte, Bool.false_eq_true, Bool.not_true, Bool.not_false, Nat.reduceLeDiff, if_true, if_false, decide_true, decide_false, e_slS, s_asgL, nxL_s, itL_l]
    try rfl
  refine for_step C (fun z => .d (.int z)) (fun i ρ S => (∃ F : Nat → Option Wv, ρ = [some (.d (dP p)), some (.d (.int f)), some (.d (.int s)), some (.d (.tuple (C.map .int))), some (.d (.int p.1)), F 5, F 6, F 7, F 8, F 9, F 10]) ∧ S = []) (S' := []) ?_ ⟨slots rfl, rfl⟩ ?_ ?_
  · simp only [mapd, startE, rb_ok, rb_exc, rs_ok, rs_exc, s_seq, seq_nx, seq_rt, seq_bk, seq_ct, seq_exc, nxO_s, s_asg, s_par, s_par3, s_ret, s_expr, s_next, s_bk, s_ct, s_raise, s_if, ifS_t, ifS_f, ifS_exc, s_for, eVar, e_c, wOf_s, rOf_s, bOf_s, e_ix, asD_d, ob_s, om_s, e_d1, e_d2, e_dN, asDs_1, asDs_2, bvO_s, e_t, o1_s, o2_s, a_nil, a_cons, prO_ok, prO_exc, e_cp, e_cg, call_1, call_2, call_3, call_4, call_5, call_6, b_not, b_and, b_or, andB_t, andB_f, orB_t, orB_f, b_tr, truW_b, e_if, ifE_t, ifE_f, e_isN, e_notN, e_notV, notV_s, e_andV, andV_t, andV_f, e_ch, chO_t, chO_f, e_sl, o_no, o_yes, oiO_s, sl_t, sl_l, i_zip, zipI_t, zipI_l, add_ii, sub_ii, neg_i, lt_ii, le_ii, gt_ii, ge_ii, eq_ii, ne_ii, eq_ss, ne_ss, eq_bb, ne_bb, len_t, len_l, min_ii, max_ii, int_i, int_b, tup_l, tup_t, lst_l, lst_t, sum_ints, e_tup, e_lst, itO_s, i_any, itA_t, itA_l, i_r1, i_r2, bindT, bindTs, unpk_t, un_L, un_P, mkSq, allD, wipeE, LINE, List.map_cons, List.map_nil, List.length_cons, List.length_nil, List.replicate, List.cons_append, List.nil_append, Nat.sub_self, Nat.reduceSub, Nat.reduceAdd, List.getElem?_cons_zero, List.getElem?_cons_succ, List.set_cons_zero, List.set_cons_succ, reduceIte, Bool.false_eq_true, Bool.not_true, Bool.not_false, Nat.reduceLeDiff, if_true, if_false, decide_true, decide_false, e_slS, s_asgL, nxL_s, itL_l]
  · rintro i o hi ρ S ⟨⟨F, rfl⟩, rfl⟩
    have ho := List.mem_of_getElem? hi
    refine ⟨_, rfl, ?_⟩
    have h2 := fun (x0 x1 x2 x4 x6 x7 x8 x9 y10 : Option Wv) (S : Store) => eComp_eq (it := (iAny (eVar 3))) (tg := (.nm 10)) (t := t1__law_chain_holds) (f := e2__law_chain_holds) (vs := [10]) (ρ := [x0, x1, x2, some (.d (.tuple (C.map .int))), x4, some (.d (.int (o))), x6, x7, x8, x9, y10]) (S := S) (xs := C) (fun z => .d (.int z)) (fun z => decide (z ≠ o)) (fun z => .int z) (fun z => [x0, x1, x2, some (.d (.tuple (C.map .int))), x4, some (.d (.int (o))), x6, x7, x8, x9, some (.d (.int z))]) (by simp only [mapd, startE, rb_ok, rb_exc, rs_ok, rs_exc, s_seq, seq_nx, seq_rt, seq_bk, seq_ct, seq_exc, nxO_s, s_asg, s_par, s_par3, s_ret, s_expr, s_next, s_bk, s_ct, s_raise, s_if, ifS_t, ifS_f, ifS_exc, s_for, eVar, e_c, wOf_s, rOf_s, bOf_s, e_ix, asD_d, ob_s, om_s, e_d1, e_d2, e_dN, asDs_1, asDs_2, bvO_s, e_t, o1_s, o2_s, a_nil, a_cons, prO_ok, prO_exc, e_cp, e_cg, call_1, call_2, call_3, call_4, call_5, call_6, b_not, b_and, b_or, andB_t, andB_f, orB_t, orB_f, b_tr, truW_b, e_if, ifE_t, ifE_f, e_isN, e_notN, e_notV, notV_s, e_andV, andV_t, andV_f, e_ch, chO_t, chO_f, e_sl, o_no, o_yes, oiO_s, sl_t, sl_l, i_zip, zipI_t, zipI_l, add_ii, sub_ii, neg_i, lt_ii, le_ii, gt_ii, ge_ii, eq_ii, ne_ii, eq_ss, ne_ss, eq_bb, ne_bb, len_t, len_l, min_ii, max_ii, int_i, int_b, tup_l, tup_t, lst_l, lst_t, sum_ints, e_tup, e_lst, itO_s, i_any, itA_t, itA_l, i_r1, i_r2, bindT, bindTs, unpk_t, un_L, un_P, mkSq, allD, wipeE, LINE, List.map_cons, List.map_nil, List.length_cons, List.length_nil, List.replicate, List.cons_append, List.nil_append, Nat.sub_self, Nat.reduceSub, Nat.reduceAdd, List.getElem?_cons_zero, List.getElem?_cons_succ, List.set_cons_zero, List.set_cons_succ, reduceIte, Bool.false_eq_true, Bool.not_true, Bool.not_false, Nat.reduceLeDiff, if_true, if_false, decide_true, decide_false, e_slS, s_asgL, nxL_s, itL_l]) (by unfold LINE; omega) (fun z _ => rfl) (fun z hz => by
      simp only [t1__law_chain_holds, startE, rb_ok, rb_exc, rs_ok, rs_exc, s_seq, seq_nx, seq_rt, seq_bk, seq_ct, seq_exc, nxO_s, s_asg, s_par, s_par3, s_ret, s_expr, s_next, s_bk, s_ct, s_raise, s_if, ifS_t, ifS_f, ifS_exc, s_for, eVar, e_c, wOf_s, rOf_s, bOf_s, e_ix, asD_d, ob_s, om_s, e_d1, e_d2, e_dN, asDs_1, asDs_2, bvO_s, e_t, o1_s, o2_s, a_nil, a_cons, prO_ok, prO_exc, e_cp, e_cg, call_1, call_2, call_3, call_4, call_5, call_6, b_not, b_and, b_or, andB_t, andB_f, orB_t, orB_f, b_tr, truW_b, e_if, ifE_t, ifE_f, e_isN, e_notN, e_notV, notV_s, e_andV, andV_t, andV_f, e_ch, chO_t, chO_f, e_sl, o_no, o_yes, oiO_s, sl_t, sl_l, i_zip, zipI_t, zipI_l, add_ii, sub_ii, neg_i, lt_ii, le_ii, gt_ii, ge_ii, eq_ii, ne_ii, eq_ss, ne_ss, eq_bb, ne_bb, len_t, len_l, min_ii, max_ii, int_i, int_b, tup_l, tup_t, lst_l, lst_t, sum_ints, e_tup, e_lst, itO_s, i_any, itA_t, itA_l, i_r1, i_r2, bindT, bindTs, unpk_t, un_L, un_P, mkSq, allD, wipeE, LINE, List.map_cons, List.map_nil, List.length_cons, List.length_nil, List.replicate, List.cons_append, List.nil_append, Nat.sub_self, Nat.reduceSub, Nat.reduceAdd, List.getElem?_cons_zero, List.getElem?_cons_succ, List.set_cons_zero, List.set_cons_succ, reduceIte, Bool.false_eq_true, Bool.not_true, Bool.not_false, Nat.reduceLeDiff, if_true, if_false, decide_true, decide_false, e_slS, s_asgL, nxL_s, itL_l]
      by_cases q : z = o
      · rw [decide_eq_true q, decide_eq_false (show ¬ z ≠ o from fun h => h q)]; rfl
      · rw [decide_eq_false q, decide_eq_true (show z ≠ o from q)]; rfl) (fun z hz _ => by simp only [e2__law_chain_holds, startE, rb_ok, rb_exc, rs_ok, rs_exc, s_seq, seq_nx, seq_rt, seq_bk, seq_ct, seq_exc, nxO_s, s_asg, s_par, s_par3, s_ret, s_expr, s_next, s_bk, s_ct, s_raise, s_if, ifS_t, ifS_f, ifS_exc, s_for, eVar, e_c, wOf_s, rOf_s, bOf_s, e_ix, asD_d, ob_s, om_s, e_d1, e_d2, e_dN, asDs_1, asDs_2, bvO_s, e_t, o1_s, o2_s, a_nil, a_cons, prO_ok, prO_exc, e_cp, e_cg, call_1, call_2, call_3, call_4, call_5, call_6, b_not, b_and, b_or, andB_t, andB_f, orB_t, orB_f, b_tr, truW_b, e_if, ifE_t, ifE_f, e_isN, e_notN, e_notV, notV_s, e_andV, andV_t, andV_f, e_ch, chO_t, chO_f, e_sl, o_no, o_yes, oiO_s, sl_t, sl_l, i_zip, zipI_t, zipI_l, add_ii, sub_ii, neg_i, lt_ii, le_ii, gt_ii, ge_ii, eq_ii, ne_ii, eq_ss, ne_ss, eq_bb, ne_bb, len_t, len_l, min_ii, max_ii, int_i, int_b, tup_l, tup_t, lst_l, lst_t, sum_ints, e_tup, e_lst, itO_s, i_any, itA_t, itA_l, i_r1, i_r2, bindT, bindTs, unpk_t, un_L, un_P, mkSq, allD, wipeE, LINE, List.map_cons, List.map_nil, List.length_cons, List.length_nil, List.replicate, List.cons_append, List.nil_append, Nat.sub_self, Nat.reduceSub, Nat.reduceAdd, List.getElem?_cons_zero, List.getElem?_cons_succ, List.set_cons_zero, List.set_cons_succ, reduceIte, Bool.false_eq_true, Bool.not_true, Bool.not_false, Nat.reduceLeDiff, if_true, if_false, decide_true, decide_false, e_slS, s_asgL, nxL_s, itL_l])
    have fl := List.length_filter_le (fun z : Int => decide (z ≠ o)) C
    apply step
    · simp only [h2, startE, rb_ok, rb_exc, rs_ok, rs_exc, s_seq, seq_nx, seq_rt, seq_bk, seq_ct, seq_exc, nxO_s, s_asg, s_par, s_par3, s_ret, s_expr, s_next, s_bk, s_ct, s_raise, s_if, ifS_t, ifS_f, ifS_exc, s_for, eVar, e_c, wOf_s, rOf_s, bOf_s, e_ix, asD_d, ob_s, om_s, e_d1, e_d2, e_dN, asDs_1, asDs_2, bvO_s, e_t, o1_s, o2_s, a_nil, a_cons, prO_ok, prO_exc, e_cp, e_cg, call_1, call_2, call_3, call_4, call_5, call_6, b_not, b_and, b_or, andB_t, andB_f, orB_t, orB_f, b_tr, truW_b, e_if, ifE_t, ifE_f, e_isN, e_notN, e_notV, notV_s, e_andV, andV_t, andV_f, e_ch, chO_t, chO_f, e_sl, o_no, o_yes, oiO_s, sl_t, sl_l, i_zip, zipI_t, zipI_l, add_ii, sub_ii, neg_i, lt_ii, le_ii, gt_ii, ge_ii, eq_ii, ne_ii, eq_ss, ne_ss, eq_bb, ne_bb, len_t, len_l, min_ii, max_ii, int_i, int_b, tup_l, tup_t, lst_l, lst_t, sum_ints, e_tup, e_lst, itO_s, i_any, itA_t, itA_l, i_r1, i_r2, bindT, bindTs, unpk_t, un_L, un_P, mkSq, allD, wipeE, LINE, List.map_cons, List.map_nil, List.length_cons, List.length_nil, List.replicate, List.cons_append, List.nil_append, Nat.sub_self, Nat.reduceSub, Nat.reduceAdd, List.getElem?_cons_zero, List.getElem?_cons_succ, List.set_cons_zero, List.set_cons_succ, reduceIte, Bool.false_eq_true, Bool.not_true, Bool.not_false, Nat.reduceLeDiff, if_true, if_false, decide_true, decide_false, e_slS, s_asgL, nxL_s, itL_l]
      try rfl
    by_cases q : o = f
    · have q1 : (!decide (o = f)) = false := by rw [decide_eq_true q]; rfl
      apply fin
      · simp only [q1, startE, rb_ok, rb_exc, rs_ok, rs_exc, s_seq, seq_nx, seq_rt, seq_bk, seq_ct, seq_exc, nxO_s, s_asg, s_par, s_par3, s_ret, s_expr, s_next, s_bk, s_ct, s_raise, s_if, ifS_t, ifS_f, ifS_exc, s_for, eVar, e_c, wOf_s, rOf_s, bOf_s, e_ix, asD_d, ob_s, om_s, e_d1, e_d2, e_dN, asDs_1, asDs_2, bvO_s, e_t, o1_s, o2_s, a_nil, a_cons, prO_ok, prO_exc, e_cp, e_cg, call_1, call_2, call_3, call_4, call_5, call_6, b_not, b_and, b_or, andB_t, andB_f, orB_t, orB_f, b_tr, truW_b, e_if, ifE_t, ifE_f, e_isN, e_notN, e_notV, notV_s, e_andV, andV_t, andV_f, e_ch, chO_t, chO_f, e_sl, o_no, o_yes, oiO_s, sl_t, sl_l, i_zip, zipI_t, zipI_l, add_ii, sub_ii, neg_i, lt_ii, le_ii, gt_ii, ge_ii, eq_ii, ne_ii, eq_ss, ne_ss, eq_bb, ne_bb, len_t, len_l, min_ii, max_ii, int_i, int_b, tup_l, tup_t, lst_l, lst_t, sum_ints, e_tup, e_lst, itO_s, i_any, itA_t, itA_l, i_r1, i_r2, bindT, bindTs, unpk_t, un_L, un_P, mkSq, allD, wipeE, LINE, List.map_cons, List.map_nil, List.length_cons, List.length_nil, List.replicate, List.cons_append, List.nil_append, Nat.sub_self, Nat.reduceSub, Nat.reduceAdd, List.getElem?_cons_zero, List.getElem?_cons_succ, List.set_cons_zero, List.set_cons_succ, reduceIte, Bool.false_eq_true, Bool.not_true, Bool.not_false, Nat.reduceLeDiff, if_true, if_false, decide_true, decide_false, e_slS, s_asgL, nxL_s, itL_l]
        try rfl
      exact ⟨_, _, rfl, slots rfl, rfl⟩
    · have q1 : (!decide (o = f)) = true := by rw [decide_eq_false q]; rfl
      have nd := is_near_eq g h31 (xs := C.filter fun z => decide (z ≠ o)) (by omega) s
      have nf : nearB p (C.filter fun z => decide (z ≠ o)) s = false := by
        rw [hC] at ho ⊢
        exact ch_need hb.1 f0 f1 s0 ho q
      rw [nf] at nd
      apply fin
      · simp only [q1, nd, startE, rb_ok, rb_exc, rs_ok, rs_exc, s_seq, seq_nx, seq_rt, seq_bk, seq_ct, seq_exc, nxO_s, s_asg, s_par, s_par3, s_ret, s_expr, s_next, s_bk, s_ct, s_raise, s_if, ifS_t, ifS_f, ifS_exc, s_for, eVar, e_c, wOf_s, rOf_s, bOf_s, e_ix, asD_d, ob_s, om_s, e_d1, e_d2, e_dN, asDs_1, asDs_2, bvO_s, e_t, o1_s, o2_s, a_nil, a_cons, prO_ok, prO_exc, e_cp, e_cg, call_1, call_2, call_3, call_4, call_5, call_6, b_not, b_and, b_or, andB_t, andB_f, orB_t, orB_f, b_tr, truW_b, e_if, ifE_t, ifE_f, e_isN, e_notN, e_notV, notV_s, e_andV, andV_t, andV_f, e_ch, chO_t, chO_f, e_sl, o_no, o_yes, oiO_s, sl_t, sl_l, i_zip, zipI_t, zipI_l, add_ii, sub_ii, neg_i, lt_ii, le_ii, gt_ii, ge_ii, eq_ii, ne_ii, eq_ss, ne_ss, eq_bb, ne_bb, len_t, len_l, min_ii, max_ii, int_i, int_b, tup_l, tup_t, lst_l, lst_t, sum_ints, e_tup, e_lst, itO_s, i_any, itA_t, itA_l, i_r1, i_r2, bindT, bindTs, unpk_t, un_L, un_P, mkSq, allD, wipeE, LINE, List.map_cons, List.map_nil, List.length_cons, List.length_nil, List.replicate, List.cons_append, List.nil_append, Nat.sub_self, Nat.reduceSub, Nat.reduceAdd, List.getElem?_cons_zero, List.getElem?_cons_succ, List.set_cons_zero, List.set_cons_succ, reduceIte, Bool.false_eq_true, Bool.not_true, Bool.not_false, Nat.reduceLeDiff, if_true, if_false, decide_true, decide_false, e_slS, s_asgL, nxL_s, itL_l]
        try rfl
      exact ⟨_, _, rfl, slots rfl, rfl⟩
  · rintro ρ S ⟨⟨F, rfl⟩, rfl⟩
    have h3 := fun (x0 x1 x2 x6 x8 x9 x10 y5 : Option Wv) (S : Store) => eComp_all (it := (iAny (eVar 3))) (tg := (.nm 5)) (f := e3__law_chain_holds) (vs := [5]) (ρ := [x0, x1, x2, some (.d (.tuple (C.map .int))), some (.d (.int (p.1))), y5, x6, some (.d (.int (f + 3))), x8, x9, x10]) (S := S) (xs := C) (fun z => .d (.int z)) (fun z => .int ((z + (f + 3)) % p.1)) (fun z => [x0, x1, x2, some (.d (.tuple (C.map .int))), some (.d (.int (p.1))), some (.d (.int z)), x6, some (.d (.int (f + 3))), x8, x9, x10]) (by simp only [mapd, startE, rb_ok, rb_exc, rs_ok, rs_exc, s_seq, seq_nx, seq_rt, seq_bk, seq_ct, seq_exc, nxO_s, s_asg, s_par, s_par3, s_ret, s_expr, s_next, s_bk, s_ct, s_raise, s_if, ifS_t, ifS_f, ifS_exc, s_for, eVar, e_c, wOf_s, rOf_s, bOf_s, e_ix, asD_d, ob_s, om_s, e_d1, e_d2, e_dN, asDs_1, asDs_2, bvO_s, e_t, o1_s, o2_s, a_nil, a_cons, prO_ok, prO_exc, e_cp, e_cg, call_1, call_2, call_3, call_4, call_5, call_6, b_not, b_and, b_or, andB_t, andB_f, orB_t, orB_f, b_tr, truW_b, e_if, ifE_t, ifE_f, e_isN, e_notN, e_notV, notV_s, e_andV, andV_t, andV_f, e_ch, chO_t, chO_f, e_sl, o_no, o_yes, oiO_s, sl_t, sl_l, i_zip, zipI_t, zipI_l, add_ii, sub_ii, neg_i, lt_ii, le_ii, gt_ii, ge_ii, eq_ii, ne_ii, eq_ss, ne_ss, eq_bb, ne_bb, len_t, len_l, min_ii, max_ii, int_i, int_b, tup_l, tup_t, lst_l, lst_t, sum_ints, e_tup, e_lst, itO_s, i_any, itA_t, itA_l, i_r1, i_r2, bindT, bindTs, unpk_t, un_L, un_P, mkSq, allD, wipeE, LINE, List.map_cons, List.map_nil, List.length_cons, List.length_nil, List.replicate, List.cons_append, List.nil_append, Nat.sub_self, Nat.reduceSub, Nat.reduceAdd, List.getElem?_cons_zero, List.getElem?_cons_succ, List.set_cons_zero, List.set_cons_succ, reduceIte, Bool.false_eq_true, Bool.not_true, Bool.not_false, Nat.reduceLeDiff, if_true, if_false, decide_true, decide_false, e_slS, s_asgL, nxL_s, itL_l]) (by unfold LINE; omega) (fun z _ => rfl) (fun z hz => by simp only [e3__law_chain_holds, div_ii hb.1 (show p.1 < 1073741824 by omega), mulT_i, mul_r fn, em, startE, rb_ok, rb_exc, rs_ok, rs_exc, s_seq, seq_nx, seq_rt, seq_bk, seq_ct, seq_exc, nxO_s, s_asg, s_par, s_par3, s_ret, s_expr, s_next, s_bk, s_ct, s_raise, s_if, ifS_t, ifS_f, ifS_exc, s_for, eVar, e_c, wOf_s, rOf_s, bOf_s, e_ix, asD_d, ob_s, om_s, e_d1, e_d2, e_dN, asDs_1, asDs_2, bvO_s, e_t, o1_s, o2_s, a_nil, a_cons, prO_ok, prO_exc, e_cp, e_cg, call_1, call_2, call_3, call_4, call_5, call_6, b_not, b_and, b_or, andB_t, andB_f, orB_t, orB_f, b_tr, truW_b, e_if, ifE_t, ifE_f, e_isN, e_notN, e_notV, notV_s, e_andV, andV_t, andV_f, e_ch, chO_t, chO_f, e_sl, o_no, o_yes, oiO_s, sl_t, sl_l, i_zip, zipI_t, zipI_l, add_ii, sub_ii, neg_i, lt_ii, le_ii, gt_ii, ge_ii, eq_ii, ne_ii, eq_ss, ne_ss, eq_bb, ne_bb, len_t, len_l, min_ii, max_ii, int_i, int_b, tup_l, tup_t, lst_l, lst_t, sum_ints, e_tup, e_lst, itO_s, i_any, itA_t, itA_l, i_r1, i_r2, bindT, bindTs, unpk_t, un_L, un_P, mkSq, allD, wipeE, LINE, List.map_cons, List.map_nil, List.length_cons, List.length_nil, List.replicate, List.cons_append, List.nil_append, Nat.sub_self, Nat.reduceSub, Nat.reduceAdd, List.getElem?_cons_zero, List.getElem?_cons_succ, List.set_cons_zero, List.set_cons_succ, reduceIte, Bool.false_eq_true, Bool.not_true, Bool.not_false, Nat.reduceLeDiff, if_true, if_false, decide_true, decide_false, e_slS, s_asgL, nxL_s, itL_l])
    have hm : C.map (fun z => PyData.int ((z + (f + 3)) % p.1)) = (C.map fun z => (z + (f + 3)) % p.1).map .int := map_in _ _
    rw [hm] at h3
    have ct := chain_eq (g.turned (f + 3)) (by show (p.2.map _).length ≤ 31; rw [List.length_map]; exact h31) (f := (f + (f + 3)) % p.1) (s := s) (Int.emod_nonneg _ (by omega)) (Int.emod_lt_of_pos _ hb.1) s0
    rw [chP_turned hb.1, ← hC] at ct
    have so := srt_intsL (xs := C.map fun z => (z + (f + 3)) % p.1) (by rw [List.length_map]; unfold LINE; omega)
    have eq1 : oEq (.tuple ((si (C.map fun z => (z + (f + 3)) % p.1)).map .int)) (.tuple ((si (C.map fun z => (z + (f + 3)) % p.1)).map .int)) = some (.bool true) := eq_same (sh_ints _)
    skip
    apply step
    · simp only [startE, rb_ok, rb_exc, rs_ok, rs_exc, s_seq, seq_nx, seq_rt, seq_bk, seq_ct, seq_exc, nxO_s, s_asg, s_par, s_par3, s_ret, s_expr, s_next, s_bk, s_ct, s_raise, s_if, ifS_t, ifS_f, ifS_exc, s_for, eVar, e_c, wOf_s, rOf_s, bOf_s, e_ix, asD_d, ob_s, om_s, e_d1, e_d2, e_dN, asDs_1, asDs_2, bvO_s, e_t, o1_s, o2_s, a_nil, a_cons, prO_ok, prO_exc, e_cp, e_cg, call_1, call_2, call_3, call_4, call_5, call_6, b_not, b_and, b_or, andB_t, andB_f, orB_t, orB_f, b_tr, truW_b, e_if, ifE_t, ifE_f, e_isN, e_notN, e_notV, notV_s, e_andV, andV_t, andV_f, e_ch, chO_t, chO_f, e_sl, o_no, o_yes, oiO_s, sl_t, sl_l, i_zip, zipI_t, zipI_l, add_ii, sub_ii, neg_i, lt_ii, le_ii, gt_ii, ge_ii, eq_ii, ne_ii, eq_ss, ne_ss, eq_bb, ne_bb, len_t, len_l, min_ii, max_ii, int_i, int_b, tup_l, tup_t, lst_l, lst_t, sum_ints, e_tup, e_lst, itO_s, i_any, itA_t, itA_l, i_r1, i_r2, bindT, bindTs, unpk_t, un_L, un_P, mkSq, allD, wipeE, LINE, List.map_cons, List.map_nil, List.length_cons, List.length_nil, List.replicate, List.cons_append, List.nil_append, Nat.sub_self, Nat.reduceSub, Nat.reduceAdd, List.getElem?_cons_zero, List.getElem?_cons_succ, List.set_cons_zero, List.set_cons_succ, reduceIte, Bool.false_eq_true, Bool.not_true, Bool.not_false, Nat.reduceLeDiff, if_true, if_false, decide_true, decide_false, e_slS, s_asgL, nxL_s, itL_l]
      try rfl
    apply step
    · simp only [h3, startE, rb_ok, rb_exc, rs_ok, rs_exc, s_seq, seq_nx, seq_rt, seq_bk, seq_ct, seq_exc, nxO_s, s_asg, s_par, s_par3, s_ret, s_expr, s_next, s_bk, s_ct, s_raise, s_if, ifS_t, ifS_f, ifS_exc, s_for, eVar, e_c, wOf_s, rOf_s, bOf_s, e_ix, asD_d, ob_s, om_s, e_d1, e_d2, e_dN, asDs_1, asDs_2, bvO_s, e_t, o1_s, o2_s, a_nil, a_cons, prO_ok, prO_exc, e_cp, e_cg, call_1, call_2, call_3, call_4, call_5, call_6, b_not, b_and, b_or, andB_t, andB_f, orB_t, orB_f, b_tr, truW_b, e_if, ifE_t, ifE_f, e_isN, e_notN, e_notV, notV_s, e_andV, andV_t, andV_f, e_ch, chO_t, chO_f, e_sl, o_no, o_yes, oiO_s, sl_t, sl_l, i_zip, zipI_t, zipI_l, add_ii, sub_ii, neg_i, lt_ii, le_ii, gt_ii, ge_ii, eq_ii, ne_ii, eq_ss, ne_ss, eq_bb, ne_bb, len_t, len_l, min_ii, max_ii, int_i, int_b, tup_l, tup_t, lst_l, lst_t, sum_ints, e_tup, e_lst, itO_s, i_any, itA_t, itA_l, i_r1, i_r2, bindT, bindTs, unpk_t, un_L, un_P, mkSq, allD, wipeE, LINE, List.map_cons, List.map_nil, List.length_cons, List.length_nil, List.replicate, List.cons_append, List.nil_append, Nat.sub_self, Nat.reduceSub, Nat.reduceAdd, List.getElem?_cons_zero, List.getElem?_cons_succ, List.set_cons_zero, List.set_cons_succ, reduceIte, Bool.false_eq_true, Bool.not_true, Bool.not_false, Nat.reduceLeDiff, if_true, if_false, decide_true, decide_false, e_slS, s_asgL, nxL_s, itL_l]
      try rfl
    apply step
    · simp only [div_ii hb.1 (show p.1 < 1073741824 by omega), mulT_i, mul_r fn, em, startE, rb_ok, rb_exc, rs_ok, rs_exc, s_seq, seq_nx, seq_rt, seq_bk, seq_ct, seq_exc, nxO_s, s_asg, s_par, s_par3, s_ret, s_expr, s_next, s_bk, s_ct, s_raise, s_if, ifS_t, ifS_f, ifS_exc, s_for, eVar, e_c, wOf_s, rOf_s, bOf_s, e_ix, asD_d, ob_s, om_s, e_d1, e_d2, e_dN, asDs_1, asDs_2, bvO_s, e_t, o1_s, o2_s, a_nil, a_cons, prO_ok, prO_exc, e_cp, e_cg, call_1, call_2, call_3, call_4, call_5, call_6, b_not, b_and, b_or, andB_t, andB_f, orB_t, orB_f, b_tr, truW_b, e_if, ifE_t, ifE_f, e_isN, e_notN, e_notV, notV_s, e_andV, andV_t, andV_f, e_ch, chO_t, chO_f, e_sl, o_no, o_yes, oiO_s, sl_t, sl_l, i_zip, zipI_t, zipI_l, add_ii, sub_ii, neg_i, lt_ii, le_ii, gt_ii, ge_ii, eq_ii, ne_ii, eq_ss, ne_ss, eq_bb, ne_bb, len_t, len_l, min_ii, max_ii, int_i, int_b, tup_l, tup_t, lst_l, lst_t, sum_ints, e_tup, e_lst, itO_s, i_any, itA_t, itA_l, i_r1, i_r2, bindT, bindTs, unpk_t, un_L, un_P, mkSq, allD, wipeE, LINE, List.map_cons, List.map_nil, List.length_cons, List.length_nil, List.replicate, List.cons_append, List.nil_append, Nat.sub_self, Nat.reduceSub, Nat.reduceAdd, List.getElem?_cons_zero, List.getElem?_cons_succ, List.set_cons_zero, List.set_cons_succ, reduceIte, Bool.false_eq_true, Bool.not_true, Bool.not_false, Nat.reduceLeDiff, if_true, if_false, decide_true, decide_false, e_slS, s_asgL, nxL_s, itL_l]
      try rfl
    apply fin
    · simp only [turned_eq g (f + 3), ct, so, eq1, startE, rb_ok, rb_exc, rs_ok, rs_exc, s_seq, seq_nx, seq_rt, seq_bk, seq_ct, seq_exc, nxO_s, s_asg, s_par, s_par3, s_ret, s_expr, s_next, s_bk, s_ct, s_raise, s_if, ifS_t, ifS_f, ifS_exc, s_for, eVar, e_c, wOf_s, rOf_s, bOf_s, e_ix, asD_d, ob_s, om_s, e_d1, e_d2, e_dN, asDs_1, asDs_2, bvO_s, e_t, o1_s, o2_s, a_nil, a_cons, prO_ok, prO_exc, e_cp, e_cg, call_1, call_2, call_3, call_4, call_5, call_6, b_not, b_and, b_or, andB_t, andB_f, orB_t, orB_f, b_tr, truW_b, e_if, ifE_t, ifE_f, e_isN, e_notN, e_notV, notV_s, e_andV, andV_t, andV_f, e_ch, chO_t, chO_f, e_sl, o_no, o_yes, oiO_s, sl_t, sl_l, i_zip, zipI_t, zipI_l, add_ii, sub_ii, neg_i, lt_ii, le_ii, gt_ii, ge_ii, eq_ii, ne_ii, eq_ss, ne_ss, eq_bb, ne_bb, len_t, len_l, min_ii, max_ii, int_i, int_b, tup_l, tup_t, lst_l, lst_t, sum_ints, e_tup, e_lst, itO_s, i_any, itA_t, itA_l, i_r1, i_r2, bindT, bindTs, unpk_t, un_L, un_P, mkSq, allD, wipeE, LINE, List.map_cons, List.map_nil, List.length_cons, List.length_nil, List.replicate, List.cons_append, List.nil_append, Nat.sub_self, Nat.reduceSub, Nat.reduceAdd, List.getElem?_cons_zero, List.getElem?_cons_succ, List.set_cons_zero, List.set_cons_succ, reduceIte, Bool.false_eq_true, Bool.not_true, Bool.not_false, Nat.reduceLeDiff, if_true, if_false, decide_true, decide_false, e_slS, s_asgL, nxL_s, itL_l]
      try rfl
    exact ⟨_, rfl⟩
end PL.K16

namespace PL.K16
open PySem PySem.Spec PyProof.Rows L2 PL PySem.SeqAt PySem.W
def rgS (n : Int) : List Int := (List.range (Builtin.Range.rangeSize 0 n (1 + n / 12)).toNat).map fun i : Nat => 0 + (i : Int) * (1 + n / 12)
theorem rgS_eq (n : Int) : rngS 0 (1 + n / 12) (Builtin.Range.rangeSize 0 n (1 + n / 12)).toNat = (rgS n).map fun z => Wv.d (.int z) := by unfold rngS rgS; rw [List.map_map]; rfl
theorem size_n {n : Int} (h : 0 < n) : Builtin.Range.rangeSize 0 n (1 + n / 12) = (n - 1) / (1 + n / 12) + 1 := by
  unfold Builtin.Range.rangeSize
  have : 0 ≤ n / 12 := Int.ediv_nonneg (by omega) (by omega)
  rw [if_pos (show 1 + n / 12 > 0 by omega), if_pos h, Int.sub_zero]
theorem rgS_mem {n z : Int} (h : 0 < n) (hz : z ∈ rgS n) : 0 ≤ z ∧ z < n := by
  unfold rgS at hz
  obtain ⟨i, hi, rfl⟩ := List.mem_map.mp hz
  have hi := List.mem_range.mp hi
  rw [size_n h] at hi
  have c0 : 0 ≤ n / 12 := Int.ediv_nonneg (by omega) (by omega)
  have d0 : 0 ≤ (n - 1) / (1 + n / 12) := Int.ediv_nonneg (by omega) (by omega)
  have m0 : 0 ≤ (i : Int) * (1 + n / 12) := Int.mul_nonneg (by omega) (by omega)
  have m1 : (i : Int) * (1 + n / 12) ≤ (n - 1) / (1 + n / 12) * (1 + n / 12) := Int.mul_le_mul_of_nonneg_right (by omega) (by omega)
  have m2 := Int.ediv_mul_le (n - 1) (show 1 + n / 12 ≠ 0 by omega)
  omega
theorem rgS_len {n : Int} (h : 0 < n) : (rgS n).length ≤ n.toNat ∧ rgS n ≠ [] := by
  unfold rgS
  rw [size_n h]
  have c0 : 0 ≤ n / 12 := Int.ediv_nonneg (by omega) (by omega)
  have d0 : 0 ≤ (n - 1) / (1 + n / 12) := Int.ediv_nonneg (by omega) (by omega)
  have d1 := Int.ediv_le_self (1 + n / 12) (show 0 ≤ n - 1 by omega)
  constructor
  · rw [List.length_map, List.length_range]; omega
  · intro q
    have := congrArg List.length q
    rw [List.length_map, List.length_range] at this
    simp at this
    omega
theorem least_mono {p : Pl} (hb : 0 < p.1) {s : Int} (s0 : 0 ≤ s) : leastP p (s + 1) ≤ leastP p s := by
  by_cases h : wk p = []
  · rw [least_nil h, least_nil h]; omega
  · obtain ⟨f, f0, f1, e⟩ := least_some hb s0 h
    rw [e]
    exact least_le hb (by omega) (ch_rng hb f0 f1) (near_mono (ch_near hb f0 f1 s0) (fun x h => h) (by omega))
theorem least_up {p : Pl} (hb : 0 < p.1) {s : Int} (s0 : 0 ≤ s) : leastP p s ≤ p.1 := by
  have h := least_le (p := p) hb s0 (C := wk p) (fun x hx => wk_rng hx) (nearB_iff.mpr fun e he => ⟨e, he, by rw [ap_self]; exact s0⟩)
  have := List.length_filter_le (fun b => p.2.any fun l => chg p l b) (rng 0 p.1)
  rw [rng_len] at this
  unfold wk at h
  omega
theorem ch_one {p : Pl} {f s : Int} (h : wk p = []) : (chP p f s).length = 1 := by
  unfold chP chL
  rw [si_len]
  have : offs p f s = [] := by
    unfold offs
    rw [List.filter_eq_nil_iff.mpr]
    intro d _
    rw [h]; simp
  rw [this]; rfl
theorem turn1 {ns : List Int} {p : Pl} (g : Good p) (h31 : p.2.length ≤ 31) (n60 : p.1 ≤ 60) {s : Int} (s0 : 0 ≤ s) {f : Int} (f0 : 0 ≤ f) (f1 : f < p.1) (S0 : Store) {acc : List Int} (hz : acc.length < 1000) (x2 x4 x5 x9 x10 x11 x12 : Option Wv) :
    Gs l1_law [some (.d (dS ns)), some (.o 0), x2, some (.d (dP p)), x4, x5, some (.d (.int s)), some (.o S0.length), some (.d (.int f)), x9, x10, x11, x12] (S0 ++ [.lst ((acc.map PyData.int).map .d)])
      (Nx fun ρ S' => (∃ F : Nat → Option Wv, ρ = [some (.d (dS ns)), some (.o 0), x2, some (.d (dP p)), x4, x5, some (.d (.int s)), some (.o S0.length), F 8, x9, x10, x11, x12]) ∧ S' = S0 ++ [.lst (((acc ++ [((chP p f s).length : Int)]).map PyData.int).map .d)]) := by
  have c1 := holds_eq g h31 n60 f0 f1 s0
  have c2 := chain_eq g h31 f0 f1 s0
  have gt : (S0 ++ [MO.lst ((acc.map PyData.int).map Wv.d)])[S0.length]? = some (.lst ((acc.map PyData.int).map Wv.d)) := by rw [List.getElem?_append_right (Nat.le_refl _), Nat.sub_self]; rfl
  have st : ∀ z, (S0 ++ [MO.lst ((acc.map PyData.int).map Wv.d)]).set S0.length z = S0 ++ [z] := fun z => by simp
  have ap1 := e_app (f := eVar 7) (g := aCons (eDN (o1 oLen) (aCons (eCallP f_chain (aCons (eVar 3) (aCons (eVar 8) (aCons (eVar 6) aNil)))) aNil)) aNil) (ρ := [some (.d (dS ns)), some (.o 0), x2, some (.d (dP p)), x4, x5, some (.d (.int s)), some (.o S0.length), some (.d (.int f)), x9, x10, x11, x12]) (S := S0 ++ [.lst ((acc.map PyData.int).map .d)]) (S1 := S0 ++ [.lst ((acc.map PyData.int).map .d)]) (k := S0.length) (w := .d (.int ((chP p f s).length : Int))) (by simp only [startE, rb_ok, rb_exc, rs_ok, rs_exc, s_seq, seq_nx, seq_rt, seq_bk, seq_ct, seq_exc, nxO_s, s_asg, s_par, s_par3, s_ret, s_expr, s_next, s_bk, s_ct, s_raise, s_if, ifS_t, ifS_f, ifS_exc, s_for, eVar, e_c, wOf_s, rOf_s, bOf_s, e_ix, asD_d, ob_s, om_s, e_d1, e_d2, e_dN, asDs_1, asDs_2, bvO_s, e_t, o1_s, o2_s, a_nil, a_cons, prO_ok, prO_exc, e_cp, e_cg, call_1, call_2, call_3, call_4, call_5, call_6, b_not, b_and, b_or, andB_t, andB_f, orB_t, orB_f, b_tr, truW_b, e_if, ifE_t, ifE_f, e_isN, e_notN, e_notV, notV_s, e_andV, andV_t, andV_f, e_ch, chO_t, chO_f, e_sl, o_no, o_yes, oiO_s, sl_t, sl_l, i_zip, zipI_t, zipI_l, add_ii, sub_ii, neg_i, lt_ii, le_ii, gt_ii, ge_ii, eq_ii, ne_ii, eq_ss, ne_ss, eq_bb, ne_bb, len_t, len_l, min_ii, max_ii, int_i, int_b, tup_l, tup_t, lst_l, lst_t, sum_ints, e_tup, e_lst, itO_s, i_any, itA_t, itA_l, i_r1, i_r2, bindT, bindTs, unpk_t, un_L, un_P, mkSq, allD, wipeE, LINE, List.map_cons, List.map_nil, List.length_cons, List.length_nil, List.replicate, List.cons_append, List.nil_append, Nat.sub_self, Nat.reduceSub, Nat.reduceAdd, List.getElem?_cons_zero, List.getElem?_cons_succ, List.set_cons_zero, List.set_cons_succ, reduceIte, Bool.false_eq_true, Bool.not_true, Bool.not_false, Nat.reduceLeDiff, if_true, if_false, decide_true, decide_false, e_slS, s_asgL, nxL_s, itL_l]) gt (by simp only [c2, List.length_map, startE, rb_ok, rb_exc, rs_ok, rs_exc, s_seq, seq_nx, seq_rt, seq_bk, seq_ct, seq_exc, nxO_s, s_asg, s_par, s_par3, s_ret, s_expr, s_next, s_bk, s_ct, s_raise, s_if, ifS_t, ifS_f, ifS_exc, s_for, eVar, e_c, wOf_s, rOf_s, bOf_s, e_ix, asD_d, ob_s, om_s, e_d1, e_d2, e_dN, asDs_1, asDs_2, bvO_s, e_t, o1_s, o2_s, a_nil, a_cons, prO_ok, prO_exc, e_cp, e_cg, call_1, call_2, call_3, call_4, call_5, call_6, b_not, b_and, b_or, andB_t, andB_f, orB_t, orB_f, b_tr, truW_b, e_if, ifE_t, ifE_f, e_isN, e_notN, e_notV, notV_s, e_andV, andV_t, andV_f, e_ch, chO_t, chO_f, e_sl, o_no, o_yes, oiO_s, sl_t, sl_l, i_zip, zipI_t, zipI_l, add_ii, sub_ii, neg_i, lt_ii, le_ii, gt_ii, ge_ii, eq_ii, ne_ii, eq_ss, ne_ss, eq_bb, ne_bb, len_t, len_l, min_ii, max_ii, int_i, int_b, tup_l, tup_t, lst_l, lst_t, sum_ints, e_tup, e_lst, itO_s, i_any, itA_t, itA_l, i_r1, i_r2, bindT, bindTs, unpk_t, un_L, un_P, mkSq, allD, wipeE, LINE, List.map_cons, List.map_nil, List.length_cons, List.length_nil, List.replicate, List.cons_append, List.nil_append, Nat.sub_self, Nat.reduceSub, Nat.reduceAdd, List.getElem?_cons_zero, List.getElem?_cons_succ, List.set_cons_zero, List.set_cons_succ, reduceIte, Bool.false_eq_true, Bool.not_true, Bool.not_false, Nat.reduceLeDiff, if_true, if_false, decide_true, decide_false, e_slS, s_asgL, nxL_s, itL_l]) gt (by rw [List.length_map, List.length_map]; unfold LINE; omega)
  rw [st] at ap1
  apply step
  · simp only [c1, startE, rb_ok, rb_exc, rs_ok, rs_exc, s_seq, seq_nx, seq_rt, seq_bk, seq_ct, seq_exc, nxO_s, s_asg, s_par, s_par3, s_ret, s_expr, s_next, s_bk, s_ct, s_raise, s_if, ifS_t, ifS_f, ifS_exc, s_for, eVar, e_c, wOf_s, rOf_s, bOf_s, e_ix, asD_d, ob_s, om_s, e_d1, e_d2, e_dN, asDs_1, asDs_2, bvO_s, e_t, o1_s, o2_s, a_nil, a_cons, prO_ok, prO_exc, e_cp, e_cg, call_1, call_2, call_3, call_4, call_5, call_6, b_not, b_and, b_or, andB_t, andB_f, orB_t, orB_f, b_tr, truW_b, e_if, ifE_t, ifE_f, e_isN, e_notN, e_notV, notV_s, e_andV, andV_t, andV_f, e_ch, chO_t, chO_f, e_sl, o_no, o_yes, oiO_s, sl_t, sl_l, i_zip, zipI_t, zipI_l, add_ii, sub_ii, neg_i, lt_ii, le_ii, gt_ii, ge_ii, eq_ii, ne_ii, eq_ss, ne_ss, eq_bb, ne_bb, len_t, len_l, min_ii, max_ii, int_i, int_b, tup_l, tup_t, lst_l, lst_t, sum_ints, e_tup, e_lst, itO_s, i_any, itA_t, itA_l, i_r1, i_r2, bindT, bindTs, unpk_t, un_L, un_P, mkSq, allD, wipeE, LINE, List.map_cons, List.map_nil, List.length_cons, List.length_nil, List.replicate, List.cons_append, List.nil_append, Nat.sub_self, Nat.reduceSub, Nat.reduceAdd, List.getElem?_cons_zero, List.getElem?_cons_succ, List.set_cons_zero, List.set_cons_succ, reduceIte, Bool.false_eq_true, Bool.not_true, Bool.not_false, Nat.reduceLeDiff, if_true, if_false, decide_true, decide_false, e_slS, s_asgL, nxL_s, itL_l]
    try rfl
  refine fin (r := .nx _ _) (by simp only [ap1, startE, rb_ok, rb_exc, rs_ok, rs_exc, s_seq, seq_nx, seq_rt, seq_bk, seq_ct, seq_exc, nxO_s, s_asg, s_par, s_par3, s_ret, s_expr, s_next, s_bk, s_ct, s_raise, s_if, ifS_t, ifS_f, ifS_exc, s_for, eVar, e_c, wOf_s, rOf_s, bOf_s, e_ix, asD_d, ob_s, om_s, e_d1, e_d2, e_dN, asDs_1, asDs_2, bvO_s, e_t, o1_s, o2_s, a_nil, a_cons, prO_ok, prO_exc, e_cp, e_cg, call_1, call_2, call_3, call_4, call_5, call_6, b_not, b_and, b_or, andB_t, andB_f, orB_t, orB_f, b_tr, truW_b, e_if, ifE_t, ifE_f, e_isN, e_notN, e_notV, notV_s, e_andV, andV_t, andV_f, e_ch, chO_t, chO_f, e_sl, o_no, o_yes, oiO_s, sl_t, sl_l, i_zip, zipI_t, zipI_l, add_ii, sub_ii, neg_i, lt_ii, le_ii, gt_ii, ge_ii, eq_ii, ne_ii, eq_ss, ne_ss, eq_bb, ne_bb, len_t, len_l, min_ii, max_ii, int_i, int_b, tup_l, tup_t, lst_l, lst_t, sum_ints, e_tup, e_lst, itO_s, i_any, itA_t, itA_l, i_r1, i_r2, bindT, bindTs, unpk_t, un_L, un_P, mkSq, allD, wipeE, LINE, List.map_cons, List.map_nil, List.length_cons, List.length_nil, List.replicate, List.cons_append, List.nil_append, Nat.sub_self, Nat.reduceSub, Nat.reduceAdd, List.getElem?_cons_zero, List.getElem?_cons_succ, List.set_cons_zero, List.set_cons_succ, reduceIte, Bool.false_eq_true, Bool.not_true, Bool.not_false, Nat.reduceLeDiff, if_true, if_false, decide_true, decide_false, e_slS, s_asgL, nxL_s, itL_l]; rfl) ⟨_, _, rfl, slots rfl, ?_⟩
  rw [List.map_append, List.map_append]; rfl
theorem turn2 {ns : List Int} (hs : ns.length ≤ 1000) {p : Pl} (g : Good p) (h31 : p.2.length ≤ 31) (n60 : p.1 ≤ 60) (hw : wk p ≠ []) {s : Int} (s0 : 0 ≤ s) {n : Nat} (hn : n < 800000) {T S : Store} (t : Tn n T S) (x2 x5 x7 x8 x10 x11 x12 : Option Wv) :
    Gs l2_law [some (.d (dS ns)), some (.o 0), x2, some (.d (dP p)), some (.d (.int p.1)), x5, some (.d (.int s)), x7, x8, some (.d (.int (leastP p s))), x10, x11, x12] S
      (Nx fun ρ S' => (∃ F : Nat → Option Wv, ρ = [some (.d (dS ns)), some (.o 0), x2, some (.d (dP p)), some (.d (.int p.1)), x5, some (.d (.int s)), x7, x8, some (.d (.int (leastP p s))), x10, F 11, F 12]) ∧ Tn (n + 60) T S') := by
  have hb := g.b
  have l1 := least_pos hb.1 s0 hw
  have l2 := least_up hb.1 s0
  obtain ⟨k, hk⟩ : ∃ k : Nat, leastP p s - 1 = (k : Int) := ⟨(leastP p s - 1).toNat, by omega⟩
  obtain ⟨xs, S1, xl, xb, ec, t1⟩ := draws_ok (it := iR1 (aCons (eD2 oSub (eVar 9) (eC (.int 1))) aNil)) (tg := .nm 12) (f := e1_law) (vs := [12]) (ρ := [some (.d (dS ns)), some (.o 0), x2, some (.d (dP p)), some (.d (.int p.1)), x5, some (.d (.int s)), x7, x8, some (.d (.int (leastP p s))), x10, x11, x12]) (xs := List.range k) (m := p.1) (fun i : Nat => Wv.d (.int (0 + (i : Int))))
    (fun i => [some (.d (dS ns)), some (.o 0), x2, some (.d (dP p)), some (.d (.int p.1)), x5, some (.d (.int s)), x7, x8, some (.d (.int (leastP p s))), x10, x11, some (.d (.int (0 + (i : Int))))]) t hs (by rw [List.length_range]; omega) hb.1 (r1_nat (by simp only [hk, startE, rb_ok, rb_exc, rs_ok, rs_exc, s_seq, seq_nx, seq_rt, seq_bk, seq_ct, seq_exc, nxO_s, s_asg, s_par, s_par3, s_ret, s_expr, s_next, s_bk, s_ct, s_raise, s_if, ifS_t, ifS_f, ifS_exc, s_for, eVar, e_c, wOf_s, rOf_s, bOf_s, e_ix, asD_d, ob_s, om_s, e_d1, e_d2, e_dN, asDs_1, asDs_2, bvO_s, e_t, o1_s, o2_s, a_nil, a_cons, prO_ok, prO_exc, e_cp, e_cg, call_1, call_2, call_3, call_4, call_5, call_6, b_not, b_and, b_or, andB_t, andB_f, orB_t, orB_f, b_tr, truW_b, e_if, ifE_t, ifE_f, e_isN, e_notN, e_notV, notV_s, e_andV, andV_t, andV_f, e_ch, chO_t, chO_f, e_sl, o_no, o_yes, oiO_s, sl_t, sl_l, i_zip, zipI_t, zipI_l, add_ii, sub_ii, neg_i, lt_ii, le_ii, gt_ii, ge_ii, eq_ii, ne_ii, eq_ss, ne_ss, eq_bb, ne_bb, len_t, len_l, min_ii, max_ii, int_i, int_b, tup_l, tup_t, lst_l, lst_t, sum_ints, e_tup, e_lst, itO_s, i_any, itA_t, itA_l, i_r1, i_r2, bindT, bindTs, unpk_t, un_L, un_P, mkSq, allD, wipeE, LINE, List.map_cons, List.map_nil, List.length_cons, List.length_nil, List.replicate, List.cons_append, List.nil_append, Nat.sub_self, Nat.reduceSub, Nat.reduceAdd, List.getElem?_cons_zero, List.getElem?_cons_succ, List.set_cons_zero, List.set_cons_succ, reduceIte, Bool.false_eq_true, Bool.not_true, Bool.not_false, Nat.reduceLeDiff, if_true, if_false, decide_true, decide_false, e_slS, s_asgL, nxL_s, itL_l]) (by omega)) (fun x _ => rfl) (fun x hx S => by simp only [e1_law, startE, rb_ok, rb_exc, rs_ok, rs_exc, s_seq, seq_nx, seq_rt, seq_bk, seq_ct, seq_exc, nxO_s, s_asg, s_par, s_par3, s_ret, s_expr, s_next, s_bk, s_ct, s_raise, s_if, ifS_t, ifS_f, ifS_exc, s_for, eVar, e_c, wOf_s, rOf_s, bOf_s, e_ix, asD_d, ob_s, om_s, e_d1, e_d2, e_dN, asDs_1, asDs_2, bvO_s, e_t, o1_s, o2_s, a_nil, a_cons, prO_ok, prO_exc, e_cp, e_cg, call_1, call_2, call_3, call_4, call_5, call_6, b_not, b_and, b_or, andB_t, andB_f, orB_t, orB_f, b_tr, truW_b, e_if, ifE_t, ifE_f, e_isN, e_notN, e_notV, notV_s, e_andV, andV_t, andV_f, e_ch, chO_t, chO_f, e_sl, o_no, o_yes, oiO_s, sl_t, sl_l, i_zip, zipI_t, zipI_l, add_ii, sub_ii, neg_i, lt_ii, le_ii, gt_ii, ge_ii, eq_ii, ne_ii, eq_ss, ne_ss, eq_bb, ne_bb, len_t, len_l, min_ii, max_ii, int_i, int_b, tup_l, tup_t, lst_l, lst_t, sum_ints, e_tup, e_lst, itO_s, i_any, itA_t, itA_l, i_r1, i_r2, bindT, bindTs, unpk_t, un_L, un_P, mkSq, allD, wipeE, LINE, List.map_cons, List.map_nil, List.length_cons, List.length_nil, List.replicate, List.cons_append, List.nil_append, Nat.sub_self, Nat.reduceSub, Nat.reduceAdd, List.getElem?_cons_zero, List.getElem?_cons_succ, List.set_cons_zero, List.set_cons_succ, reduceIte, Bool.false_eq_true, Bool.not_true, Bool.not_false, Nat.reduceLeDiff, if_true, if_false, decide_true, decide_false, e_slS, s_asgL, nxL_s, itL_l])
  rw [List.length_range] at xl t1
  have ne := is_near_eq g h31 (xs := xs) (by omega) s
  have nf : nearB p xs s = false := by
    rcases tf (nearB p xs s) with h | h
    · have := least_le hb.1 s0 xb h
      omega
    · exact h
  rw [nf] at ne
  apply step
  · simp only [ec, startE, rb_ok, rb_exc, rs_ok, rs_exc, s_seq, seq_nx, seq_rt, seq_bk, seq_ct, seq_exc, nxO_s, s_asg, s_par, s_par3, s_ret, s_expr, s_next, s_bk, s_ct, s_raise, s_if, ifS_t, ifS_f, ifS_exc, s_for, eVar, e_c, wOf_s, rOf_s, bOf_s, e_ix, asD_d, ob_s, om_s, e_d1, e_d2, e_dN, asDs_1, asDs_2, bvO_s, e_t, o1_s, o2_s, a_nil, a_cons, prO_ok, prO_exc, e_cp, e_cg, call_1, call_2, call_3, call_4, call_5, call_6, b_not, b_and, b_or, andB_t, andB_f, orB_t, orB_f, b_tr, truW_b, e_if, ifE_t, ifE_f, e_isN, e_notN, e_notV, notV_s, e_andV, andV_t, andV_f, e_ch, chO_t, chO_f, e_sl, o_no, o_yes, oiO_s, sl_t, sl_l, i_zip, zipI_t, zipI_l, add_ii, sub_ii, neg_i, lt_ii, le_ii, gt_ii, ge_ii, eq_ii, ne_ii, eq_ss, ne_ss, eq_bb, ne_bb, len_t, len_l, min_ii, max_ii, int_i, int_b, tup_l, tup_t, lst_l, lst_t, sum_ints, e_tup, e_lst, itO_s, i_any, itA_t, itA_l, i_r1, i_r2, bindT, bindTs, unpk_t, un_L, un_P, mkSq, allD, wipeE, LINE, List.map_cons, List.map_nil, List.length_cons, List.length_nil, List.replicate, List.cons_append, List.nil_append, Nat.sub_self, Nat.reduceSub, Nat.reduceAdd, List.getElem?_cons_zero, List.getElem?_cons_succ, List.set_cons_zero, List.set_cons_succ, reduceIte, Bool.false_eq_true, Bool.not_true, Bool.not_false, Nat.reduceLeDiff, if_true, if_false, decide_true, decide_false, e_slS, s_asgL, nxL_s, itL_l]
    try rfl
  apply fin
  · simp only [ne, startE, rb_ok, rb_exc, rs_ok, rs_exc, s_seq, seq_nx, seq_rt, seq_bk, seq_ct, seq_exc, nxO_s, s_asg, s_par, s_par3, s_ret, s_expr, s_next, s_bk, s_ct, s_raise, s_if, ifS_t, ifS_f, ifS_exc, s_for, eVar, e_c, wOf_s, rOf_s, bOf_s, e_ix, asD_d, ob_s, om_s, e_d1, e_d2, e_dN, asDs_1, asDs_2, bvO_s, e_t, o1_s, o2_s, a_nil, a_cons, prO_ok, prO_exc, e_cp, e_cg, call_1, call_2, call_3, call_4, call_5, call_6, b_not, b_and, b_or, andB_t, andB_f, orB_t, orB_f, b_tr, truW_b, e_if, ifE_t, ifE_f, e_isN, e_notN, e_notV, notV_s, e_andV, andV_t, andV_f, e_ch, chO_t, chO_f, e_sl, o_no, o_yes, oiO_s, sl_t, sl_l, i_zip, zipI_t, zipI_l, add_ii, sub_ii, neg_i, lt_ii, le_ii, gt_ii, ge_ii, eq_ii, ne_ii, eq_ss, ne_ss, eq_bb, ne_bb, len_t, len_l, min_ii, max_ii, int_i, int_b, tup_l, tup_t, lst_l, lst_t, sum_ints, e_tup, e_lst, itO_s, i_any, itA_t, itA_l, i_r1, i_r2, bindT, bindTs, unpk_t, un_L, un_P, mkSq, allD, wipeE, LINE, List.map_cons, List.map_nil, List.length_cons, List.length_nil, List.replicate, List.cons_append, List.nil_append, Nat.sub_self, Nat.reduceSub, Nat.reduceAdd, List.getElem?_cons_zero, List.getElem?_cons_succ, List.set_cons_zero, List.set_cons_succ, reduceIte, Bool.false_eq_true, Bool.not_true, Bool.not_false, Nat.reduceLeDiff, if_true, if_false, decide_true, decide_false, e_slS, s_asgL, nxL_s, itL_l]
    try rfl
  exact ⟨_, _, rfl, slots rfl, t1.mono (by omega)⟩
def bD : Option Int → PyData
  | none => .none
  | some b => .int b
theorem rest1 {ns : List Int} (hs : ns.length ≤ 1000) {p : Pl} (g : Good p) (h31 : p.2.length ≤ 31) (n60 : p.1 ≤ 60) (hw : wk p ≠ []) {s : Int} (s0 : 0 ≤ s) {L : List Int} (hL : L ≠ []) (hm : ∀ y ∈ L, leastP p s ≤ y) {B : Option Int} (hB : ∀ b, B = some b → leastP p s ≤ b) {n : Nat} (hn : n < 700000) {T S : Store} (t : Tn n T S) (x2 x8 x10 x11 x12 : Option Wv) :
    Gs r1_law [some (.d (dS ns)), some (.o 0), x2, some (.d (dP p)), some (.d (.int p.1)), some (.d (bD B)), some (.d (.int s)), some (.d (.list (L.map .int))), x8, some (.d (.int (leastP p s))), x10, x11, x12] S
      (Nx fun ρ S' => (∃ F : Nat → Option Wv, ρ = [some (.d (dS ns)), some (.o 0), x2, some (.d (dP p)), some (.d (.int p.1)), some (.d (bD (some (leastP p s)))), F 6, F 7, F 8, F 9, F 10, F 11, F 12]) ∧ Tn (n + 400) T S') := by
  have hb := g.b
  have l1 := least_pos hb.1 s0 hw
  have mi := min1_l hL
  have c1 : decide (mn L < leastP p s) = false := decide_eq_false (by have := (le_mn hL).mpr hm; omega)
  have c2 : decide (leastP p s < 1) = false := decide_eq_false (by omega)
  have wq := wakes_eq g h31
  have s6 : small 6 := by decide
  refine step (ρ' := [some (.d (dS ns)), some (.o 0), x2, some (.d (dP p)), some (.d (.int p.1)), some (.d (bD B)), some (.d (.int s)), some (.d (.list (L.map .int))), x8, some (.d (.int (leastP p s))), x10, x11, x12]) (S' := S) ?_ ?_
  · cases B with
    | none => simp only [mi, c1, c2, bD, isNW, startE, rb_ok, rb_exc, rs_ok, rs_exc, s_seq, seq_nx, seq_rt, seq_bk, seq_ct, seq_exc, nxO_s, s_asg, s_par, s_par3, s_ret, s_expr, s_next, s_bk, s_ct, s_raise, s_if, ifS_t, ifS_f, ifS_exc, s_for, eVar, e_c, wOf_s, rOf_s, bOf_s, e_ix, asD_d, ob_s, om_s, e_d1, e_d2, e_dN, asDs_1, asDs_2, bvO_s, e_t, o1_s, o2_s, a_nil, a_cons, prO_ok, prO_exc, e_cp, e_cg, call_1, call_2, call_3, call_4, call_5, call_6, b_not, b_and, b_or, andB_t, andB_f, orB_t, orB_f, b_tr, truW_b, e_if, ifE_t, ifE_f, e_isN, e_notN, e_notV, notV_s, e_andV, andV_t, andV_f, e_ch, chO_t, chO_f, e_sl, o_no, o_yes, oiO_s, sl_t, sl_l, i_zip, zipI_t, zipI_l, add_ii, sub_ii, neg_i, lt_ii, le_ii, gt_ii, ge_ii, eq_ii, ne_ii, eq_ss, ne_ss, eq_bb, ne_bb, len_t, len_l, min_ii, max_ii, int_i, int_b, tup_l, tup_t, lst_l, lst_t, sum_ints, e_tup, e_lst, itO_s, i_any, itA_t, itA_l, i_r1, i_r2, bindT, bindTs, unpk_t, un_L, un_P, mkSq, allD, wipeE, LINE, List.map_cons, List.map_nil, List.length_cons, List.length_nil, List.replicate, List.cons_append, List.nil_append, Nat.sub_self, Nat.reduceSub, Nat.reduceAdd, List.getElem?_cons_zero, List.getElem?_cons_succ, List.set_cons_zero, List.set_cons_succ, reduceIte, Bool.false_eq_true, Bool.not_true, Bool.not_false, Nat.reduceLeDiff, if_true, if_false, decide_true, decide_false, e_slS, s_asgL, nxL_s, itL_l]
    | some b =>
      have c3 : decide (b < leastP p s) = false := decide_eq_false (by have := hB b rfl; omega)
      simp only [mi, c1, c2, c3, bD, isNW, startE, rb_ok, rb_exc, rs_ok, rs_exc, s_seq, seq_nx, seq_rt, seq_bk, seq_ct, seq_exc, nxO_s, s_asg, s_par, s_par3, s_ret, s_expr, s_next, s_bk, s_ct, s_raise, s_if, ifS_t, ifS_f, ifS_exc, s_for, eVar, e_c, wOf_s, rOf_s, bOf_s, e_ix, asD_d, ob_s, om_s, e_d1, e_d2, e_dN, asDs_1, asDs_2, bvO_s, e_t, o1_s, o2_s, a_nil, a_cons, prO_ok, prO_exc, e_cp, e_cg, call_1, call_2, call_3, call_4, call_5, call_6, b_not, b_and, b_or, andB_t, andB_f, orB_t, orB_f, b_tr, truW_b, e_if, ifE_t, ifE_f, e_isN, e_notN, e_notV, notV_s, e_andV, andV_t, andV_f, e_ch, chO_t, chO_f, e_sl, o_no, o_yes, oiO_s, sl_t, sl_l, i_zip, zipI_t, zipI_l, add_ii, sub_ii, neg_i, lt_ii, le_ii, gt_ii, ge_ii, eq_ii, ne_ii, eq_ss, ne_ss, eq_bb, ne_bb, len_t, len_l, min_ii, max_ii, int_i, int_b, tup_l, tup_t, lst_l, lst_t, sum_ints, e_tup, e_lst, itO_s, i_any, itA_t, itA_l, i_r1, i_r2, bindT, bindTs, unpk_t, un_L, un_P, mkSq, allD, wipeE, LINE, List.map_cons, List.map_nil, List.length_cons, List.length_nil, List.replicate, List.cons_append, List.nil_append, Nat.sub_self, Nat.reduceSub, Nat.reduceAdd, List.getElem?_cons_zero, List.getElem?_cons_succ, List.set_cons_zero, List.set_cons_succ, reduceIte, Bool.false_eq_true, Bool.not_true, Bool.not_false, Nat.reduceLeDiff, if_true, if_false, decide_true, decide_false, e_slS, s_asgL, nxL_s, itL_l]
  refine step (ρ' := [some (.d (dS ns)), some (.o 0), x2, some (.d (dP p)), some (.d (.int p.1)), some (.d (bD B)), some (.d (.int s)), some (.d (.list (L.map .int))), x8, some (.d (.int (leastP p s))), x10, x11, x12]) (S' := S) ?_ ?_
  · by_cases q : s = 0
    · have e : leastP p s = ((wk p).length : Int) := by rw [q]; exact least_0 g
      simp only [decide_eq_true q, wq, List.length_map, ← e, ne_selfI, startE, rb_ok, rb_exc, rs_ok, rs_exc, s_seq, seq_nx, seq_rt, seq_bk, seq_ct, seq_exc, nxO_s, s_asg, s_par, s_par3, s_ret, s_expr, s_next, s_bk, s_ct, s_raise, s_if, ifS_t, ifS_f, ifS_exc, s_for, eVar, e_c, wOf_s, rOf_s, bOf_s, e_ix, asD_d, ob_s, om_s, e_d1, e_d2, e_dN, asDs_1, asDs_2, bvO_s, e_t, o1_s, o2_s, a_nil, a_cons, prO_ok, prO_exc, e_cp, e_cg, call_1, call_2, call_3, call_4, call_5, call_6, b_not, b_and, b_or, andB_t, andB_f, orB_t, orB_f, b_tr, truW_b, e_if, ifE_t, ifE_f, e_isN, e_notN, e_notV, notV_s, e_andV, andV_t, andV_f, e_ch, chO_t, chO_f, e_sl, o_no, o_yes, oiO_s, sl_t, sl_l, i_zip, zipI_t, zipI_l, add_ii, sub_ii, neg_i, lt_ii, le_ii, gt_ii, ge_ii, eq_ii, ne_ii, eq_ss, ne_ss, eq_bb, ne_bb, len_t, len_l, min_ii, max_ii, int_i, int_b, tup_l, tup_t, lst_l, lst_t, sum_ints, e_tup, e_lst, itO_s, i_any, itA_t, itA_l, i_r1, i_r2, bindT, bindTs, unpk_t, un_L, un_P, mkSq, allD, wipeE, LINE, List.map_cons, List.map_nil, List.length_cons, List.length_nil, List.replicate, List.cons_append, List.nil_append, Nat.sub_self, Nat.reduceSub, Nat.reduceAdd, List.getElem?_cons_zero, List.getElem?_cons_succ, List.set_cons_zero, List.set_cons_succ, reduceIte, Bool.false_eq_true, Bool.not_true, Bool.not_false, Nat.reduceLeDiff, if_true, if_false, decide_true, decide_false, e_slS, s_asgL, nxL_s, itL_l]
    · simp only [decide_eq_false q, startE, rb_ok, rb_exc, rs_ok, rs_exc, s_seq, seq_nx, seq_rt, seq_bk, seq_ct, seq_exc, nxO_s, s_asg, s_par, s_par3, s_ret, s_expr, s_next, s_bk, s_ct, s_raise, s_if, ifS_t, ifS_f, ifS_exc, s_for, eVar, e_c, wOf_s, rOf_s, bOf_s, e_ix, asD_d, ob_s, om_s, e_d1, e_d2, e_dN, asDs_1, asDs_2, bvO_s, e_t, o1_s, o2_s, a_nil, a_cons, prO_ok, prO_exc, e_cp, e_cg, call_1, call_2, call_3, call_4, call_5, call_6, b_not, b_and, b_or, andB_t, andB_f, orB_t, orB_f, b_tr, truW_b, e_if, ifE_t, ifE_f, e_isN, e_notN, e_notV, notV_s, e_andV, andV_t, andV_f, e_ch, chO_t, chO_f, e_sl, o_no, o_yes, oiO_s, sl_t, sl_l, i_zip, zipI_t, zipI_l, add_ii, sub_ii, neg_i, lt_ii, le_ii, gt_ii, ge_ii, eq_ii, ne_ii, eq_ss, ne_ss, eq_bb, ne_bb, len_t, len_l, min_ii, max_ii, int_i, int_b, tup_l, tup_t, lst_l, lst_t, sum_ints, e_tup, e_lst, itO_s, i_any, itA_t, itA_l, i_r1, i_r2, bindT, bindTs, unpk_t, un_L, un_P, mkSq, allD, wipeE, LINE, List.map_cons, List.map_nil, List.length_cons, List.length_nil, List.replicate, List.cons_append, List.nil_append, Nat.sub_self, Nat.reduceSub, Nat.reduceAdd, List.getElem?_cons_zero, List.getElem?_cons_succ, List.set_cons_zero, List.set_cons_succ, reduceIte, Bool.false_eq_true, Bool.not_true, Bool.not_false, Nat.reduceLeDiff, if_true, if_false, decide_true, decide_false, e_slS, s_asgL, nxL_s, itL_l]
  apply step
  · simp only [startE, rb_ok, rb_exc, rs_ok, rs_exc, s_seq, seq_nx, seq_rt, seq_bk, seq_ct, seq_exc, nxO_s, s_asg, s_par, s_par3, s_ret, s_expr, s_next, s_bk, s_ct, s_raise, s_if, ifS_t, ifS_f, ifS_exc, s_for, eVar, e_c, wOf_s, rOf_s, bOf_s, e_ix, asD_d, ob_s, om_s, e_d1, e_d2, e_dN, asDs_1, asDs_2, bvO_s, e_t, o1_s, o2_s, a_nil, a_cons, prO_ok, prO_exc, e_cp, e_cg, call_1, call_2, call_3, call_4, call_5, call_6, b_not, b_and, b_or, andB_t, andB_f, orB_t, orB_f, b_tr, truW_b, e_if, ifE_t, ifE_f, e_isN, e_notN, e_notV, notV_s, e_andV, andV_t, andV_f, e_ch, chO_t, chO_f, e_sl, o_no, o_yes, oiO_s, sl_t, sl_l, i_zip, zipI_t, zipI_l, add_ii, sub_ii, neg_i, lt_ii, le_ii, gt_ii, ge_ii, eq_ii, ne_ii, eq_ss, ne_ss, eq_bb, ne_bb, len_t, len_l, min_ii, max_ii, int_i, int_b, tup_l, tup_t, lst_l, lst_t, sum_ints, e_tup, e_lst, itO_s, i_any, itA_t, itA_l, i_r1, i_r2, bindT, bindTs, unpk_t, un_L, un_P, mkSq, allD, wipeE, LINE, List.map_cons, List.map_nil, List.length_cons, List.length_nil, List.replicate, List.cons_append, List.nil_append, Nat.sub_self, Nat.reduceSub, Nat.reduceAdd, List.getElem?_cons_zero, List.getElem?_cons_succ, List.set_cons_zero, List.set_cons_succ, reduceIte, Bool.false_eq_true, Bool.not_true, Bool.not_false, Nat.reduceLeDiff, if_true, if_false, decide_true, decide_false, e_slS, s_asgL, nxL_s, itL_l]
    try rfl
  have lp := for_fin (it := iR1 (aCons (eC (.int 6)) aNil)) (tg := .nm 10) (body := l2_law) (ρ := [some (.d (dS ns)), some (.o 0), x2, some (.d (dP p)), some (.d (.int p.1)), some (.d (.int (leastP p s))), some (.d (.int s)), some (.d (.list (L.map .int))), x8, some (.d (.int (leastP p s))), x10, x11, x12]) (S := S) (S' := S) (List.range 6) (fun i : Nat => .d (.int (0 + (i : Int))))
    (fun i ρ S => (∃ F : Nat → Option Wv, ρ = [some (.d (dS ns)), some (.o 0), x2, some (.d (dP p)), some (.d (.int p.1)), some (.d (.int (leastP p s))), some (.d (.int s)), some (.d (.list (L.map .int))), x8, some (.d (.int (leastP p s))), F 10, F 11, F 12]) ∧ Tn (n + 60 * i) T S) (by simp only [r1O_s s6, startE, rb_ok, rb_exc, rs_ok, rs_exc, s_seq, seq_nx, seq_rt, seq_bk, seq_ct, seq_exc, nxO_s, s_asg, s_par, s_par3, s_ret, s_expr, s_next, s_bk, s_ct, s_raise, s_if, ifS_t, ifS_f, ifS_exc, s_for, eVar, e_c, wOf_s, rOf_s, bOf_s, e_ix, asD_d, ob_s, om_s, e_d1, e_d2, e_dN, asDs_1, asDs_2, bvO_s, e_t, o1_s, o2_s, a_nil, a_cons, prO_ok, prO_exc, e_cp, e_cg, call_1, call_2, call_3, call_4, call_5, call_6, b_not, b_and, b_or, andB_t, andB_f, orB_t, orB_f, b_tr, truW_b, e_if, ifE_t, ifE_f, e_isN, e_notN, e_notV, notV_s, e_andV, andV_t, andV_f, e_ch, chO_t, chO_f, e_sl, o_no, o_yes, oiO_s, sl_t, sl_l, i_zip, zipI_t, zipI_l, add_ii, sub_ii, neg_i, lt_ii, le_ii, gt_ii, ge_ii, eq_ii, ne_ii, eq_ss, ne_ss, eq_bb, ne_bb, len_t, len_l, min_ii, max_ii, int_i, int_b, tup_l, tup_t, lst_l, lst_t, sum_ints, e_tup, e_lst, itO_s, i_any, itA_t, itA_l, i_r1, i_r2, bindT, bindTs, unpk_t, un_L, un_P, mkSq, allD, wipeE, LINE, List.map_cons, List.map_nil, List.length_cons, List.length_nil, List.replicate, List.cons_append, List.nil_append, Nat.sub_self, Nat.reduceSub, Nat.reduceAdd, List.getElem?_cons_zero, List.getElem?_cons_succ, List.set_cons_zero, List.set_cons_succ, reduceIte, Bool.false_eq_true, Bool.not_true, Bool.not_false, Nat.reduceLeDiff, if_true, if_false, decide_true, decide_false, e_slS, s_asgL, nxL_s, itL_l]; rfl) ⟨slots rfl, t⟩ (by
      rintro i k hi ρ S ⟨⟨F, rfl⟩, t'⟩
      have hi6 : i < 6 := by have := (List.getElem?_eq_some_iff.mp hi).1; simpa using this
      refine ⟨_, rfl, ?_⟩
      obtain ⟨ρ2, S2, e, ⟨F2, rfl⟩, t2⟩ := turn2 hs g h31 n60 hw s0 (by omega) t' x2 (some (.d (.int (leastP p s)))) (some (.d (.list (L.map .int)))) x8 (some (.d (.int (0 + (k : Int))))) (F 11) (F 12)
      exact ⟨_, _, e, slots rfl, t2.mono (by omega)⟩)
  obtain ⟨ρ2, S2, e, ⟨F, rfl⟩, t2⟩ := lp
  exact fin e ⟨_, _, rfl, slots rfl, t2.mono (by rw [List.length_range]; omega)⟩
theorem turn3 {ns : List Int} (hs : ns.length ≤ 1000) {p : Pl} (g : Good p) (h31 : p.2.length ≤ 31) (n60 : p.1 ≤ 60) {s : Int} (s0 : 0 ≤ s) (s4 : s < 4) {B : Option Int} (hB : ∀ b, B = some b → leastP p s ≤ b) {n : Nat} (hn : n < 700000) {T S : Store} (t : Tn n T S) (x2 x7 x8 x9 x10 x11 x12 : Option Wv) :
    Gs l3_law [some (.d (dS ns)), some (.o 0), x2, some (.d (dP p)), some (.d (.int p.1)), some (.d (bD B)), some (.d (.int s)), x7, x8, x9, x10, x11, x12] S
      (Ct fun ρ S' => (∃ (B : Option Int) (F : Nat → Option Wv), (∀ b, B = some b → leastP p (s + 1) ≤ b) ∧ ρ = [some (.d (dS ns)), some (.o 0), x2, some (.d (dP p)), some (.d (.int p.1)), some (.d (bD B)), F 6, F 7, F 8, F 9, F 10, F 11, F 12]) ∧ ∃ T', Tn (n + 400) T' S') := by
  have hb := g.b
  have lm := least_many_eq g h31 s0 (by omega)
  have wq := wakes_eq g h31
  obtain ⟨rl, rn⟩ := rgS_len hb.1
  have c0 : 0 ≤ p.1 / 12 := Int.ediv_nonneg (by omega) (by omega)
  have c1 : p.1 / 12 ≤ p.1 := Int.ediv_le_self 12 (by omega)
  have mono := least_mono hb.1 s0
  refine step (ρ' := [some (.d (dS ns)), some (.o 0), x2, some (.d (dP p)), some (.d (.int p.1)), some (.d (bD B)), some (.d (.int s)), some (.o S.length), x8, x9, x10, x11, x12]) (S' := S ++ [.lst []]) rfl ?_
  refine for_step (rgS p.1) (fun z => .d (.int z)) (fun i ρ S' => (∃ F : Nat → Option Wv, ρ = [some (.d (dS ns)), some (.o 0), x2, some (.d (dP p)), some (.d (.int p.1)), some (.d (bD B)), some (.d (.int s)), some (.o S.length), F 8, x9, x10, x11, x12]) ∧ S' = S ++ [.lst (((((rgS p.1).take i).map fun f => ((chP p f s).length : Int)).map PyData.int).map .d)]) (S' := S ++ [.lst []]) ?_ ⟨slots rfl, rfl⟩ ?_ ?_
  · rw [← rgS_eq]
    exact i_r3 (by simp only [div_ii (show (0 : Int) < 12 by decide) (show (12 : Int) < 1073741824 by decide), startE, rb_ok, rb_exc, rs_ok, rs_exc, s_seq, seq_nx, seq_rt, seq_bk, seq_ct, seq_exc, nxO_s, s_asg, s_par, s_par3, s_ret, s_expr, s_next, s_bk, s_ct, s_raise, s_if, ifS_t, ifS_f, ifS_exc, s_for, eVar, e_c, wOf_s, rOf_s, bOf_s, e_ix, asD_d, ob_s, om_s, e_d1, e_d2, e_dN, asDs_1, asDs_2, bvO_s, e_t, o1_s, o2_s, a_nil, a_cons, prO_ok, prO_exc, e_cp, e_cg, call_1, call_2, call_3, call_4, call_5, call_6, b_not, b_and, b_or, andB_t, andB_f, orB_t, orB_f, b_tr, truW_b, e_if, ifE_t, ifE_f, e_isN, e_notN, e_notV, notV_s, e_andV, andV_t, andV_f, e_ch, chO_t, chO_f, e_sl, o_no, o_yes, oiO_s, sl_t, sl_l, i_zip, zipI_t, zipI_l, add_ii, sub_ii, neg_i, lt_ii, le_ii, gt_ii, ge_ii, eq_ii, ne_ii, eq_ss, ne_ss, eq_bb, ne_bb, len_t, len_l, min_ii, max_ii, int_i, int_b, tup_l, tup_t, lst_l, lst_t, sum_ints, e_tup, e_lst, itO_s, i_any, itA_t, itA_l, i_r1, i_r2, bindT, bindTs, unpk_t, un_L, un_P, mkSq, allD, wipeE, LINE, List.map_cons, List.map_nil, List.length_cons, List.length_nil, List.replicate, List.cons_append, List.nil_append, Nat.sub_self, Nat.reduceSub, Nat.reduceAdd, List.getElem?_cons_zero, List.getElem?_cons_succ, List.set_cons_zero, List.set_cons_succ, reduceIte, Bool.false_eq_true, Bool.not_true, Bool.not_false, Nat.reduceLeDiff, if_true, if_false, decide_true, decide_false, e_slS, s_asgL, nxL_s, itL_l]) ⟨by omega, by omega, by omega, by omega⟩
  · rintro i f hi ρ S1 ⟨⟨F, rfl⟩, rfl⟩
    have il := (List.getElem?_eq_some_iff.mp hi).1
    have rf := rgS_mem hb.1 (List.mem_of_getElem? hi)
    refine ⟨_, rfl, ?_⟩
    obtain ⟨ρ2, S2, e, ⟨F2, rfl⟩, rfl⟩ := turn1 (ns := ns) g h31 n60 s0 rf.1 rf.2 S (acc := ((rgS p.1).take i).map fun f => ((chP p f s).length : Int)) (by rw [List.length_map, List.length_take]; omega) x2 (some (.d (.int p.1))) (some (.d (bD B))) x9 x10 x11 x12
    refine ⟨_, _, e, slots rfl, ?_⟩
    have tk : (rgS p.1).take (i + 1) = (rgS p.1).take i ++ [f] := by rw [List.take_add_one, hi]; rfl
    rw [tk, List.map_append (f := fun f => ((chP p f s).length : Int))]; rfl
  · rintro ρ S1 ⟨⟨F, rfl⟩, rfl⟩
    rw [show (rgS p.1).take (rgS p.1).length = rgS p.1 from List.take_length]
    obtain ⟨L, hL⟩ : ∃ L, L = (rgS p.1).map fun f => ((chP p f s).length : Int) := ⟨_, rfl⟩
    have Ln : L ≠ [] := by rw [hL]; simpa using rn
    rw [← hL]
    refine gs_frz (k := S.length) (l := (L.map PyData.int).map .d) rfl (by rw [List.getElem?_append_right (Nat.le_refl _), Nat.sub_self]; rfl) ?_
    rw [mkSq_ds]
    have st : ∀ y z : MO, (S ++ [y]).set S.length z = S ++ [z] := fun y z => by simp
    rw [st]
    have t1 : Tn n (T ++ [.dead]) (S ++ [.dead]) := by
      obtain ⟨k, k1, k2⟩ := t
      exact ⟨k, k1, by rw [k2]; rfl⟩
    have mi := min1_l Ln
    simp only [List.set, Bool.false_eq_true, if_false]
    apply step
    · simp only [lm, startE, rb_ok, rb_exc, rs_ok, rs_exc, s_seq, seq_nx, seq_rt, seq_bk, seq_ct, seq_exc, nxO_s, s_asg, s_par, s_par3, s_ret, s_expr, s_next, s_bk, s_ct, s_raise, s_if, ifS_t, ifS_f, ifS_exc, s_for, eVar, e_c, wOf_s, rOf_s, bOf_s, e_ix, asD_d, ob_s, om_s, e_d1, e_d2, e_dN, asDs_1, asDs_2, bvO_s, e_t, o1_s, o2_s, a_nil, a_cons, prO_ok, prO_exc, e_cp, e_cg, call_1, call_2, call_3, call_4, call_5, call_6, b_not, b_and, b_or, andB_t, andB_f, orB_t, orB_f, b_tr, truW_b, e_if, ifE_t, ifE_f, e_isN, e_notN, e_notV, notV_s, e_andV, andV_t, andV_f, e_ch, chO_t, chO_f, e_sl, o_no, o_yes, oiO_s, sl_t, sl_l, i_zip, zipI_t, zipI_l, add_ii, sub_ii, neg_i, lt_ii, le_ii, gt_ii, ge_ii, eq_ii, ne_ii, eq_ss, ne_ss, eq_bb, ne_bb, len_t, len_l, min_ii, max_ii, int_i, int_b, tup_l, tup_t, lst_l, lst_t, sum_ints, e_tup, e_lst, itO_s, i_any, itA_t, itA_l, i_r1, i_r2, bindT, bindTs, unpk_t, un_L, un_P, mkSq, allD, wipeE, LINE, List.map_cons, List.map_nil, List.length_cons, List.length_nil, List.replicate, List.cons_append, List.nil_append, Nat.sub_self, Nat.reduceSub, Nat.reduceAdd, List.getElem?_cons_zero, List.getElem?_cons_succ, List.set_cons_zero, List.set_cons_succ, reduceIte, Bool.false_eq_true, Bool.not_true, Bool.not_false, Nat.reduceLeDiff, if_true, if_false, decide_true, decide_false, e_slS, s_asgL, nxL_s, itL_l]
      try rfl
    by_cases hw : wk p = []
    · rw [hw] at wq
      rw [least_nil hw]
      have m1 : mn L = 1 := by
        have := mn_mem Ln
        rw [hL] at this ⊢
        obtain ⟨z, _, e⟩ := List.mem_map.mp this
        rw [← e, ch_one hw]; rfl
      rw [m1] at mi
      have en : oEq (.tuple []) (.tuple []) = some (.bool true) := by rw [eq_nil rfl]; rfl
      have n0 : (!decide ((0 : Int) = 0)) = false := rfl
      have n1 : (!decide ((1 : Int) = 1)) = false := rfl
      refine fin (r := .ct [some (.d (dS ns)), some (.o 0), x2, some (.d (dP p)), some (.d (.int p.1)), some (.d (bD B)), some (.d (.int s)), some (.d (.list (L.map .int))), F 8, some (.d (.int 0)), x10, x11, x12] (S ++ [.dead])) ?_ ⟨_, _, .inr rfl, ⟨B, fun j => if j = 6 then some (.d (.int s)) else if j = 7 then some (.d (.list (L.map .int))) else if j = 8 then F 8 else if j = 9 then some (.d (.int 0)) else if j = 10 then x10 else if j = 11 then x11 else x12, fun b hb' => by have := hB b hb'; omega, rfl⟩, _, t1.mono (by omega)⟩
      simp only [wq, List.map_nil, en, n0, mi, n1, startE, rb_ok, rb_exc, rs_ok, rs_exc, s_seq, seq_nx, seq_rt, seq_bk, seq_ct, seq_exc, nxO_s, s_asg, s_par, s_par3, s_ret, s_expr, s_next, s_bk, s_ct, s_raise, s_if, ifS_t, ifS_f, ifS_exc, s_for, eVar, e_c, wOf_s, rOf_s, bOf_s, e_ix, asD_d, ob_s, om_s, e_d1, e_d2, e_dN, asDs_1, asDs_2, bvO_s, e_t, o1_s, o2_s, a_nil, a_cons, prO_ok, prO_exc, e_cp, e_cg, call_1, call_2, call_3, call_4, call_5, call_6, b_not, b_and, b_or, andB_t, andB_f, orB_t, orB_f, b_tr, truW_b, e_if, ifE_t, ifE_f, e_isN, e_notN, e_notV, notV_s, e_andV, andV_t, andV_f, e_ch, chO_t, chO_f, e_sl, o_no, o_yes, oiO_s, sl_t, sl_l, i_zip, zipI_t, zipI_l, add_ii, sub_ii, neg_i, lt_ii, le_ii, gt_ii, ge_ii, eq_ii, ne_ii, eq_ss, ne_ss, eq_bb, ne_bb, len_t, len_l, min_ii, max_ii, int_i, int_b, tup_l, tup_t, lst_l, lst_t, sum_ints, e_tup, e_lst, itO_s, i_any, itA_t, itA_l, i_r1, i_r2, bindT, bindTs, unpk_t, un_L, un_P, mkSq, allD, wipeE, LINE, List.map_cons, List.map_nil, List.length_cons, List.length_nil, List.replicate, List.cons_append, List.nil_append, Nat.sub_self, Nat.reduceSub, Nat.reduceAdd, List.getElem?_cons_zero, List.getElem?_cons_succ, List.set_cons_zero, List.set_cons_succ, reduceIte, Bool.false_eq_true, Bool.not_true, Bool.not_false, Nat.reduceLeDiff, if_true, if_false, decide_true, decide_false, e_slS, s_asgL, nxL_s, itL_l]
    · have en : oEq (.tuple ((wk p).map .int)) (.tuple []) = some (.bool false) := by
        rw [eq_nil (sh_ints _)]
        cases h : wk p with
        | nil => exact absurd h hw
        | cons _ _ => rfl
      apply step
      · simp only [wq, en, startE, rb_ok, rb_exc, rs_ok, rs_exc, s_seq, seq_nx, seq_rt, seq_bk, seq_ct, seq_exc, nxO_s, s_asg, s_par, s_par3, s_ret, s_expr, s_next, s_bk, s_ct, s_raise, s_if, ifS_t, ifS_f, ifS_exc, s_for, eVar, e_c, wOf_s, rOf_s, bOf_s, e_ix, asD_d, ob_s, om_s, e_d1, e_d2, e_dN, asDs_1, asDs_2, bvO_s, e_t, o1_s, o2_s, a_nil, a_cons, prO_ok, prO_exc, e_cp, e_cg, call_1, call_2, call_3, call_4, call_5, call_6, b_not, b_and, b_or, andB_t, andB_f, orB_t, orB_f, b_tr, truW_b, e_if, ifE_t, ifE_f, e_isN, e_notN, e_notV, notV_s, e_andV, andV_t, andV_f, e_ch, chO_t, chO_f, e_sl, o_no, o_yes, oiO_s, sl_t, sl_l, i_zip, zipI_t, zipI_l, add_ii, sub_ii, neg_i, lt_ii, le_ii, gt_ii, ge_ii, eq_ii, ne_ii, eq_ss, ne_ss, eq_bb, ne_bb, len_t, len_l, min_ii, max_ii, int_i, int_b, tup_l, tup_t, lst_l, lst_t, sum_ints, e_tup, e_lst, itO_s, i_any, itA_t, itA_l, i_r1, i_r2, bindT, bindTs, unpk_t, un_L, un_P, mkSq, allD, wipeE, LINE, List.map_cons, List.map_nil, List.length_cons, List.length_nil, List.replicate, List.cons_append, List.nil_append, Nat.sub_self, Nat.reduceSub, Nat.reduceAdd, List.getElem?_cons_zero, List.getElem?_cons_succ, List.set_cons_zero, List.set_cons_succ, reduceIte, Bool.false_eq_true, Bool.not_true, Bool.not_false, Nat.reduceLeDiff, if_true, if_false, decide_true, decide_false, e_slS, s_asgL, nxL_s, itL_l]
        try rfl
      obtain ⟨ρ2, S2, e, ⟨F2, rfl⟩, t2⟩ := rest1 hs g h31 n60 hw s0 Ln (by
        intro y hy
        rw [hL] at hy
        obtain ⟨z, hz, rfl⟩ := List.mem_map.mp hy
        have rf := rgS_mem hb.1 hz
        exact least_le hb.1 s0 (ch_rng hb.1 rf.1 rf.2) (ch_near hb.1 rf.1 rf.2 s0)) hB hn t1 x2 (F 8) x10 x11 x12
      exact fin e ⟨_, _, .inl rfl, ⟨some (leastP p s), F2, fun b hb' => by cases hb'; exact mono, rfl⟩, _, t2⟩
theorem turn4 {ns : List Int} (hs : ns.length ≤ 1000) {n : Nat} (hn : n < 600000) {T S : Store} (t : Tn n T S) (f : Nat → Option Wv) :
    Gs l4_law [some (.d (dS ns)), some (.o 0), f 2, f 3, f 4, f 5, f 6, f 7, f 8, f 9, f 10, f 11, f 12] S (Nx fun ρ S' => (∃ f : Nat → Option Wv, ρ = [some (.d (dS ns)), some (.o 0), f 2, f 3, f 4, f 5, f 6, f 7, f 8, f 9, f 10, f 11, f 12]) ∧ ∃ T', Tn (n + 4000) T' S') := by
  obtain ⟨p, S1, pe, g, p4, p40, pl1, pl5, lt, t1⟩ := plan_ok (hi := 30) t hs (by omega) (by omega) (by omega)
  have s4 : small 4 := by decide
  apply step
  · simp only [pe, startE, rb_ok, rb_exc, rs_ok, rs_exc, s_seq, seq_nx, seq_rt, seq_bk, seq_ct, seq_exc, nxO_s, s_asg, s_par, s_par3, s_ret, s_expr, s_next, s_bk, s_ct, s_raise, s_if, ifS_t, ifS_f, ifS_exc, s_for, eVar, e_c, wOf_s, rOf_s, bOf_s, e_ix, asD_d, ob_s, om_s, e_d1, e_d2, e_dN, asDs_1, asDs_2, bvO_s, e_t, o1_s, o2_s, a_nil, a_cons, prO_ok, prO_exc, e_cp, e_cg, call_1, call_2, call_3, call_4, call_5, call_6, b_not, b_and, b_or, andB_t, andB_f, orB_t, orB_f, b_tr, truW_b, e_if, ifE_t, ifE_f, e_isN, e_notN, e_notV, notV_s, e_andV, andV_t, andV_f, e_ch, chO_t, chO_f, e_sl, o_no, o_yes, oiO_s, sl_t, sl_l, i_zip, zipI_t, zipI_l, add_ii, sub_ii, neg_i, lt_ii, le_ii, gt_ii, ge_ii, eq_ii, ne_ii, eq_ss, ne_ss, eq_bb, ne_bb, len_t, len_l, min_ii, max_ii, int_i, int_b, tup_l, tup_t, lst_l, lst_t, sum_ints, e_tup, e_lst, itO_s, i_any, itA_t, itA_l, i_r1, i_r2, bindT, bindTs, unpk_t, un_L, un_P, mkSq, allD, wipeE, LINE, List.map_cons, List.map_nil, List.length_cons, List.length_nil, List.replicate, List.cons_append, List.nil_append, Nat.sub_self, Nat.reduceSub, Nat.reduceAdd, List.getElem?_cons_zero, List.getElem?_cons_succ, List.set_cons_zero, List.set_cons_succ, reduceIte, Bool.false_eq_true, Bool.not_true, Bool.not_false, Nat.reduceLeDiff, if_true, if_false, decide_true, decide_false, e_slS, s_asgL, nxL_s, itL_l]
    try rfl
  apply step
  · simp only [ix_P0, startE, rb_ok, rb_exc, rs_ok, rs_exc, s_seq, seq_nx, seq_rt, seq_bk, seq_ct, seq_exc, nxO_s, s_asg, s_par, s_par3, s_ret, s_expr, s_next, s_bk, s_ct, s_raise, s_if, ifS_t, ifS_f, ifS_exc, s_for, eVar, e_c, wOf_s, rOf_s, bOf_s, e_ix, asD_d, ob_s, om_s, e_d1, e_d2, e_dN, asDs_1, asDs_2, bvO_s, e_t, o1_s, o2_s, a_nil, a_cons, prO_ok, prO_exc, e_cp, e_cg, call_1, call_2, call_3, call_4, call_5, call_6, b_not, b_and, b_or, andB_t, andB_f, orB_t, orB_f, b_tr, truW_b, e_if, ifE_t, ifE_f, e_isN, e_notN, e_notV, notV_s, e_andV, andV_t, andV_f, e_ch, chO_t, chO_f, e_sl, o_no, o_yes, oiO_s, sl_t, sl_l, i_zip, zipI_t, zipI_l, add_ii, sub_ii, neg_i, lt_ii, le_ii, gt_ii, ge_ii, eq_ii, ne_ii, eq_ss, ne_ss, eq_bb, ne_bb, len_t, len_l, min_ii, max_ii, int_i, int_b, tup_l, tup_t, lst_l, lst_t, sum_ints, e_tup, e_lst, itO_s, i_any, itA_t, itA_l, i_r1, i_r2, bindT, bindTs, unpk_t, un_L, un_P, mkSq, allD, wipeE, LINE, List.map_cons, List.map_nil, List.length_cons, List.length_nil, List.replicate, List.cons_append, List.nil_append, Nat.sub_self, Nat.reduceSub, Nat.reduceAdd, List.getElem?_cons_zero, List.getElem?_cons_succ, List.set_cons_zero, List.set_cons_succ, reduceIte, Bool.false_eq_true, Bool.not_true, Bool.not_false, Nat.reduceLeDiff, if_true, if_false, decide_true, decide_false, e_slS, s_asgL, nxL_s, itL_l]
    try rfl
  have lp := for_finC (it := iR1 (aCons (eC (.int 4)) aNil)) (tg := .nm 6) (body := l3_law) (ρ := [some (.d (dS ns)), some (.o 0), f 2, some (.d (dP p)), some (.d (.int p.1)), some (.d .none), f 6, f 7, f 8, f 9, f 10, f 11, f 12]) (S := S1) (S' := S1) (List.range 4) (fun i : Nat => .d (.int (0 + (i : Int))))
    (fun i ρ S => (∃ (B : Option Int) (F : Nat → Option Wv), (∀ b, B = some b → leastP p (0 + (i : Int)) ≤ b) ∧ ρ = [some (.d (dS ns)), some (.o 0), f 2, some (.d (dP p)), some (.d (.int p.1)), some (.d (bD B)), F 6, F 7, F 8, F 9, F 10, F 11, F 12]) ∧ ∃ T', Tn (n + 40 + 400 * i) T' S) (by simp only [r1O_s s4, startE, rb_ok, rb_exc, rs_ok, rs_exc, s_seq, seq_nx, seq_rt, seq_bk, seq_ct, seq_exc, nxO_s, s_asg, s_par, s_par3, s_ret, s_expr, s_next, s_bk, s_ct, s_raise, s_if, ifS_t, ifS_f, ifS_exc, s_for, eVar, e_c, wOf_s, rOf_s, bOf_s, e_ix, asD_d, ob_s, om_s, e_d1, e_d2, e_dN, asDs_1, asDs_2, bvO_s, e_t, o1_s, o2_s, a_nil, a_cons, prO_ok, prO_exc, e_cp, e_cg, call_1, call_2, call_3, call_4, call_5, call_6, b_not, b_and, b_or, andB_t, andB_f, orB_t, orB_f, b_tr, truW_b, e_if, ifE_t, ifE_f, e_isN, e_notN, e_notV, notV_s, e_andV, andV_t, andV_f, e_ch, chO_t, chO_f, e_sl, o_no, o_yes, oiO_s, sl_t, sl_l, i_zip, zipI_t, zipI_l, add_ii, sub_ii, neg_i, lt_ii, le_ii, gt_ii, ge_ii, eq_ii, ne_ii, eq_ss, ne_ss, eq_bb, ne_bb, len_t, len_l, min_ii, max_ii, int_i, int_b, tup_l, tup_t, lst_l, lst_t, sum_ints, e_tup, e_lst, itO_s, i_any, itA_t, itA_l, i_r1, i_r2, bindT, bindTs, unpk_t, un_L, un_P, mkSq, allD, wipeE, LINE, List.map_cons, List.map_nil, List.length_cons, List.length_nil, List.replicate, List.cons_append, List.nil_append, Nat.sub_self, Nat.reduceSub, Nat.reduceAdd, List.getElem?_cons_zero, List.getElem?_cons_succ, List.set_cons_zero, List.set_cons_succ, reduceIte, Bool.false_eq_true, Bool.not_true, Bool.not_false, Nat.reduceLeDiff, if_true, if_false, decide_true, decide_false, e_slS, s_asgL, nxL_s, itL_l]; rfl) ⟨⟨none, f, (fun b h => by cases h), rfl⟩, T, t1⟩ (by
      rintro i k hi ρ S ⟨⟨B, F, hB, rfl⟩, T', t'⟩
      have il := (List.getElem?_eq_some_iff.mp hi).1
      rw [List.length_range] at il
      rw [List.getElem?_range il] at hi
      cases hi
      refine ⟨_, rfl, ?_⟩
      obtain ⟨ρ2, S2, e, ⟨B2, F2, hB2, rfl⟩, T2, t2⟩ := turn3 hs g (by omega) (by omega) (s := 0 + (i : Int)) (by omega) (by omega) hB (by omega) t' (f 2) (F 7) (F 8) (F 9) (F 10) (F 11) (F 12)
      exact ⟨_, _, e, ⟨B2, F2, fun b h => by have := hB2 b h; rwa [show 0 + (i : Int) + 1 = 0 + ((i + 1 : Nat) : Int) by omega] at this, rfl⟩, T2, t2.mono (by omega)⟩)
  obtain ⟨ρ2, S2, e, ⟨B2, F, hB2, rfl⟩, T2, t2⟩ := lp
  exact fin e ⟨_, _, rfl, slots rfl, T2, t2.mono (by rw [List.length_range]; omega)⟩
theorem holds (ns : List Int) (hs : ns.length ≤ 63) : f_law [.list (ns.map .int)] = .ok (.bool true) := by
  have hs' : ns.length ≤ 1000 := by omega
  have s4 : small 4 := by decide
  have e0 : (PyData.list (ns.map .int)) = dS ns := rfl
  refine runP_gs ?_
  simp only [startE, e0, startE, rb_ok, rb_exc, rs_ok, rs_exc, s_seq, seq_nx, seq_rt, seq_bk, seq_ct, seq_exc, nxO_s, s_asg, s_par, s_par3, s_ret, s_expr, s_next, s_bk, s_ct, s_raise, s_if, ifS_t, ifS_f, ifS_exc, s_for, eVar, e_c, wOf_s, rOf_s, bOf_s, e_ix, asD_d, ob_s, om_s, e_d1, e_d2, e_dN, asDs_1, asDs_2, bvO_s, e_t, o1_s, o2_s, a_nil, a_cons, prO_ok, prO_exc, e_cp, e_cg, call_1, call_2, call_3, call_4, call_5, call_6, b_not, b_and, b_or, andB_t, andB_f, orB_t, orB_f, b_tr, truW_b, e_if, ifE_t, ifE_f, e_isN, e_notN, e_notV, notV_s, e_andV, andV_t, andV_f, e_ch, chO_t, chO_f, e_sl, o_no, o_yes, oiO_s, sl_t, sl_l, i_zip, zipI_t, zipI_l, add_ii, sub_ii, neg_i, lt_ii, le_ii, gt_ii, ge_ii, eq_ii, ne_ii, eq_ss, ne_ss, eq_bb, ne_bb, len_t, len_l, min_ii, max_ii, int_i, int_b, tup_l, tup_t, lst_l, lst_t, sum_ints, e_tup, e_lst, itO_s, i_any, itA_t, itA_l, i_r1, i_r2, bindT, bindTs, unpk_t, un_L, un_P, mkSq, allD, wipeE, LINE, List.map_cons, List.map_nil, List.length_cons, List.length_nil, List.replicate, List.cons_append, List.nil_append, Nat.sub_self, Nat.reduceSub, Nat.reduceAdd, List.getElem?_cons_zero, List.getElem?_cons_succ, List.set_cons_zero, List.set_cons_succ, reduceIte, Bool.false_eq_true, Bool.not_true, Bool.not_false, Nat.reduceLeDiff, if_true, if_false, decide_true, decide_false, e_slS, s_asgL, nxL_s, itL_l]
  apply step
  · simp only [e_newL0, startE, rb_ok, rb_exc, rs_ok, rs_exc, s_seq, seq_nx, seq_rt, seq_bk, seq_ct, seq_exc, nxO_s, s_asg, s_par, s_par3, s_ret, s_expr, s_next, s_bk, s_ct, s_raise, s_if, ifS_t, ifS_f, ifS_exc, s_for, eVar, e_c, wOf_s, rOf_s, bOf_s, e_ix, asD_d, ob_s, om_s, e_d1, e_d2, e_dN, asDs_1, asDs_2, bvO_s, e_t, o1_s, o2_s, a_nil, a_cons, prO_ok, prO_exc, e_cp, e_cg, call_1, call_2, call_3, call_4, call_5, call_6, b_not, b_and, b_or, andB_t, andB_f, orB_t, orB_f, b_tr, truW_b, e_if, ifE_t, ifE_f, e_isN, e_notN, e_notV, notV_s, e_andV, andV_t, andV_f, e_ch, chO_t, chO_f, e_sl, o_no, o_yes, oiO_s, sl_t, sl_l, i_zip, zipI_t, zipI_l, add_ii, sub_ii, neg_i, lt_ii, le_ii, gt_ii, ge_ii, eq_ii, ne_ii, eq_ss, ne_ss, eq_bb, ne_bb, len_t, len_l, min_ii, max_ii, int_i, int_b, tup_l, tup_t, lst_l, lst_t, sum_ints, e_tup, e_lst, itO_s, i_any, itA_t, itA_l, i_r1, i_r2, bindT, bindTs, unpk_t, un_L, un_P, mkSq, allD, wipeE, LINE, List.map_cons, List.map_nil, List.length_cons, List.length_nil, List.replicate, List.cons_append, List.nil_append, Nat.sub_self, Nat.reduceSub, Nat.reduceAdd, List.getElem?_cons_zero, List.getElem?_cons_succ, List.set_cons_zero, List.set_cons_succ, reduceIte, Bool.false_eq_true, Bool.not_true, Bool.not_false, Nat.reduceLeDiff, if_true, if_false, decide_true, decide_false, e_slS, s_asgL, nxL_s, itL_l]
    try rfl
  refine for_step (List.range 4) (fun i : Nat => Wv.d (.int (0 + (i : Int)))) (fun i ρ S => (∃ f : Nat → Option Wv, ρ = [some (.d (dS ns)), some (.o 0), f 2, f 3, f 4, f 5, f 6, f 7, f 8, f 9, f 10, f 11, f 12]) ∧ ∃ T, Tn (4000 * i) T S) ?_ ⟨slots rfl, [], tn0⟩ ?_ ?_
  · simp only [r1O_s s4, startE, rb_ok, rb_exc, rs_ok, rs_exc, s_seq, seq_nx, seq_rt, seq_bk, seq_ct, seq_exc, nxO_s, s_asg, s_par, s_par3, s_ret, s_expr, s_next, s_bk, s_ct, s_raise, s_if, ifS_t, ifS_f, ifS_exc, s_for, eVar, e_c, wOf_s, rOf_s, bOf_s, e_ix, asD_d, ob_s, om_s, e_d1, e_d2, e_dN, asDs_1, asDs_2, bvO_s, e_t, o1_s, o2_s, a_nil, a_cons, prO_ok, prO_exc, e_cp, e_cg, call_1, call_2, call_3, call_4, call_5, call_6, b_not, b_and, b_or, andB_t, andB_f, orB_t, orB_f, b_tr, truW_b, e_if, ifE_t, ifE_f, e_isN, e_notN, e_notV, notV_s, e_andV, andV_t, andV_f, e_ch, chO_t, chO_f, e_sl, o_no, o_yes, oiO_s, sl_t, sl_l, i_zip, zipI_t, zipI_l, add_ii, sub_ii, neg_i, lt_ii, le_ii, gt_ii, ge_ii, eq_ii, ne_ii, eq_ss, ne_ss, eq_bb, ne_bb, len_t, len_l, min_ii, max_ii, int_i, int_b, tup_l, tup_t, lst_l, lst_t, sum_ints, e_tup, e_lst, itO_s, i_any, itA_t, itA_l, i_r1, i_r2, bindT, bindTs, unpk_t, un_L, un_P, mkSq, allD, wipeE, LINE, List.map_cons, List.map_nil, List.length_cons, List.length_nil, List.replicate, List.cons_append, List.nil_append, Nat.sub_self, Nat.reduceSub, Nat.reduceAdd, List.getElem?_cons_zero, List.getElem?_cons_succ, List.set_cons_zero, List.set_cons_succ, reduceIte, Bool.false_eq_true, Bool.not_true, Bool.not_false, Nat.reduceLeDiff, if_true, if_false, decide_true, decide_false, e_slS, s_asgL, nxL_s, itL_l]; rfl
  · rintro i x hx ρ S ⟨⟨f, rfl⟩, T, t'⟩
    have hi : i < 4 := by have := (List.getElem?_eq_some_iff.mp hx).1; simpa using this
    refine ⟨_, rfl, ?_⟩
    obtain ⟨ρ2, S2, e, ⟨f2, rfl⟩, T2, t2⟩ := turn4 hs' (by omega) t' (fun j => if j = 2 then some (.d (.int (0 + (x : Int)))) else f j)
    exact ⟨_, _, e, slots rfl, T2, t2.mono (by omega)⟩
  · rintro ρ S ⟨⟨f, rfl⟩, -⟩
    apply fin
    · simp only [startE, rb_ok, rb_exc, rs_ok, rs_exc, s_seq, seq_nx, seq_rt, seq_bk, seq_ct, seq_exc, nxO_s, s_asg, s_par, s_par3, s_ret, s_expr, s_next, s_bk, s_ct, s_raise, s_if, ifS_t, ifS_f, ifS_exc, s_for, eVar, e_c, wOf_s, rOf_s, bOf_s, e_ix, asD_d, ob_s, om_s, e_d1, e_d2, e_dN, asDs_1, asDs_2, bvO_s, e_t, o1_s, o2_s, a_nil, a_cons, prO_ok, prO_exc, e_cp, e_cg, call_1, call_2, call_3, call_4, call_5, call_6, b_not, b_and, b_or, andB_t, andB_f, orB_t, orB_f, b_tr, truW_b, e_if, ifE_t, ifE_f, e_isN, e_notN, e_notV, notV_s, e_andV, andV_t, andV_f, e_ch, chO_t, chO_f, e_sl, o_no, o_yes, oiO_s, sl_t, sl_l, i_zip, zipI_t, zipI_l, add_ii, sub_ii, neg_i, lt_ii, le_ii, gt_ii, ge_ii, eq_ii, ne_ii, eq_ss, ne_ss, eq_bb, ne_bb, len_t, len_l, min_ii, max_ii, int_i, int_b, tup_l, tup_t, lst_l, lst_t, sum_ints, e_tup, e_lst, itO_s, i_any, itA_t, itA_l, i_r1, i_r2, bindT, bindTs, unpk_t, un_L, un_P, mkSq, allD, wipeE, LINE, List.map_cons, List.map_nil, List.length_cons, List.length_nil, List.replicate, List.cons_append, List.nil_append, Nat.sub_self, Nat.reduceSub, Nat.reduceAdd, List.getElem?_cons_zero, List.getElem?_cons_succ, List.set_cons_zero, List.set_cons_succ, reduceIte, Bool.false_eq_true, Bool.not_true, Bool.not_false, Nat.reduceLeDiff, if_true, if_false, decide_true, decide_false, e_slS, s_asgL, nxL_s, itL_l]
      try rfl
    exact ⟨_, rfl⟩
end PL.K16

namespace PL.K16
open PySem PySem.Spec PyProof.Rows L2 PL
theorem fin {P : Program} {w : World} {K : PySem.W.Frag} {mg : Str → Option Value} (B : Bt K mg) (D_apart : DefAt K mg "apart" s_apart p_apart) (D_line_of : DefAt K mg "line_of" s_line_of p_line_of) (D_line_edges : DefAt K mg "line_edges" s_line_edges p_line_edges) (D_wakes : DefAt K mg "wakes" s_wakes p_wakes) (D_chain : DefAt K mg "chain" s_chain p_chain) (D_is_near : DefAt K mg "is_near" s_is_near p_is_near) (D_turned : DefAt K mg "turned" s_turned p_turned) (D__law_chain_holds : DefAt K mg "_law_chain_holds" s__law_chain_holds p__law_chain_holds) (D__law_draw : DefAt K mg "_law_draw" s__law_draw p__law_draw) (D__law_pick : DefAt K mg "_law_pick" s__law_pick p__law_pick) (D__law_plan : DefAt K mg "_law_plan" s__law_plan p__law_plan) (D_least_many : DefAt K mg "least_many" s_least_many p_least_many) (D_law : DefAt K mg "law" s_law p_law) : DefAt K mg "law" s_law p_law ∧ ∀ (base : Heap) (f : Addr) (fd : FuncData), Fun K "law" "law" s_law f fd → FnOk P w K mg base (L2.CX P w) 6 f fd p_law (spP K (ctOf mg) 1 f_law) := by
  refine ⟨D_law, fun base f fd FF => ?_⟩
  have G_apart := w_apart (P := P) (w := w) (base := base) B  D_apart
  have G_line_of := w_line_of (P := P) (w := w) (base := base) B  D_line_of
  have G_line_edges := w_line_edges (P := P) (w := w) (base := base) B G_line_of D_line_edges
  have G_wakes := w_wakes (P := P) (w := w) (base := base) B G_line_edges D_wakes
  have G_chain := w_chain (P := P) (w := w) (base := base) B G_apart G_wakes D_chain
  have G_is_near := w_is_near (P := P) (w := w) (base := base) B G_apart G_wakes D_is_near
  have G_turned := w_turned (P := P) (w := w) (base := base) B  D_turned
  have G__law_chain_holds := w__law_chain_holds (P := P) (w := w) (base := base) B G_chain G_is_near G_turned D__law_chain_holds
  have G__law_draw := w__law_draw (P := P) (w := w) (base := base) B  D__law_draw
  have G__law_pick := w__law_pick (P := P) (w := w) (base := base) B G__law_draw D__law_pick
  have G__law_plan := w__law_plan (P := P) (w := w) (base := base) B G__law_draw G__law_pick D__law_plan
  have G_least_many := w_least_many (P := P) (w := w) (base := base) B G_chain G_wakes D_least_many
  exact w_law B G__law_chain_holds G__law_draw G__law_plan G_chain G_is_near G_least_many G_wakes FF
end PL.K16
open PySem PySem.W PyProof.Rows
set_option maxRecDepth 100000 in
set_option maxHeartbeats 0 in
theorem PySem.Challenge.cw_pulselines_k16_whole_chains_of_wakings_holds : PySem.Challenge.rw_pulselines_k16_whole_chains_of_wakings.Holds := by
  w_on; o_law; k_head; (case hw => w_witness2)
  k_fill
  refine PL.walkEnd (l := PySem.Challenge.rw_pulselines_k16_whole_chains_of_wakings) (k := 6) (x := "_law_script") (st := PL.K16.s_law) (G := PL.K16.f_law) rfl rfl ⟨rfl, by decide, by decide⟩ rfl (fun w h Y => PySem.W.kIn_of Y) (fun _ _ _ _ _ _ us hl => match us, hl with | [_], _ => rfl) ?F PL.K16.holds
  case F =>
    intro w mg h KX G
    refine' PL.K16.fin ?B ?D_apart ?D_line_of ?D_line_edges ?D_wakes ?D_chain ?D_is_near ?D_turned ?D__law_chain_holds ?D__law_draw ?D__law_pick ?D__law_plan ?D_least_many ?D_law
    (case B =>
      refine' ⟨?b0, ?b1, ?b2, ?b3, ?b4, ?b5, ?b6, ?b7, ?b8, ?b9⟩
      (case b0 => refine' PL.exc_mk KX G ?a ?x ?k ?b ?t; (case a => k_is); (case x => k_exc); (case k => k_is); (case b => k_is); (case t => k_is))
      (case b1 => refine' PL.none_mk KX G ?z; (case z => k_is))
      (case b2 => refine' PL.none_mk KX G ?z; (case z => k_is))
      (case b3 => refine' PL.none_mk KX G ?z; (case z => k_is))
      (case b4 => refine' PL.none_mk KX G ?z; (case z => k_is))
      (case b5 => refine' PL.none_mk KX G ?z; (case z => k_is))
      (case b6 => refine' PL.none_mk KX G ?z; (case z => k_is))
      (case b7 => refine' PL.none_mk KX G ?z; (case z => k_is))
      (case b8 => refine' PL.none_mk KX G ?z; (case z => k_is))
      (case b9 => refine' PL.none_mk KX G ?z; (case z => k_is)))
    (case D_apart =>
      refine' PL.defAt_mk KX G ?a ?l ?c ?k (fun _ _ _ _ _ _ us hl => match us, hl with | [_, _, _], _ => rfl)
      (case a => k_is); (case l => k_is); (case c => k_is); (case k => k_is))
    (case D_line_of =>
      refine' PL.defAt_mk KX G ?a ?l ?c ?k (fun _ _ _ _ _ _ us hl => match us, hl with | [_, _], _ => rfl)
      (case a => k_is); (case l => k_is); (case c => k_is); (case k => k_is))
    (case D_line_edges =>
      refine' PL.defAt_mk KX G ?a ?l ?c ?k (fun _ _ _ _ _ _ us hl => match us, hl with | [_, _], _ => rfl)
      (case a => k_is); (case l => k_is); (case c => k_is); (case k => k_is))
    (case D_wakes =>
      refine' PL.defAt_mk KX G ?a ?l ?c ?k (fun _ _ _ _ _ _ us hl => match us, hl with | [_], _ => rfl)
      (case a => k_is); (case l => k_is); (case c => k_is); (case k => k_is))
    (case D_chain =>
      refine' PL.defAt_mk KX G ?a ?l ?c ?k (fun _ _ _ _ _ _ us hl => match us, hl with | [_, _, _], _ => rfl)
      (case a => k_is); (case l => k_is); (case c => k_is); (case k => k_is))
    (case D_is_near =>
      refine' PL.defAt_mk KX G ?a ?l ?c ?k (fun _ _ _ _ _ _ us hl => match us, hl with | [_, _, _], _ => rfl)
      (case a => k_is); (case l => k_is); (case c => k_is); (case k => k_is))
    (case D_turned =>
      refine' PL.defAt_mk KX G ?a ?l ?c ?k (fun _ _ _ _ _ _ us hl => match us, hl with | [_, _], _ => rfl)
      (case a => k_is); (case l => k_is); (case c => k_is); (case k => k_is))
    (case D__law_chain_holds =>
      refine' PL.defAt_mk KX G ?a ?l ?c ?k (fun _ _ _ _ _ _ us hl => match us, hl with | [_, _, _], _ => rfl)
      (case a => k_is); (case l => k_is); (case c => k_is); (case k => k_is))
    (case D__law_draw =>
      refine' PL.defAt_mk KX G ?a ?l ?c ?k (fun _ _ _ _ _ _ us hl => match us, hl with | [_, _, _], _ => rfl)
      (case a => k_is); (case l => k_is); (case c => k_is); (case k => k_is))
    (case D__law_pick =>
      refine' PL.defAt_mk KX G ?a ?l ?c ?k (fun _ _ _ _ _ _ us hl => match us, hl with | [_, _, _], _ => rfl)
      (case a => k_is); (case l => k_is); (case c => k_is); (case k => k_is))
    (case D__law_plan =>
      refine' PL.defAt_mk KX G ?a ?l ?c ?k (fun _ _ _ _ _ _ us hl => match us, hl with | [_, _, _], _ => rfl)
      (case a => k_is); (case l => k_is); (case c => k_is); (case k => k_is))
    (case D_least_many =>
      refine' PL.defAt_mk KX G ?a ?l ?c ?k (fun _ _ _ _ _ _ us hl => match us, hl with | [_, _], _ => rfl)
      (case a => k_is); (case l => k_is); (case c => k_is); (case k => k_is))
    (case D_law =>
      refine' PL.defAt_mk KX G ?a ?l ?c ?k (fun _ _ _ _ _ _ us hl => match us, hl with | [_], _ => rfl)
      (case a => k_is); (case l => k_is); (case c => k_is); (case k => k_is))
#print axioms PySem.Challenge.cw_pulselines_k16_whole_chains_of_wakings_holds
