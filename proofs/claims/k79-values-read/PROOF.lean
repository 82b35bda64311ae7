import PyProof.Rows.All
import Wide.All
import OpenK.AllK
import Wide.FinOn
import HandS.ForMost
import HandS.ForExc
import HandS.Codes
import HandS.IsInst
import HandS.Style
import HandS.ReplaceLit
import HandS.Conv
import HandS.Wide
import HandS.Flow
import HandS.FStr
import HandS.RaiseMore
import HandS.Zip
import HandS.More
import HandS.Finally
import KE.KStateDown
import HandS.Ends
import HandS.Defaults
import HandS.Head0
import HandS.Head1
import HandS.Head2
import HandS.HeadEnd
import HandS.HeadHook1
import HandS.HeadHook2
import HandS.ReplaceList
import KE.KIntText
import PySem.Challenge.RW_leastform_k79_values_read
set_option Elab.async false
set_option linter.all false
set_option maxRecDepth 99999
set_option maxHeartbeats 0
/-! DL: values as trees. A layer of my own over HandS: a Python value is a tree D; a list or dict that only this frame holds is marked own and may be changed; all else stays. -/
namespace DL
open PySem L2

inductive D where
  | non | bl (b : Bool) | int (i : Int) | str (x : List Nat)
  | tup (xs : List D) | lst (o : Bool) (xs : List D) | dic (o : Bool) (ks : List (List Nat)) (xs : List D) | scr (ns : List Int) | otu (xs : List D)
  deriving Inhabited

/-- a text by its signs -/
abbrev Sx (l : List Nat) : Str := ⟨l.toArray⟩
abbrev kx (l : List Nat) : Key := Sum.inr (Sx l)
abbrev AS := Addr → Prop
abbrev noS : AS := fun _ => False

/-- a tuple of the written part -/
def WrT (K : PySem.W.Frag) (a : Addr) (vs : List V) : Prop :=
  ∃ (o : Obj) (its : Array Value) (n : Nat), K.lookup a = some o ∧ o.cls = .type "tuple" ∧ o.data = .seq its n ∧ its.size ≤ sizeLine ∧ Vals vs its.toList

/-- a list of the written part -/
def WrL (K : PySem.W.Frag) (a : Addr) (vs : List V) : Prop :=
  ∃ (o : Obj) (its : Array Value) (n : Nat), K.lookup a = some o ∧ o.cls = .type "list" ∧ o.dict = none ∧ o.data = .seq its n ∧ its.size ≤ sizeLine ∧ Vals vs its.toList
section
variable (K : PySem.W.Frag) (H : Hp) (W : AS)
def TupAt (a : Addr) (vs : List V) : Prop := (Rd H a (.tup vs) ∧ ¬ W a) ∨ WrT K a vs
def LstAt (o : Bool) (S : AS) (a : Addr) (vs : List V) : Prop := match o with
  | false => H a = some (.lst vs) ∧ ¬ W a
  | true => H a = some (.lst vs) ∧ S a
def DicAt (o : Bool) (S : AS) (a : Addr) (kvs : List (Key × V)) : Prop := match o with
  | false => Rd H a (.dK kvs) ∧ ¬ W a
  | true => H a = some (.dK kvs) ∧ S a
def sub (o : Bool) (S : AS) (a : Addr) : AS := match o with
  | false => noS
  | true => fun b => S b ∧ b ≠ a
mutual
/-- v is the tree d; what of it is own lies within S; nothing of the rest lies within W -/
def Rp : D → AS → V → Prop
  | .non, _, v => v = .non
  | .bl b, _, v => v = .bl b
  | .int i, _, v => v = .int i
  | .str x, _, v => v = .str (Sx x)
  | .tup ds, _, v => ∃ a vs, v = .ref a ∧ TupAt K H W a vs ∧ Rps ds noS vs
  | .lst o ds, S, v => ∃ a vs, v = .ref a ∧ LstAt H W o S a vs ∧ Rps ds (sub o S a) vs
  | .otu ds, S, v => ∃ a vs, v = .ref a ∧ (Rd H a (.tup vs) ∧ ¬ W a) ∧ Rps ds S vs
  | .scr ns, _, v => ∃ a, v = .ref a ∧ ((Rd H a (.lst (ns.map V.int)) ∧ ¬ W a) ∨ WrL K a (ns.map V.int))
  | .dic o ks ds, S, v => ∃ a kvs, v = .ref a ∧ DicAt H W o S a kvs ∧ kvs.map (·.1) = ks.map kx ∧ ks.Nodup ∧ Rps ds (sub o S a) (kvs.map (·.2))
def Rps : List D → AS → List V → Prop
  | [], _, vs => vs = []
  | d :: ds, S, vs => ∃ v vr S1 S2, vs = v :: vr ∧ (∀ b, S1 b → S b) ∧ (∀ b, S2 b → S b) ∧ (∀ b, S1 b → ¬ S2 b) ∧ Rp d S1 v ∧ Rps ds S2 vr
end
end

mutual
def frz : D → D
  | .lst _ ds => .lst false (frzs ds)
  | .dic _ ks ds => .dic false ks (frzs ds)
  | .tup ds => .tup ds
  | .otu ds => .tup (frzs ds)
  | d => d
def frzs : List D → List D
  | [] => []
  | d :: ds => frz d :: frzs ds
end
mutual
def isFrz : D → Bool
  | .lst o ds => !o && allFrz ds
  | .dic o _ ds => !o && allFrz ds
  | .tup ds => true
  | .otu _ => false
  | _ => true
def allFrz : List D → Bool
  | [] => true
  | d :: ds => isFrz d && allFrz ds
end
theorem frzs_eq : ∀ ds, frzs ds = ds.map frz
  | [] => rfl
  | d :: ds => by rw [frzs, frzs_eq ds]; rfl
theorem allFrz_eq : ∀ ds, allFrz ds = ds.all isFrz
  | [] => rfl
  | d :: ds => by rw [allFrz, allFrz_eq ds]; rfl

section
variable {K : PySem.W.Frag} {H H' : Hp} {W W' S S' U : AS}
/-- what changed lies in U, within W -/
structure Kp (H H' : Hp) (W W' U : AS) : Prop where
  keep : ∀ a o, H a = some o → ¬ U a → H' a = some o
  sub : ∀ a, U a → W a
  new : ∀ a, W' a → W a ∨ H a = none
theorem Kp.wr (k : Kp H H' W W' U) {a : Addr} {u : HO} (h : Rd H a u) (hw : ¬ W a) : Rd H' a u ∧ ¬ W' a := by
  have hu : ¬ U a := fun z => hw (k.sub a z)
  rcases h with h | ⟨o, h⟩
  · exact ⟨.inl (k.keep a _ h hu), fun z => (k.new a z).elim hw fun e => by rw [h] at e; cases e⟩
  · exact ⟨.inr ⟨o, k.keep a _ h hu⟩, fun z => (k.new a z).elim hw fun e => by rw [h] at e; cases e⟩
theorem Kp.wr1 (k : Kp H H' W W' U) {a : Addr} {u : HO} (h : H a = some u) (hw : ¬ W a) : H' a = some u ∧ ¬ W' a := by
  have hu : ¬ U a := fun z => hw (k.sub a z)
  exact ⟨k.keep a _ h hu, fun z => (k.new a z).elim hw fun e => by rw [h] at e; cases e⟩
theorem sub_mono {o : Bool} {a : Addr} (h : ∀ b, S b → S' b) : ∀ b, sub o S a b → sub o S' a b := by
  cases o with
  | false => intro b z; exact z
  | true => intro b z; exact ⟨h b z.1, z.2⟩
theorem sub_sub {o : Bool} {a : Addr} : ∀ b, sub o S a b → S b := by
  cases o with
  | false => intro b z; exact z.elim
  | true => intro b z; exact z.1
mutual
theorem Rp.keep (k : Kp H H' W W' U) : ∀ (d : D) (S S' : AS) (v : V), (∀ b, S b → S' b) → (∀ b, S b → ¬ U b) → Rp K H W d S v → Rp K H' W' d S' v
  | .non, _, _, _, _, _, h => h
  | .bl _, _, _, _, _, _, h => h
  | .int _, _, _, _, _, _, h => h
  | .str _, _, _, _, _, _, h => h
  | .tup ds, S, S', v, hs, hu, h => by
    obtain ⟨a, vs, e, ht, hr⟩ := h
    refine ⟨a, vs, e, ?_, Rps.keep k ds _ _ _ (fun _ z => z) (fun _ z => z.elim) hr⟩
    rcases ht with ⟨h1, h2⟩ | h1
    · exact .inl (k.wr h1 h2)
    · exact .inr h1
  | .otu ds, S, S', v, hs, hu, h => by
    obtain ⟨a, vs, e, ⟨h1, h2⟩, hr⟩ := h
    exact ⟨a, vs, e, k.wr h1 h2, Rps.keep k ds _ _ _ hs hu hr⟩
  | .lst o ds, S, S', v, hs, hu, h => by
    obtain ⟨a, vs, e, ht, hr⟩ := h
    refine ⟨a, vs, e, ?_, Rps.keep k ds _ _ _ (sub_mono hs) (fun b z => hu b (sub_sub b z)) hr⟩
    cases o with
    | false => exact k.wr1 ht.1 ht.2
    | true => exact ⟨k.keep a _ ht.1 (hu a ht.2), hs a ht.2⟩
  | .dic o ks ds, S, S', v, hs, hu, h => by
    obtain ⟨a, vs, e, ht, hk, hn, hr⟩ := h
    refine ⟨a, vs, e, ?_, hk, hn, Rps.keep k ds _ _ _ (sub_mono hs) (fun b z => hu b (sub_sub b z)) hr⟩
    cases o with
    | false => exact k.wr ht.1 ht.2
    | true => exact ⟨k.keep a _ ht.1 (hu a ht.2), hs a ht.2⟩
  | .scr ns, S, S', v, hs, hu, h => by
    obtain ⟨a, e, h1⟩ := h
    exact ⟨a, e, h1.imp (fun z => k.wr z.1 z.2) id⟩
theorem Rps.keep (k : Kp H H' W W' U) : ∀ (ds : List D) (S S' : AS) (vs : List V), (∀ b, S b → S' b) → (∀ b, S b → ¬ U b) → Rps K H W ds S vs → Rps K H' W' ds S' vs
  | [], _, _, _, _, _, h => h
  | d :: ds, S, S', vs, hs, hu, h => by
    obtain ⟨v, vr, S1, S2, e, h1, h2, h3, h4, h5⟩ := h
    exact ⟨v, vr, S1, S2, e, fun b z => hs b (h1 b z), fun b z => hs b (h2 b z), h3, Rp.keep k d _ _ _ (fun _ z => z) (fun b z => hu b (h1 b z)) h4, Rps.keep k ds _ _ _ (fun _ z => z) (fun b z => hu b (h2 b z)) h5⟩
end
/-- a smaller W, a greater S -/
theorem Kp.less (h : ∀ a, W' a → W a) : Kp H H W W' noS := ⟨fun _ _ e _ => e, fun _ z => z.elim, fun a z => .inl (h a z)⟩
theorem Rp.mono {d : D} {v : V} (h : Rp K H W d S v) (hw : ∀ a, W' a → W a) (hs : ∀ b, S b → S' b) : Rp K H W' d S' v := Rp.keep (Kp.less hw) d S S' v hs (fun _ _ z => z) h
theorem Rps.mono {ds : List D} {vs : List V} (h : Rps K H W ds S vs) (hw : ∀ a, W' a → W a) (hs : ∀ b, S b → S' b) : Rps K H W' ds S' vs := Rps.keep (Kp.less hw) ds S S' vs hs (fun _ _ z => z) h
mutual
/-- what was own is so no longer -/
theorem Rp.frz : ∀ (d : D) (S : AS) (v : V), Rp K H W d S v → (∀ a, W' a → W a ∧ ¬ S a) → Rp K H W' (frz d) noS v
  | .non, _, _, h, _ => h
  | .bl _, _, _, h, _ => h
  | .int _, _, _, h, _ => h
  | .str _, _, _, h, _ => h
  | .tup ds, S, v, h, hw => by
    refine Rp.mono (W := W) (S := noS) ?_ (fun a z => (hw a z).1) (fun _ z => z)
    exact h
  | .otu ds, S, v, h, hw => by
    obtain ⟨a, vs, e, ⟨h1, h2⟩, hr⟩ := h
    exact ⟨a, vs, e, .inl ⟨h1, fun z => h2 (hw a z).1⟩, Rps.frz ds _ _ hr hw⟩
  | .lst o ds, S, v, h, hw => by
    obtain ⟨a, vs, e, ht, hr⟩ := h
    refine ⟨a, vs, e, ?_, Rps.frz ds _ _ hr (fun b z => ⟨(hw b z).1, fun y => (hw b z).2 (sub_sub b y)⟩)⟩
    cases o with
    | false => exact ⟨ht.1, fun z => ht.2 (hw a z).1⟩
    | true => exact ⟨ht.1, fun z => (hw a z).2 ht.2⟩
  | .dic o ks ds, S, v, h, hw => by
    obtain ⟨a, vs, e, ht, hk, hn, hr⟩ := h
    refine ⟨a, vs, e, ?_, hk, hn, Rps.frz ds _ _ hr (fun b z => ⟨(hw b z).1, fun y => (hw b z).2 (sub_sub b y)⟩)⟩
    cases o with
    | false => exact ⟨ht.1, fun z => ht.2 (hw a z).1⟩
    | true => exact ⟨.inl ht.1, fun z => (hw a z).2 ht.2⟩
  | .scr ns, S, v, h, hw => by
    obtain ⟨a, e, h1⟩ := h
    exact ⟨a, e, h1.imp (fun z => ⟨z.1, fun y => z.2 (hw a y).1⟩) id⟩
theorem Rps.frz : ∀ (ds : List D) (S : AS) (vs : List V), Rps K H W ds S vs → (∀ a, W' a → W a ∧ ¬ S a) → Rps K H W' (frzs ds) noS vs
  | [], _, _, h, _ => h
  | d :: ds, S, vs, h, hw => by
    obtain ⟨v, vr, S1, S2, e, h1, h2, h3, h4, h5⟩ := h
    exact ⟨v, vr, noS, noS, e, fun _ z => z, fun _ z => z, fun _ z => z.elim, Rp.frz d S1 v h4 (fun a z => ⟨(hw a z).1, fun y => (hw a z).2 (h1 a y)⟩), Rps.frz ds S2 vr h5 (fun a z => ⟨(hw a z).1, fun y => (hw a z).2 (h2 a y)⟩)⟩
end
mutual
/-- nothing of it is own -/
theorem Rp.nown : ∀ (d : D) (S : AS) (v : V), isFrz d = true → Rp K H W d S v → Rp K H W d noS v
  | .non, _, _, _, h => h
  | .bl _, _, _, _, h => h
  | .int _, _, _, _, h => h
  | .str _, _, _, _, h => h
  | .tup ds, S, v, _, h => h
  | .otu ds, S, v, f, h => by rw [isFrz] at f; cases f
  | .lst o ds, S, v, f, h => by
    rw [isFrz, Bool.and_eq_true, Bool.not_eq_true'] at f
    obtain ⟨rfl, f⟩ := f
    exact h
  | .dic o ks ds, S, v, f, h => by
    rw [isFrz, Bool.and_eq_true, Bool.not_eq_true'] at f
    obtain ⟨rfl, f⟩ := f
    exact h
  | .scr ns, S, v, _, h => h
end
mutual
theorem frz_of : ∀ d, isFrz d = true → frz d = d
  | .non, _ => rfl
  | .bl _, _ => rfl
  | .int _, _ => rfl
  | .str _, _ => rfl
  | .tup _, _ => rfl
  | .otu _, f => by rw [isFrz] at f; cases f
  | .scr _, _ => rfl
  | .lst o ds, f => by
    rw [isFrz, Bool.and_eq_true, Bool.not_eq_true'] at f
    obtain ⟨rfl, f⟩ := f
    rw [DL.frz, frzs_of ds f]
  | .dic o ks ds, f => by
    rw [isFrz, Bool.and_eq_true, Bool.not_eq_true'] at f
    obtain ⟨rfl, f⟩ := f
    rw [DL.frz, frzs_of ds f]
theorem frzs_of : ∀ ds, allFrz ds = true → frzs ds = ds
  | [], _ => rfl
  | d :: ds, f => by
    rw [allFrz, Bool.and_eq_true] at f
    rw [frzs, frz_of d f.1, frzs_of ds f.2]
end
mutual
theorem isFrz_frz : ∀ d, isFrz (frz d) = true
  | .non => rfl
  | .bl _ => rfl
  | .int _ => rfl
  | .str _ => rfl
  | .tup _ => rfl
  | .otu _ => by rw [DL.frz, isFrz]
  | .scr _ => rfl
  | .lst o ds => by rw [DL.frz, isFrz, isFrzs_frz ds]; rfl
  | .dic o ks ds => by rw [DL.frz, isFrz, isFrzs_frz ds]; rfl
theorem isFrzs_frz : ∀ ds, allFrz (frzs ds) = true
  | [] => rfl
  | d :: ds => by rw [frzs, allFrz, isFrz_frz d, isFrzs_frz ds]; rfl
end
theorem Rps.length : ∀ {ds : List D} {S : AS} {vs : List V}, Rps K H W ds S vs → vs.length = ds.length
  | [], _, _, h => by rw [h]; rfl
  | d :: ds, _, _, h => by
    obtain ⟨v, vr, _, _, e, _, _, _, _, h5⟩ := h
    rw [e, List.length_cons, List.length_cons, h5.length]
end
end DL

namespace DL
open PySem L2

abbrev Env := List (Option D)

section
variable (K : PySem.W.Frag) (H : Hp) (W : AS)
def Er : Env → AS → L2.St → Prop
  | [], _, σ => σ = []
  | none :: e, S, σ => ∃ o r, σ = o :: r ∧ Er e S r
  | some d :: e, S, σ => ∃ v r S1 S2, σ = some v :: r ∧ (∀ b, S1 b → S b) ∧ (∀ b, S2 b → S b) ∧ (∀ b, S1 b → ¬ S2 b) ∧ Rp K H W d S1 v ∧ Er e S2 r
end
section
variable {K : PySem.W.Frag} {H H' : Hp} {W W' S S' U : AS}
theorem Er.keep (k : Kp H H' W W' U) : ∀ (e : Env) (S S' : AS) (σ : L2.St), (∀ b, S b → S' b) → (∀ b, S b → ¬ U b) → Er K H W e S σ → Er K H' W' e S' σ
  | [], _, _, _, _, _, h => h
  | none :: e, S, S', σ, hs, hu, h => by
    obtain ⟨o, r, e1, h1⟩ := h
    exact ⟨o, r, e1, Er.keep k e S S' r hs hu h1⟩
  | some d :: e, S, S', σ, hs, hu, h => by
    obtain ⟨v, r, S1, S2, e1, h1, h2, h3, h4, h5⟩ := h
    exact ⟨v, r, S1, S2, e1, fun b z => hs b (h1 b z), fun b z => hs b (h2 b z), h3, Rp.keep k d S1 S1 v (fun _ z => z) (fun b z => hu b (h1 b z)) h4, Er.keep k e S2 S2 r (fun _ z => z) (fun b z => hu b (h2 b z)) h5⟩
theorem Er.mono {e : Env} {σ : L2.St} (h : Er K H W e S σ) (hw : ∀ a, W' a → W a) (hs : ∀ b, S b → S' b) : Er K H W' e S' σ := Er.keep (Kp.less hw) e S S' σ hs (fun _ _ z => z) h
theorem Er.length : ∀ {e : Env} {S : AS} {σ : L2.St}, Er K H W e S σ → σ.length = e.length
  | [], _, _, h => by have h' : _ = _ := h; subst h'; rfl
  | none :: e, _, _, h => by obtain ⟨o, r, e1, h1⟩ := h; rw [e1, List.length_cons, List.length_cons, h1.length]
  | some d :: e, _, _, h => by obtain ⟨v, r, S1, S2, e1, _, _, _, _, h5⟩ := h; rw [e1, List.length_cons, List.length_cons, h5.length]
/-- a slot taken out -/
theorem Er.get : ∀ {e : Env} {S : AS} {σ : L2.St} {i : Nat} {d : D}, Er K H W e S σ → e[i]? = some (some d) →
    ∃ v S1 S2, σ[i]? = some (some v) ∧ (∀ b, S1 b → S b) ∧ (∀ b, S2 b → S b) ∧ (∀ b, S1 b → ¬ S2 b) ∧ Rp K H W d S1 v ∧ Er K H W (e.set i none) S2 σ
  | [], _, _, _, _, _, h2 => by simp at h2
  | o :: e, S, σ, 0, d, h, h2 => by
    simp at h2; subst h2
    obtain ⟨v, r, S1, S2, e1, h1, h2, h3, h4, h5⟩ := h
    subst e1
    exact ⟨v, S1, S2, rfl, h1, h2, h3, h4, ⟨_, _, rfl, h5⟩⟩
  | none :: e, S, σ, i + 1, d, h, h2 => by
    obtain ⟨o, r, e1, h1⟩ := h
    subst e1
    obtain ⟨v, S1, S2, a, b, c, f, g, k⟩ := Er.get (i := i) h1 (by simpa using h2)
    exact ⟨v, S1, S2, by simpa using a, b, c, f, g, ⟨_, _, rfl, k⟩⟩
  | some d0 :: e, S, σ, i + 1, d, h, h2 => by
    obtain ⟨v0, r, T1, T2, e1, t1, t2, t3, t4, t5⟩ := h
    subst e1
    obtain ⟨v, S1, S2, a, b, c, f, g, k⟩ := Er.get (i := i) t5 (by simpa using h2)
    refine ⟨v, S1, fun x => T1 x ∨ S2 x, by simpa using a, fun x z => t2 x (b x z), fun x z => z.elim (t1 x) fun y => t2 x (c x y), fun x z y => y.elim (fun q => t3 x q (b x z)) (f x z), g, ?_⟩
    exact ⟨v0, r, T1, S2, rfl, fun _ z => .inl z, fun _ z => .inr z, fun x z y => t3 x z (c x y), t4, k⟩
/-- a slot put -/
theorem Er.put : ∀ {e : Env} {S1 S2 S : AS} {σ : L2.St} {i : Nat} {d : D} {v : V}, Er K H W e S2 σ → i < e.length → Rp K H W d S1 v → (∀ b, S1 b → S b) → (∀ b, S2 b → S b) → (∀ b, S1 b → ¬ S2 b) →
    Er K H W (e.set i (some d)) S (σ.set i (some v))
  | [], _, _, _, _, i, _, _, _, hi, _, _, _, _ => absurd hi (Nat.not_lt_zero i)
  | none :: e, S1, S2, S, σ, 0, d, v, h, hi, hr, h1, h2, h3 => by
    obtain ⟨o, r, e1, k⟩ := h
    subst e1
    exact ⟨v, r, S1, S2, rfl, h1, h2, h3, hr, k⟩
  | some d0 :: e, S1, S2, S, σ, 0, d, v, h, hi, hr, h1, h2, h3 => by
    obtain ⟨v0, r, T1, T2, e1, t1, t2, t3, t4, t5⟩ := h
    subst e1
    exact ⟨v, r, S1, T2, rfl, h1, fun b z => h2 b (t2 b z), fun b z y => h3 b z (t2 b y), hr, t5⟩
  | none :: e, S1, S2, S, σ, i + 1, d, v, h, hi, hr, h1, h2, h3 => by
    obtain ⟨o, r, e1, k⟩ := h
    subst e1
    exact ⟨o, r.set i (some v), rfl, Er.put k (Nat.lt_of_succ_lt_succ hi) hr h1 h2 h3⟩
  | some d0 :: e, S1, S2, S, σ, i + 1, d, v, h, hi, hr, h1, h2, h3 => by
    obtain ⟨v0, r, T1, T2, e1, t1, t2, t3, t4, t5⟩ := h
    subst e1
    refine ⟨v0, r.set i (some v), T1, fun x => S1 x ∨ T2 x, rfl, fun b z => h2 b (t1 b z), fun b z => z.elim (h1 b) fun y => h2 b (t2 b y), fun b z y => y.elim (fun q => h3 b q (t1 b z)) (t3 b z), t4, ?_⟩
    exact Er.put t5 (Nat.lt_of_succ_lt_succ hi) hr (fun _ z => .inl z) (fun _ z => .inr z) fun b z y => h3 b z (t2 b y)
/-- a slot forgotten -/
theorem Er.drop : ∀ {e : Env} {S : AS} {σ : L2.St} (i : Nat) (o : Option V), Er K H W e S σ → Er K H W (e.set i none) S (σ.set i o)
  | [], _, _, _, _, h => by have h' : _ = _ := h; subst h'; rfl
  | none :: e, S, σ, 0, o, h => by
    obtain ⟨_, r, e1, k⟩ := h
    subst e1
    exact ⟨o, r, rfl, k⟩
  | some d :: e, S, σ, 0, o, h => by
    obtain ⟨v0, r, T1, T2, e1, t1, t2, t3, t4, t5⟩ := h
    subst e1
    exact ⟨o, r, rfl, t5.mono (fun _ z => z) t2⟩
  | none :: e, S, σ, i + 1, o, h => by
    obtain ⟨p, r, e1, k⟩ := h
    subst e1
    exact ⟨p, r.set i o, rfl, Er.drop i o k⟩
  | some d :: e, S, σ, i + 1, o, h => by
    obtain ⟨v0, r, T1, T2, e1, t1, t2, t3, t4, t5⟩ := h
    subst e1
    exact ⟨v0, r.set i o, T1, T2, rfl, t1, t2, t3, t4, Er.drop i o t5⟩
theorem set_same {α : Type} {l : List α} {i : Nat} {x : α} (h : l[i]? = some x) : l.set i x = l := by
  refine List.ext_getElem? fun j => ?_
  by_cases e : i = j
  · subst e
    rw [List.getElem?_set_self (List.getElem?_eq_some_iff.mp h).1, h]
  · rw [List.getElem?_set_ne e]
/-- a slot put whose value stands there already -/
theorem Er.back {e : Env} {S1 S2 S : AS} {σ : L2.St} {i : Nat} {d : D} {v : V} (h : Er K H W (e.set i none) S2 σ) (hv : σ[i]? = some (some v)) (hr : Rp K H W d S1 v) (h1 : ∀ b, S1 b → S b) (h2 : ∀ b, S2 b → S b) (h3 : ∀ b, S1 b → ¬ S2 b) :
    Er K H W (e.set i (some d)) S σ := by
  have hi : i < (e.set i none).length := by rw [← h.length]; exact (List.getElem?_eq_some_iff.mp hv).1
  have q := Er.put h hi hr h1 h2 h3
  rw [set_same hv, List.set_set] at q
  exact q
theorem Er.put' {e : Env} {S1 S2 S : AS} {σ : L2.St} {i : Nat} {d : D} {v : V} (h : Er K H W e S2 σ) (hv : σ[i]? = some (some v)) (hr : Rp K H W d S1 v) (h1 : ∀ b, S1 b → S b) (h2 : ∀ b, S2 b → S b) (h3 : ∀ b, S1 b → ¬ S2 b) :
    Er K H W (e.set i (some d)) S σ := by
  have hi : i < e.length := by rw [← h.length]; exact (List.getElem?_eq_some_iff.mp hv).1
  have q := Er.put h hi hr h1 h2 h3
  rw [set_same hv] at q
  exact q
theorem Er.drop' {e : Env} {S : AS} {σ : L2.St} (i : Nat) (h : Er K H W e S σ) : Er K H W (e.set i none) S σ := by
  by_cases hi : i < σ.length
  · have q := Er.drop i σ[i] h
    have e1 : List.set σ i σ[i] = σ := set_same (by rw [List.getElem?_eq_getElem hi])
    rw [e1] at q
    exact q
  · have : e.set i none = e := List.set_eq_of_length_le (by rw [← h.length]; omega)
    rw [this]; exact h
end

/-- the state: the slots' trees; S what is own here, R what others hold -/
structure Sta (K : PySem.W.Frag) (H : Hp) (R S : AS) (e : Env) (σ : L2.St) : Prop where
  dis : ∀ a, S a → ¬ R a
  trk : ∀ a, S a ∨ R a → H a ≠ none
  er : Er K H (fun a => S a ∨ R a) e S σ
/-- what changed: what is not of S stays; what is new was free -/
structure Fr (H H' : Hp) (S S' : AS) : Prop where
  keep : ∀ a o, H a = some o → ¬ S a → H' a = some o
  new : ∀ a, S' a → S a ∨ H a = none
/-- a value's end -/
structure Ens (K : PySem.W.Frag) (H : Hp) (R S1 S2 : AS) (d : D) (v : V) (e : Env) (σ : L2.St) : Prop where
  d12 : ∀ a, S1 a → ¬ S2 a
  dis : ∀ a, S1 a ∨ S2 a → ¬ R a
  trk : ∀ a, S1 a ∨ S2 a ∨ R a → H a ≠ none
  rp : Rp K H (fun a => S1 a ∨ S2 a ∨ R a) d S1 v
  er : Er K H (fun a => S1 a ∨ S2 a ∨ R a) e S2 σ

theorem Fr.refl {H : Hp} {S : AS} : Fr H H S S := ⟨fun _ _ h _ => h, fun _ h => .inl h⟩
theorem Fr.trans {H H1 H2 : Hp} {S S1 S2 : AS} (a : Fr H H1 S S1) (b : Fr H1 H2 S1 S2) : Fr H H2 S S2 where
  keep := fun x o h n => b.keep x o (a.keep x o h n) fun z => (a.new x z).elim n fun e => by rw [h] at e; cases e
  new := fun x z => by
    rcases b.new x z with h | h
    · exact a.new x h
    · cases q : H x with
      | none => exact .inr rfl
      | some o =>
        by_cases hs : S x
        · exact .inl hs
        · have := a.keep x o q hs
          rw [h] at this; cases this
theorem Fr.less {H H' : Hp} {S S' T : AS} (a : Fr H H' S S') (h : ∀ x, T x → S' x) : Fr H H' S T := ⟨a.keep, fun x z => a.new x (h x z)⟩
/-- the first part of the new stays aside -/
theorem Fr.seq {H H1 H2 : Hp} {S S1 S2 S3 : AS} (a : Fr H H1 S (fun x => S1 x ∨ S2 x)) (b : Fr H1 H2 S2 S3) : Fr H H2 S (fun x => S1 x ∨ S3 x) := by
  have b' : Fr H1 H2 (fun x => S1 x ∨ S2 x) (fun x => S1 x ∨ S3 x) := ⟨fun x o h n => b.keep x o h fun z => n (.inr z), fun x z => z.elim (fun y => .inl (.inl y)) fun y => (b.new x y).elim (fun q => .inl (.inr q)) .inr⟩
  exact a.trans b'

/-- outcomes -/
inductive Res (α : Type) where
  | ok (a : α) | err (x : Str) (e : Env) | bad

structure Cfg where
  K : PySem.W.Frag
  mg : Str → Option Value
  wx : WX
def ErrP (G : Cfg) (R S : AS) (H : Hp) (σ : L2.St) (x : Str) (e : Env) : Prop :=
  ∀ H' S', Fr H H' S S' → Sta G.K H' R S' e σ → ∀ C : Addr, G.mg x = some (.ref C) → G.wx (.ref C) none σ H'

abbrev PF := Env → Option D
abbrev DF := Env → Res (D × Env)
/-- an expression that changes nothing -/
def tP (K : PySem.W.Frag) (f : PF) : TE := fun σ H Q => ∃ R S e d, Sta K H R S e σ ∧ f e = some d ∧ ∀ v, Rp K H (fun a => S a ∨ R a) d S v → Q v H
def DEnd (G : Cfg) (R S : AS) (σ : L2.St) (H : Hp) (Q : V → Hp → Prop) : Res (D × Env) → Prop
  | .ok (d, e') => ∀ v H' S1 S2, Fr H H' S (fun a => S1 a ∨ S2 a) → Ens G.K H' R S1 S2 d v e' σ → Q v H'
  | .err x e' => ErrP G R S H σ x e'
  | .bad => False
def tD (G : Cfg) (f : DF) : TE := fun σ H Q => ∃ R S e, Sta G.K H R S e σ ∧ DEnd G R S σ H Q (f e)

theorem PE.imp {X : Cx} {e : Expr} {t t' : TE} (h : PE X e t) (k : ∀ σ H Q, t' σ H Q → t σ H Q) : PE X e t' := ⟨fun pins s σ H Q I q => h.run pins s σ H Q I (k σ H Q q)⟩
theorem PT.imp {X : Cx} {e : Expr} {t t' : TT} (h : PT X e t) (k : ∀ σ H Q, t' σ H Q → t σ H Q) : PT X e t' := ⟨fun pins s σ H Q I q => h.run pins s σ H Q I (k σ H Q q)⟩
theorem PA.imp {X : Cx} {e : List Expr} {t t' : TA} (h : PA X e t) (k : ∀ σ H Q, t' σ H Q → t σ H Q) : PA X e t' := ⟨fun pos pins s σ H Q I q => h.run pos pins s σ H Q I (k σ H Q q)⟩
theorem PS.imp {X : Cx} {e : Stmt} {t t' : TS} (h : PS X e t) (k : ∀ D σ H, t' D σ H → t D σ H) : PS X e t' := ⟨fun pins s σ H Q I q => h.run pins s σ H Q I (k Q σ H q)⟩
theorem PSs.imp {X : Cx} {e : List Stmt} {t t' : TS} (h : PSs X e t) (k : ∀ D σ H, t' D σ H → t D σ H) : PSs X e t' := ⟨fun pins s σ H Q I q => h.run pins s σ H Q I (k Q σ H q)⟩

section
variable {K : PySem.W.Frag} {G : Cfg} {H H' : Hp} {R S S1 S2 S' : AS} {e e' : Env} {σ : L2.St} {d : D} {v : V}
/-- behind a value's end: the state, the value aside -/
theorem Ens.sta (x : Ens K H R S1 S2 d v e σ) : Sta K H (fun a => R a ∨ S1 a) S2 e σ :=
  ⟨fun a z y => y.elim (x.dis a (.inr z)) fun q => x.d12 a q z, fun a z => x.trk a (z.elim (fun q => .inr (.inl q)) fun q => q.elim (fun w => .inr (.inr w)) .inl), x.er.mono (fun a z => z.elim (fun q => .inr (.inl q)) fun q => q.elim (fun w => .inr (.inr w)) .inl) fun _ z => z⟩
/-- the value dropped -/
theorem Ens.drop (x : Ens K H R S1 S2 d v e σ) : Sta K H R S2 e σ :=
  ⟨fun a z => x.dis a (.inr z), fun a z => x.trk a (z.elim (fun q => .inr (.inl q)) fun q => .inr (.inr q)), x.er.mono (fun a z => z.elim (fun q => .inr (.inl q)) fun q => .inr (.inr q)) fun _ z => z⟩
theorem Sta.lessR {R' : AS} (x : Sta K H R S e σ) (h : ∀ a, R' a → R a) : Sta K H R' S e σ :=
  ⟨fun a z y => x.dis a z (h a y), fun a z => x.trk a (z.imp id (h a)), x.er.mono (fun a z => z.imp id (h a)) fun _ z => z⟩
/-- a value aside, another one's end: both -/
theorem Rp.aside {S3 S4 : AS} {d : D} {v : V} (x : Rp K H (fun a => S1 a ∨ S2 a ∨ R a) d S1 v) (h : ∀ a, S1 a → ¬ S2 a) (f : Fr H H' S2 (fun a => S3 a ∨ S4 a)) (trk : ∀ a, S1 a → H a ≠ none) :
    Rp K H' (fun a => S1 a ∨ S3 a ∨ S4 a ∨ R a) d S1 v :=
  Rp.keep (W := fun a => S1 a ∨ S2 a ∨ R a) (U := S2) ⟨f.keep, fun a z => .inr (.inl z), fun a z => by
    rcases z with z | z | z | z
    · exact .inl (.inl z)
    · exact (f.new a (.inl z)).imp (fun q => .inr (.inl q)) id
    · exact (f.new a (.inr z)).imp (fun q => .inr (.inl q)) id
    · exact .inl (.inr (.inr z))⟩ d S1 S1 v (fun _ z => z) h x
end

/-! ### names, constants, what changes nothing as a value -/
section
variable {X : Cx} {G : Cfg} {ex : Expr}
def pvar (i : Nat) : PF := fun e => match e[i]? with | some (some d) => some d | _ => none
theorem pP_var {K : PySem.W.Frag} {i : Nat} (h : PE X ex (tVar i)) : PE X ex (tP K (pvar i)) := PE.imp h fun σ H Q ⟨R, S, e, d, st, hf, q⟩ => by
  have hd : e[i]? = some (some d) := by
    unfold pvar at hf
    split at hf <;> simp_all
  obtain ⟨v, S1, S2, hv, h1, h2, h3, h4, h5⟩ := st.er.get hd
  exact ⟨v, hv, q v (h4.mono (fun _ z => z) h1)⟩
def pcst (d : D) : PF := fun _ => some d
def cV : D → Option V
  | .non => some .non
  | .bl b => some (.bl b)
  | .int i => some (.int i)
  | .str x => some (.str (Sx x))
  | _ => none
theorem cV_rp {K : PySem.W.Frag} {H : Hp} {W S : AS} {d : D} {v : V} (h : cV d = some v) : Rp K H W d S v := by
  cases d <;> simp [cV] at h <;> subst h <;> rfl
theorem pP_cst {K : PySem.W.Frag} {d : D} {v : V} (h : PE X ex (tC v)) (hc : cV d = some v := by rfl) : PE X ex (tP K (pcst d)) := PE.imp h fun σ H Q ⟨R, S, e, d', st, hf, q⟩ => by
  obtain rfl : d = d' := Option.some.inj hf
  exact q v (cV_rp hc)
def toD (f : PF) : DF := fun e => match f e with
  | some d => if isFrz d then .ok (d, e) else .bad
  | none => .bad
theorem pD_of (h : PE X ex (tP G.K f)) : PE X ex (tD G (toD f)) := PE.imp h fun σ H Q ⟨R, S, e, st, q⟩ => by
  unfold toD at q
  cases hf : f e with
  | none => rw [hf] at q; exact q.elim
  | some d =>
    rw [hf] at q
    dsimp only at q
    split at q
    · rename_i hz
      refine ⟨R, S, e, d, st, hf, fun v hv => ?_⟩
      refine q v H noS S (Fr.less Fr.refl fun x z => z.elim (fun y => y.elim) id) ⟨fun _ z => z.elim, fun a z => st.dis a (z.elim (fun y => y.elim) id), fun a z => st.trk a (z.elim (fun y => y.elim) id), ?_, ?_⟩
      · exact (Rp.nown d S v hz hv).mono (fun a z => z.elim (fun y => y.elim) id) fun _ z => z
      · exact st.er.mono (fun a z => z.elim (fun y => y.elim) id) fun _ z => z
    · exact q.elim
/-- a name read: from then on nobody changes what it names -/
def evar (i : Nat) : DF := fun e => match e[i]? with
  | some (some d) => .ok (frz d, e.set i (some (frz d)))
  | _ => .bad
theorem pD_var {i : Nat} (h : PE X ex (tVar i)) : PE X ex (tD G (evar i)) := PE.imp h fun σ H Q ⟨R, S, e, st, q⟩ => by
  unfold evar at q
  split at q
  · rename_i d hd
    obtain ⟨v, S1, S2, hv, h1, h2, h3, h4, h5⟩ := st.er.get hd
    have hw : ∀ a, (noS a ∨ S2 a ∨ R a) → (S a ∨ R a) ∧ ¬ S1 a := fun a z => by
      rcases z with z | z | z
      · exact z.elim
      · exact ⟨.inl (h2 a z), fun y => h3 a y z⟩
      · exact ⟨.inr z, fun y => st.dis a (h1 a y) z⟩
    have hr := Rp.frz (W' := fun a => noS a ∨ S2 a ∨ R a) d S1 v h4 hw
    refine ⟨v, hv, q v H noS S2 ⟨fun _ _ h _ => h, fun a z => .inl (h2 a (z.elim (fun y => y.elim) id))⟩ ⟨fun _ z => z.elim, fun a z => z.elim (fun y => y.elim) fun y => st.dis a (h2 a y), fun a z => ?_, hr, ?_⟩⟩
    · rcases z with z | z | z
      · exact z.elim
      · exact st.trk a (.inl (h2 a z))
      · exact st.trk a (.inr z)
    · exact Er.back (h5.mono (fun a z => (hw a z).1) fun _ z => z) hv hr (fun _ z => z.elim) (fun _ z => z) fun _ z => z.elim
  · exact q.elim
end
end DL

namespace DL
open PySem L2

def Res.bind {α β : Type} (r : Res α) (f : α → Res β) : Res β := match r with
  | .ok a => f a
  | .err x e => .err x e
  | .bad => .bad
@[simp] theorem Res.bind_ok {α β : Type} (a : α) (f : α → Res β) : (Res.ok a).bind f = f a := rfl
@[simp] theorem Res.bind_err {α β : Type} (x : Str) (e : Env) (f : α → Res β) : (Res.err x e : Res α).bind f = .err x e := rfl
@[simp] theorem Res.bind_bad {α β : Type} (f : α → Res β) : (Res.bad : Res α).bind f = .bad := rfl
def ofO {α : Type} : Option α → Env → Res (α × Env)
  | some a, e => .ok (a, e)
  | none, _ => .bad
@[simp] theorem ofO_some {α : Type} (a : α) (e : Env) : ofO (some a) e = .ok (a, e) := rfl
@[simp] theorem ofO_none {α : Type} (e : Env) : ofO (none : Option α) e = .bad := rfl

/-- each of some values within S -/
abbrev Rpl (K : PySem.W.Frag) (H : Hp) (W S : AS) : List D → List V → Prop := Paired fun d v => Rp K H W d S v

section
variable {K : PySem.W.Frag} {G : Cfg} {H H' : Hp} {R S S1 S2 S' W : AS} {e e' : Env} {σ : L2.St} {d : D} {v : V}
theorem Rps.pl : ∀ {ds : List D} {S : AS} {vs : List V}, Rps K H W ds S vs → Rpl K H W S ds vs
  | [], _, _, h => by have h' : _ = _ := h; subst h'; exact .nil
  | d :: ds, S, _, h => by
    obtain ⟨v, vr, S1, S2, e, h1, h2, h3, h4, h5⟩ := h
    subst e
    exact .cons (h4.mono (fun _ z => z) h1) (h5.mono (fun _ z => z) h2).pl
theorem Rps.of : ∀ {ds : List D} {vs : List V}, Rpl K H W noS ds vs → Rps K H W ds noS vs
  | [], _, .nil => rfl
  | d :: ds, _, .cons h t => ⟨_, _, noS, noS, rfl, fun _ z => z, fun _ z => z, fun _ z => z.elim, h, Rps.of t⟩
theorem Rps.nown : ∀ (ds : List D) (S : AS) (vs : List V), allFrz ds = true → Rps K H W ds S vs → Rps K H W ds noS vs
  | [], _, _, _, h => h
  | d :: ds, S, _, f, h => by
    rw [allFrz, Bool.and_eq_true] at f
    obtain ⟨v, vr, S1, S2, e, h1, h2, h3, h4, h5⟩ := h
    exact ⟨v, vr, noS, noS, e, fun _ z => z, fun _ z => z, fun _ z => z.elim, Rp.nown d _ v f.1 h4, Rps.nown ds _ vr f.2 h5⟩

/-! ### operators by values -/
/-- r: what HandS asks; g: the tree. Nothing is made -/
def OpP (K : PySem.W.Frag) (r : V → V → Hp → VK → Prop) (g : D → D → Option D) : Prop :=
  ∀ (H : Hp) (W S : AS) (d1 d2 : D) (v1 v2 : V) (d : D) (Q : VK), Rp K H W d1 S v1 → Rp K H W d2 S v2 → g d1 d2 = some d → (∀ v, Rp K H W d S v → Q v H) → r v1 v2 H Q
/-- an end that may have made new things -/
def New (K : PySem.W.Frag) (H : Hp) (W : AS) (d : D) (Q : VK) : Prop :=
  ∀ v H' S', (∀ a o, H a = some o → H' a = some o) → (∀ a, S' a → H a = none ∧ H' a ≠ none) → Rp K H' (fun a => S' a ∨ W a) d S' v → Q v H'
def OpA (K : PySem.W.Frag) (r : V → V → Hp → VK → Prop) (g : D → D → Option D) : Prop :=
  ∀ (H : Hp) (W S1 S2 : AS) (d1 d2 : D) (v1 v2 : V) (d : D) (Q : VK), (∀ a, W a → H a ≠ none) → Rp K H W d1 S1 v1 → Rp K H W d2 S2 v2 → g d1 d2 = some d → New K H W d Q → r v1 v2 H Q
/-- builtins, methods: by the list of the arguments -/
def ArP (K : PySem.W.Frag) (r : List V → Hp → VK → Prop) (g : List D → Option D) : Prop :=
  ∀ (H : Hp) (W S : AS) (ds : List D) (vs : List V) (d : D) (Q : VK), Rpl K H W S ds vs → g ds = some d → (∀ v, Rp K H W d S v → Q v H) → r vs H Q
def ArA (K : PySem.W.Frag) (r : List V → Hp → VK → Prop) (g : List D → Option D) : Prop :=
  ∀ (H : Hp) (W S : AS) (ds : List D) (vs : List V) (d : D) (Q : VK), (∀ a, W a → H a ≠ none) → Rpl K H W S ds vs → g ds = some d → New K H W d Q → r vs H Q

def p2 (g : D → D → Option D) (fa fb : PF) : PF := fun e => (fa e).bind fun x => (fb e).bind fun y => g x y
theorem p_op {r : V → V → Hp → VK → Prop} {g : D → D → Option D} {fa fb : PF} (h : OpP K r g) : ∀ σ H Q, tP K (p2 g fa fb) σ H Q → tOp r (tP K fa) (tP K fb) σ H Q := fun σ H Q ⟨R, S, e, d, st, hf, q⟩ => by
  unfold p2 at hf
  cases ha : fa e with
  | none => rw [ha] at hf; cases hf
  | some x =>
    rw [ha] at hf
    cases hb : fb e with
    | none => rw [hb] at hf; cases hf
    | some y =>
      rw [hb] at hf
      exact ⟨R, S, e, x, st, ha, fun v1 r1 => ⟨R, S, e, y, st, hb, fun v2 r2 => h H _ _ x y v1 v2 d Q r1 r2 hf q⟩⟩
def d2 (g : D → D → Option D) (fa fb : DF) : DF := fun e => (fa e).bind fun (x, e1) => (fb e1).bind fun (y, e2) => ofO (g x y) e2
theorem New.ens {R S1 S2 S3 : AS} (n : ∀ v H' S1, Fr H H' S2 (fun a => S1 a ∨ S2 a) → Ens K H' R S1 S2 d v e σ → Q v H') (st : Sta K H R S2 e σ) : New K H (fun a => S2 a ∨ R a) d Q := fun v H' S' k ns rp => by
  refine n v H' S' ⟨fun a o h _ => k a o h, fun a z => z.elim (fun y => .inr (ns a y).1) .inl⟩ ⟨fun a z y => st.trk a (.inl y) (ns a z).1, fun a z y => z.elim (fun w => st.trk a (.inr y) (ns a w).1) fun w => st.dis a w y, fun a z => ?_, rp, ?_⟩
  · rcases z with z | z
    · exact (ns a z).2
    · have q := st.trk a z
      cases e1 : H a with
      | none => exact absurd e1 q
      | some o => rw [k a o e1]; exact fun z => by cases z
  · exact Er.keep (U := noS) ⟨fun a o h _ => k a o h, fun _ z => z.elim, fun a z => z.elim (fun y => .inr (ns a y).1) .inl⟩ e S2 S2 σ (fun _ z => z) (fun _ _ z => z) st.er
theorem d_op {r : V → V → Hp → VK → Prop} {g : D → D → Option D} {fa fb : DF} (h : OpA G.K r g) : ∀ σ H Q, tD G (d2 g fa fb) σ H Q → tOp r (tD G fa) (tD G fb) σ H Q := fun σ H Q ⟨R, S, e, st, q⟩ => by
  refine ⟨R, S, e, st, ?_⟩
  unfold d2 at q
  cases ha : fa e with
  | bad => rw [ha] at q; exact q.elim
  | err x e1 => rw [ha] at q; exact q
  | ok p =>
    obtain ⟨x, e1⟩ := p
    rw [ha] at q
    intro v1 H1 S1 S2 f1 n1
    refine ⟨fun a => R a ∨ S1 a, S2, e1, n1.sta, ?_⟩
    dsimp only [Res.bind] at q
    cases hb : fb e1 with
    | bad => rw [hb] at q; exact q.elim
    | err x e2 =>
      rw [hb] at q
      intro H2 S' f2 st2 C hC
      exact q H2 S' ((Fr.seq f1 f2).less fun _ z => .inr z) (st2.lessR fun _ z => .inl z) C hC
    | ok p =>
      obtain ⟨y, e2⟩ := p
      rw [hb] at q
      intro v2 H2 S3 S4 f2 n2
      dsimp only at q
      cases hg : g x y with
      | none => rw [hg] at q; exact q.elim
      | some d =>
        rw [hg] at q
        have r1 : Rp G.K H2 (fun a => S1 a ∨ S3 a ∨ S4 a ∨ R a) x S1 v1 := Rp.aside n1.rp n1.d12 f2 fun a z => n1.trk a (.inl z)
        have st2 : Sta G.K H2 R S4 e2 σ := n2.drop.lessR fun _ z => .inl z
        have trk : ∀ a, (S4 a ∨ R a) → H2 a ≠ none := fun a z => st2.trk a z
        refine h H2 (fun a => S4 a ∨ R a) S1 S3 x y v1 v2 d Q trk ?_ ?_ hg ?_
        · exact r1.mono (fun a z => z.elim (fun w => .inr (.inr (.inl w))) fun w => .inr (.inr (.inr w))) fun _ z => z
        · exact n2.rp.mono (fun a z => z.elim (fun w => .inr (.inl w)) fun w => .inr (.inr (.inl w))) fun _ z => z
        · refine New.ens (S3 := noS) (S1 := noS) (fun v H' S5 f5 n5 => q v H' S5 S4 ?_ n5) st2
          exact ((Fr.seq f1 f2).less (T := S4) fun a z => .inr (.inr z)).trans f5
theorem OpA.of {r : V → V → Hp → VK → Prop} {g : D → D → Option D} (h : OpP K r g) (hz : ∀ x y d, g x y = some d → isFrz d = true) : OpA K r g := fun H W S1 S2 d1 d2 v1 v2 d Q trk r1 r2 hg n => by
  refine h H W (fun a => S1 a ∨ S2 a) d1 d2 v1 v2 d Q (r1.mono (fun _ z => z) fun _ z => .inl z) (r2.mono (fun _ z => z) fun _ z => .inr z) hg fun v rv => ?_
  refine n v H noS (fun _ _ z => z) (fun _ z => z.elim) ?_
  exact (Rp.nown d _ v (hz _ _ _ hg) rv).mono (fun a z => z.elim (fun w => w.elim) id) fun _ z => z
theorem ArA.of {r : List V → Hp → VK → Prop} {g : List D → Option D} (h : ArP K r g) (hz : ∀ x d, g x = some d → isFrz d = true) : ArA K r g := fun H W S ds vs d Q trk r1 hg n => by
  refine h H W S ds vs d Q r1 hg fun v rv => ?_
  refine n v H noS (fun _ _ z => z) (fun _ z => z.elim) ?_
  exact (Rp.nown d _ v (hz _ _ hg) rv).mono (fun a z => z.elim (fun w => w.elim) id) fun _ z => z

/-! ### lists of arguments -/
abbrev PFs := Env → Option (List D)
abbrev DFs := Env → Res (List D × Env)
def tPs (K : PySem.W.Frag) (f : PFs) : TA := fun σ H Q => ∃ R S e ds, Sta K H R S e σ ∧ f e = some ds ∧ ∀ vs, Rpl K H (fun a => S a ∨ R a) S ds vs → Q vs H
def pnil : PFs := fun _ => some []
def pcons (fa : PF) (fr : PFs) : PFs := fun e => (fa e).bind fun x => (fr e).bind fun xs => some (x :: xs)
theorem p_nil : ∀ σ H Q, tPs K pnil σ H Q → tNil σ H Q := fun σ H Q ⟨R, S, e, ds, st, hf, q⟩ => by
  obtain rfl : [] = ds := Option.some.inj hf
  exact q [] .nil
theorem p_cons {fa : PF} {fr : PFs} : ∀ σ H Q, tPs K (pcons fa fr) σ H Q → tCons (tP K fa) (tPs K fr) σ H Q := fun σ H Q ⟨R, S, e, ds, st, hf, q⟩ => by
  unfold pcons at hf
  cases ha : fa e with
  | none => rw [ha] at hf; cases hf
  | some x =>
    rw [ha] at hf
    cases hb : fr e with
    | none => rw [hb] at hf; cases hf
    | some y =>
      rw [hb] at hf
      obtain rfl := Option.some.inj hf
      exact ⟨R, S, e, x, st, ha, fun v1 r1 => ⟨R, S, e, y, st, hb, fun v2 r2 => q (v1 :: v2) (.cons r1 r2)⟩⟩
/-- the ends of a list of arguments -/
structure Enss (K : PySem.W.Frag) (H : Hp) (R S1 S2 : AS) (ds : List D) (vs : List V) (e : Env) (σ : L2.St) : Prop where
  d12 : ∀ a, S1 a → ¬ S2 a
  dis : ∀ a, S1 a ∨ S2 a → ¬ R a
  trk : ∀ a, S1 a ∨ S2 a ∨ R a → H a ≠ none
  rp : Rps K H (fun a => S1 a ∨ S2 a ∨ R a) ds S1 vs
  er : Er K H (fun a => S1 a ∨ S2 a ∨ R a) e S2 σ
theorem Enss.drop {ds : List D} {vs : List V} (x : Enss K H R S1 S2 ds vs e σ) : Sta K H R S2 e σ :=
  ⟨fun a z => x.dis a (.inr z), fun a z => x.trk a (z.elim (fun q => .inr (.inl q)) fun q => .inr (.inr q)), x.er.mono (fun a z => z.elim (fun q => .inr (.inl q)) fun q => .inr (.inr q)) fun _ z => z⟩
def AEnd (G : Cfg) (R S : AS) (σ : L2.St) (H : Hp) (Q : List V → Hp → Prop) : Res (List D × Env) → Prop
  | .ok (ds, e') => ∀ vs H' S1 S2, Fr H H' S (fun a => S1 a ∨ S2 a) → Enss G.K H' R S1 S2 ds vs e' σ → Q vs H'
  | .err x e' => ErrP G R S H σ x e'
  | .bad => False
def tDs (G : Cfg) (f : DFs) : TA := fun σ H Q => ∃ R S e, Sta G.K H R S e σ ∧ AEnd G R S σ H Q (f e)
def dnil : DFs := fun e => .ok ([], e)
def dcons (fa : DF) (fr : DFs) : DFs := fun e => (fa e).bind fun (x, e1) => (fr e1).bind fun (xs, e2) => .ok (x :: xs, e2)
theorem d_nil : ∀ σ H Q, tDs G dnil σ H Q → tNil σ H Q := fun σ H Q ⟨R, S, e, st, q⟩ => by
  refine q [] H noS S (Fr.less Fr.refl fun x z => z.elim (fun y => y.elim) id) ⟨fun _ z => z.elim, fun a z => st.dis a (z.elim (fun y => y.elim) id), fun a z => st.trk a (z.elim (fun y => y.elim) id), rfl, ?_⟩
  exact st.er.mono (fun a z => z.elim (fun y => y.elim) id) fun _ z => z
theorem d_cons {fa : DF} {fr : DFs} : ∀ σ H Q, tDs G (dcons fa fr) σ H Q → tCons (tD G fa) (tDs G fr) σ H Q := fun σ H Q ⟨R, S, e, st, q⟩ => by
  refine ⟨R, S, e, st, ?_⟩
  unfold dcons at q
  cases ha : fa e with
  | bad => rw [ha] at q; exact q.elim
  | err x e1 => rw [ha] at q; exact q
  | ok p =>
    obtain ⟨x, e1⟩ := p
    rw [ha] at q
    intro v1 H1 S1 S2 f1 n1
    refine ⟨fun a => R a ∨ S1 a, S2, e1, n1.sta, ?_⟩
    dsimp only [Res.bind] at q
    cases hb : fr e1 with
    | bad => rw [hb] at q; exact q.elim
    | err x e2 =>
      rw [hb] at q
      intro H2 S' f2 st2 C hC
      exact q H2 S' ((Fr.seq f1 f2).less fun _ z => .inr z) (st2.lessR fun _ z => .inl z) C hC
    | ok p =>
      obtain ⟨y, e2⟩ := p
      rw [hb] at q
      intro v2 H2 S3 S4 f2 n2
      dsimp only at q
      have r1 : Rp G.K H2 (fun a => S1 a ∨ S3 a ∨ S4 a ∨ R a) x S1 v1 := Rp.aside n1.rp n1.d12 f2 fun a z => n1.trk a (.inl z)
      have dR := n2.dis
      have dT := n2.trk
      refine q (v1 :: v2) H2 (fun a => S1 a ∨ S3 a) S4 ?_ ⟨fun a z y => ?_, fun a z y => ?_, fun a z => ?_, ?_, ?_⟩
      · exact (Fr.seq f1 f2).less fun a z => z.elim (fun w => w.imp id .inl) fun w => .inr (.inr w)
      · exact z.elim (fun w => dR a (.inr y) (.inr w)) fun w => n2.d12 a w y
      · rcases z with (z | z) | z
        · exact n1.dis a (.inl z) y
        · exact dR a (.inl z) (.inl y)
        · exact dR a (.inr z) (.inl y)
      · rcases z with (z | z) | z | z
        · exact dT a (.inr (.inr (.inr z)))
        · exact dT a (.inl z)
        · exact dT a (.inr (.inl z))
        · exact dT a (.inr (.inr (.inl z)))
      · refine ⟨v1, v2, S1, S3, rfl, fun _ z => .inl z, fun _ z => .inr z, fun a z y => dR a (.inl y) (.inr z), ?_, ?_⟩
        · refine r1.mono (fun a z => ?_) fun _ z => z
          rcases z with (z | z) | z | z
          · exact .inl z
          · exact .inr (.inl z)
          · exact .inr (.inr (.inl z))
          · exact .inr (.inr (.inr z))
        · refine n2.rp.mono (fun a z => ?_) fun _ z => z
          rcases z with (z | z) | z | z
          · exact .inr (.inr (.inr z))
          · exact .inl z
          · exact .inr (.inl z)
          · exact .inr (.inr (.inl z))
      · refine n2.er.mono (fun a z => ?_) fun _ z => z
        rcases z with (z | z) | z | z
        · exact .inr (.inr (.inr z))
        · exact .inl z
        · exact .inr (.inl z)
        · exact .inr (.inr (.inl z))
/-- a builtin of values that make nothing -/
def pcall (g : List D → Option D) (fs : PFs) : PF := fun e => (fs e).bind g
theorem p_call {r : List V → Hp → VK → Prop} {g : List D → Option D} {fs : PFs} (h : ArP K r g) : ∀ σ H Q, tP K (pcall g fs) σ H Q → tPs K fs σ H (fun vs H1 => r vs H1 Q) := fun σ H Q ⟨R, S, e, d, st, hf, q⟩ => by
  unfold pcall at hf
  cases ha : fs e with
  | none => rw [ha] at hf; cases hf
  | some ds =>
    rw [ha] at hf
    exact ⟨R, S, e, ds, st, ha, fun vs rv => h H _ S ds vs d Q rv hf q⟩
def dcall (g : List D → Option D) (fs : DFs) : DF := fun e => (fs e).bind fun (ds, e1) => ofO (g ds) e1
theorem d_call {r : List V → Hp → VK → Prop} {g : List D → Option D} {fs : DFs} (h : ArA G.K r g) : ∀ σ H Q, tD G (dcall g fs) σ H Q → tDs G fs σ H (fun vs H1 => r vs H1 Q) := fun σ H Q ⟨R, S, e, st, q⟩ => by
  refine ⟨R, S, e, st, ?_⟩
  unfold dcall at q
  cases ha : fs e with
  | bad => rw [ha] at q; exact q.elim
  | err x e1 => rw [ha] at q; exact q
  | ok p =>
    obtain ⟨ds, e1⟩ := p
    rw [ha] at q
    intro vs H1 S1 S2 f1 n1
    dsimp only [Res.bind] at q
    cases hg : g ds with
    | none => rw [hg] at q; exact q.elim
    | some d =>
      rw [hg] at q
      have st2 := n1.drop
      refine h H1 (fun a => S2 a ∨ R a) S1 ds vs d Q (fun a z => st2.trk a z) (n1.rp.mono (fun a z => z.elim (fun w => .inr (.inl w)) fun w => .inr (.inr w)) fun _ z => z).pl hg ?_
      refine New.ens (S3 := noS) (S1 := noS) (fun v H' S5 f5 n5 => q v H' S5 S2 ?_ n5) st2
      exact (f1.less (T := S2) fun a z => .inr z).trans f5
end

/-! ### displays -/
section
variable {X : Cx} {G : Cfg}
def dlst (fs : DFs) : DF := fun e => (fs e).bind fun (ds, e1) => if ds.length ≤ 1000 then .ok (.lst true ds, e1) else .bad
theorem d_lst {fs : DFs} : ∀ σ H Q, tD G (dlst fs) σ H Q → tLst (tDs G fs) σ H Q := fun σ H Q ⟨R, S, e, st, q⟩ => by
  refine ⟨R, S, e, st, ?_⟩
  unfold dlst at q
  cases ha : fs e with
  | bad => rw [ha] at q; exact q.elim
  | err x e1 => rw [ha] at q; exact q
  | ok p =>
    obtain ⟨ds, e1⟩ := p
    rw [ha] at q
    intro vs H1 S1 S2 f1 n1
    dsimp only [Res.bind] at q
    split at q
    · rename_i hl
      have hlen : vs.length = ds.length := n1.rp.length
      refine ⟨by rw [hlen]; exact Nat.le_trans hl (by decide), fun p hp => ?_⟩
      have np : ∀ a, (S1 a ∨ S2 a ∨ R a) → a ≠ p := fun a z y => n1.trk a z (by rw [y]; exact hp)
      have k : Kp H1 (upd H1 p (.lst vs)) (fun a => S1 a ∨ S2 a ∨ R a) (fun a => (S1 a ∨ a = p) ∨ S2 a ∨ R a) noS := ⟨fun a o h _ => by
        rw [upd_ne (ne_of_none h hp)]; exact h, fun _ z => z.elim, fun a z => by
        rcases z with (z | z) | z
        · exact .inl (.inl z)
        · exact .inr (by rw [z]; exact hp)
        · exact .inl (.inr z)⟩
      refine q (.ref p) _ (fun a => S1 a ∨ a = p) S2 ?_ ⟨fun a z y => ?_, fun a z y => ?_, fun a z => ?_, ?_, ?_⟩
      · refine ⟨fun a o h hs => k.keep a o (f1.keep a o h hs) (fun z => z), fun a z => ?_⟩
        rcases z with (z | z) | z
        · exact f1.new a (.inl z)
        · subst z
          cases q2 : H a with
          | none => exact .inr rfl
          | some o =>
            by_cases hs : S a
            · exact .inl hs
            · have := f1.keep a o q2 hs
              rw [hp] at this; cases this
        · exact f1.new a (.inr z)
      · exact z.elim (fun w => n1.d12 a w y) fun w => np a (.inr (.inl y)) w
      · rcases z with (z | z) | z
        · exact n1.dis a (.inl z) y
        · exact np a (.inr (.inr y)) z
        · exact n1.dis a (.inr z) y
      · by_cases h : a = p
        · rw [h, upd_same]; exact fun z => by cases z
        · rw [upd_ne h]
          exact n1.trk a (z.elim (fun w => w.elim .inl fun w => absurd w h) .inr)
      · refine ⟨p, vs, rfl, ⟨upd_same, .inr rfl⟩, ?_⟩
        exact Rps.keep k ds S1 _ vs (fun b z => ⟨.inl z, np b (.inl z)⟩) (fun _ _ z => z) n1.rp
      · exact Er.keep k e1 S2 S2 σ (fun _ z => z) (fun _ _ z => z) n1.er
    · exact q.elim
def dtup (fs : DFs) : DF := fun e => (fs e).bind fun (ds, e1) => if ds.length ≤ 1000 then .ok (.tup (frzs ds), e1) else .bad
theorem d_tup {fs : DFs} : ∀ σ H Q, tD G (dtup fs) σ H Q → tTup (tDs G fs) σ H Q := fun σ H Q ⟨R, S, e, st, q⟩ => by
  refine ⟨R, S, e, st, ?_⟩
  unfold dtup at q
  cases ha : fs e with
  | bad => rw [ha] at q; exact q.elim
  | err x e1 => rw [ha] at q; exact q
  | ok p =>
    obtain ⟨ds, e1⟩ := p
    rw [ha] at q
    intro vs H1 S1 S2 f1 n1
    dsimp only [Res.bind] at q
    split at q
    · rename_i hl
      have hlen : vs.length = ds.length := n1.rp.length
      refine ⟨by rw [hlen]; exact Nat.le_trans hl (by decide), fun p hp => ?_⟩
      have np : ∀ a, (S1 a ∨ S2 a ∨ R a) → a ≠ p := fun a z y => n1.trk a z (by rw [y]; exact hp)
      have k : Kp H1 (upd H1 p (.tup vs)) (fun a => S1 a ∨ S2 a ∨ R a) (fun a => noS a ∨ S2 a ∨ R a) noS := ⟨fun a o h _ => by
        rw [upd_ne (ne_of_none h hp)]; exact h, fun _ z => z.elim, fun a z => .inl (.inr (z.elim (fun y => y.elim) id))⟩
      have fz : Rps G.K H1 (fun a => noS a ∨ S2 a ∨ R a) (frzs ds) noS vs := Rps.frz ds S1 vs n1.rp fun a z => by
        rcases z with z | z | z
        · exact z.elim
        · exact ⟨.inr (.inl z), fun y => n1.d12 a y z⟩
        · exact ⟨.inr (.inr z), fun y => n1.dis a (.inl y) z⟩
      have k2 : Kp H1 (upd H1 p (.tup vs)) (fun a => noS a ∨ S2 a ∨ R a) (fun a => noS a ∨ S2 a ∨ R a) noS := ⟨k.keep, fun _ z => z.elim, fun a z => .inl z⟩
      refine q (.ref p) _ noS S2 ?_ ⟨fun _ z => z.elim, fun a z => ?_, fun a z => ?_, ?_, ?_⟩
      · refine ⟨fun a o h hs => k.keep a o (f1.keep a o h hs) (fun z => z), fun a z => f1.new a (.inr (z.elim (fun y => y.elim) id))⟩
      · exact n1.dis a (.inr (z.elim (fun y => y.elim) id))
      · have z' := z.elim (fun y => y.elim) id
        rw [upd_ne (np a (.inr z'))]
        exact n1.trk a (.inr z')
      · refine ⟨p, vs, rfl, .inl ⟨.inl upd_same, fun z => ?_⟩, ?_⟩
        · exact np p (.inr (z.elim (fun y => y.elim) id)) rfl
        · exact Rps.keep k2 (frzs ds) noS noS vs (fun b z => z) (fun _ z => z.elim) fz
      · exact Er.keep k e1 S2 S2 σ (fun _ z => z) (fun _ _ z => z) n1.er
    · exact q.elim
end
end DL

namespace DL
open PySem L2

/-! ### calls of defs -/
inductive Arg where
  | tmp (d : D) | slot (i : Nat)
section
variable (K : PySem.W.Frag) (H : Hp) (W : AS) (σ : L2.St)
def ArgsR : List Arg → AS → List V → Prop
  | [], _, vs => vs = []
  | .tmp d :: as, S, vs => ∃ v vr S1 S2, vs = v :: vr ∧ (∀ b, S1 b → S b) ∧ (∀ b, S2 b → S b) ∧ (∀ b, S1 b → ¬ S2 b) ∧ Rp K H W d S1 v ∧ ArgsR as S2 vr
  | .slot i :: as, S, vs => ∃ v vr, vs = v :: vr ∧ σ[i]? = some (some v) ∧ ArgsR as S vr
end
/-- the arguments' trees, and what is left of the slots; bs: which parameters the def may change -/
def argF : List Bool → List Arg → Env → Option (List D × Env)
  | [], [], e => some ([], e)
  | _ :: bs, .tmp d :: as, e => (argF bs as e).map fun p => (frz d :: p.1, p.2)
  | b :: bs, .slot i :: as, e => match e[i]? with
    | some (some d) => if b = true then (argF bs as (e.set i none)).map fun p => (d :: p.1, p.2) else (argF bs as (e.set i (some (frz d)))).map fun p => (frz d :: p.1, p.2)
    | _ => none
  | _, _, _ => none
/-- what the def left of the parameters, put back -/
def backF : List Bool → List Arg → Env → Env → Env
  | b :: bs, .tmp _ :: as, _ :: os, e => backF bs as os e
  | b :: bs, .slot i :: as, o :: os, e => if b = true then (match o with | some d => (backF bs as os e).set i (some d) | none => backF bs as os e) else backF bs as os e
  | _, _, _, e => e

section
variable {K : PySem.W.Frag} {G : Cfg} {H H' : Hp} {R S S1 S2 S' W : AS} {e e' : Env} {σ : L2.St} {d : D} {v : V}
theorem ArgsR.keep {W' U : AS} (k : Kp H H' W W' U) : ∀ (as : List Arg) (S S' : AS) (vs : List V), (∀ b, S b → S' b) → (∀ b, S b → ¬ U b) → ArgsR K H W σ as S vs → ArgsR K H' W' σ as S' vs
  | [], _, _, _, _, _, h => h
  | .tmp d :: as, S, S', vs, hs, hu, h => by
    obtain ⟨v, vr, S1, S2, e, h1, h2, h3, h4, h5⟩ := h
    exact ⟨v, vr, S1, S2, e, fun b z => hs b (h1 b z), fun b z => hs b (h2 b z), h3, Rp.keep k d _ _ _ (fun _ z => z) (fun b z => hu b (h1 b z)) h4, ArgsR.keep k as _ _ _ (fun _ z => z) (fun b z => hu b (h2 b z)) h5⟩
  | .slot i :: as, S, S', vs, hs, hu, h => by
    obtain ⟨v, vr, e, h1, h2⟩ := h
    exact ⟨v, vr, e, h1, ArgsR.keep k as _ _ _ hs hu h2⟩
theorem argF_len : ∀ {bs : List Bool} {as : List Arg} {e e2 : Env} {ds : List D}, argF bs as e = some (ds, e2) → ds.length = as.length ∧ bs.length = as.length
  | [], [], e, e2, ds, h => by
    simp [argF] at h
    simp [h.1]
  | [], a :: as, e, e2, ds, h => by
    cases a <;> simp [argF] at h
  | b :: bs, [], e, e2, ds, h => by simp [argF] at h
  | b :: bs, .tmp d :: as, e, e2, ds, h => by
    simp only [argF, Option.map_eq_some_iff] at h
    obtain ⟨p, hp, e1⟩ := h
    have q := argF_len (ds := p.1) (e2 := p.2) hp
    cases e1
    simp [q.1, q.2]
  | b :: bs, .slot i :: as, e, e2, ds, h => by
    unfold argF at h
    split at h
    · split at h
      · simp only [Option.map_eq_some_iff] at h
        obtain ⟨p, hp, e1⟩ := h
        have q := argF_len (ds := p.1) (e2 := p.2) hp
        cases e1
        simp [q.1, q.2]
      · simp only [Option.map_eq_some_iff] at h
        obtain ⟨p, hp, e1⟩ := h
        have q := argF_len (ds := p.1) (e2 := p.2) hp
        cases e1
        simp [q.1, q.2]
    · cases h
theorem args_take : ∀ (bs : List Bool) (as : List Arg) (W S1 S2 : AS) (vs : List V) (e e2 : Env) (ds : List D), ArgsR K H W σ as S1 vs → Er K H W e S2 σ → argF bs as e = some (ds, e2) →
    ∃ Sc Sr : AS, (∀ a, Sc a → S2 a) ∧ (∀ a, Sr a → S2 a) ∧ (∀ a, Sc a → ¬ Sr a) ∧
      ∀ W' : AS, (∀ a, W' a → W a ∧ ¬ S1 a ∧ (S2 a → Sc a ∨ Sr a)) → Rps K H W' ds Sc vs ∧ Er K H W' e2 Sr σ
  | [], [], W, S1, S2, vs, e, e2, ds, ha, he, h => by
    simp [argF] at h
    obtain ⟨rfl, rfl⟩ := h
    exact ⟨noS, S2, fun _ z => z.elim, fun _ z => z, fun _ z => z.elim, fun W' hw => ⟨ha, he.mono (fun a z => (hw a z).1) fun _ z => z⟩⟩
  | [], a :: as, W, S1, S2, vs, e, e2, ds, ha, he, h => by
    cases a <;> simp [argF] at h
  | b :: bs, [], W, S1, S2, vs, e, e2, ds, ha, he, h => by simp [argF] at h
  | b :: bs, .tmp d :: as, W, S1, S2, vs, e, e2, ds, ha, he, h => by
    simp only [argF, Option.map_eq_some_iff] at h
    obtain ⟨⟨ds', e3⟩, hp, e1⟩ := h
    cases e1
    obtain ⟨v, vr, T1, T2, ev, h1, h2, h3, h4, h5⟩ := ha
    subst ev
    obtain ⟨Sc, Sr, c1, c2, c3, k⟩ := args_take bs as W T2 S2 vr e e3 ds' h5 he hp
    refine ⟨Sc, Sr, c1, c2, c3, fun W' hw => ?_⟩
    obtain ⟨q1, q2⟩ := k W' fun a z => ⟨(hw a z).1, fun y => (hw a z).2.1 (h2 a y), (hw a z).2.2⟩
    refine ⟨⟨v, vr, noS, Sc, rfl, fun _ z => z.elim, fun _ z => z, fun _ z => z.elim, Rp.frz d T1 v h4 fun a z => ⟨(hw a z).1, fun y => (hw a z).2.1 (h1 a y)⟩, q1⟩, q2⟩
  | b :: bs, .slot i :: as, W, S1, S2, vs, e, e2, ds, ha, he, h => by
    obtain ⟨v, vr, ev, hv, hr⟩ := ha
    subst ev
    unfold argF at h
    split at h
    · rename_i d hd
      obtain ⟨v', Sa, Sb, hv', h1, h2, h3, h4, h5⟩ := he.get hd
      have evv : v' = v := by rw [hv] at hv'; cases hv'; rfl
      subst evv
      split at h
      · simp only [Option.map_eq_some_iff] at h
        obtain ⟨⟨ds', e3⟩, hp, e1⟩ := h
        cases e1
        obtain ⟨Sc, Sr, c1, c2, c3, k⟩ := args_take bs as W S1 Sb vr _ e3 ds' hr h5 hp
        refine ⟨fun a => Sa a ∨ Sc a, Sr, fun a z => z.elim (h1 a) fun y => h2 a (c1 a y), fun a z => h2 a (c2 a z), fun a z y => z.elim (fun q => h3 a q (c2 a y)) fun q => c3 a q y, fun W' hw => ?_⟩
        obtain ⟨q1, q2⟩ := k W' fun a z => ⟨(hw a z).1, (hw a z).2.1, fun y => ((hw a z).2.2 (h2 a y)).elim (fun q => q.elim (fun w => absurd y (h3 a w)) .inl) .inr⟩
        exact ⟨⟨v', vr, Sa, Sc, rfl, fun _ z => .inl z, fun _ z => .inr z, fun a z y => h3 a z (c1 a y), h4.mono (fun a z => (hw a z).1) fun _ z => z, q1⟩, q2⟩
      · simp only [Option.map_eq_some_iff] at h
        obtain ⟨⟨ds', e3⟩, hp, e1⟩ := h
        cases e1
        have hf : Rp K H (fun a => W a ∧ ¬ Sa a) (frz d) noS v' := Rp.frz d Sa v' h4 fun a z => z
        have he' : Er K H (fun a => W a ∧ ¬ Sa a) (e.set i (some (frz d))) Sb σ := Er.back (h5.mono (fun a z => z.1) fun _ z => z) hv hf (fun _ z => z.elim) (fun _ z => z) fun _ z => z.elim
        obtain ⟨Sc, Sr, c1, c2, c3, k⟩ := args_take bs as (fun a => W a ∧ ¬ Sa a) S1 Sb vr _ e3 ds' (ArgsR.keep (Kp.less fun a z => z.1) as S1 S1 vr (fun _ z => z) (fun _ _ z => z) hr) he' hp
        refine ⟨Sc, Sr, fun a z => h2 a (c1 a z), fun a z => h2 a (c2 a z), c3, fun W' hw => ?_⟩
        have ns : ∀ a, W' a → ¬ Sa a := fun a z y => ((hw a z).2.2 (h1 a y)).elim (fun q => h3 a y (c1 a q)) fun q => h3 a y (c2 a q)
        obtain ⟨q1, q2⟩ := k W' fun a z => ⟨⟨(hw a z).1, ns a z⟩, (hw a z).2.1, fun y => (hw a z).2.2 (h2 a y)⟩
        exact ⟨⟨v', vr, noS, Sc, rfl, fun _ z => z.elim, fun _ z => z, fun _ z => z.elim, hf.mono (fun a z => ⟨(hw a z).1, ns a z⟩) fun _ z => z, q1⟩, q2⟩
    · cases h
theorem args_back : ∀ (bs : List Bool) (as : List Arg) (W W0 S0 S1 S2 : AS) (H0 : Hp) (vs : List V) (outs e : Env), ArgsR K H0 W0 σ as S0 vs → Er K H W outs S1 (vs.map some) → Er K H W e S2 σ → (∀ a, S1 a → ¬ S2 a) → Er K H W (backF bs as outs e) (fun a => S1 a ∨ S2 a) σ := by
  have base : ∀ (W S1 S2 : AS) (e : Env), Er K H W e S2 σ → Er K H W e (fun a => S1 a ∨ S2 a) σ := fun W S1 S2 e h => h.mono (fun _ z => z) fun _ z => .inr z
  intro bs
  induction bs with
  | nil => intro as W W0 S0 S1 S2 H0 vs outs e ha ho he hd; unfold backF; exact base W S1 S2 e he
  | cons b bs ih =>
    intro as W W0 S0 S1 S2 H0 vs outs e ha ho he hd
    cases as with
    | nil => unfold backF; exact base W S1 S2 e he
    | cons a as =>
      cases outs with
      | nil => cases a <;> (unfold backF; exact base W S1 S2 e he)
      | cons o os =>
        cases a with
        | tmp d =>
          obtain ⟨v, vr, T1, T2, ev, h1, h2, h3, h4, h5⟩ := ha
          subst ev
          unfold backF
          have hos : Er K H W os S1 (vr.map some) := by
            cases o with
            | none => obtain ⟨_, _, e1, k⟩ := ho; cases e1; exact k
            | some d' => obtain ⟨_, _, _, _, e1, _, k2, _, _, k⟩ := ho; cases e1; exact k.mono (fun _ z => z) k2
          exact ih as W W0 _ S1 S2 H0 vr os e h5 hos he hd
        | slot i =>
          obtain ⟨v, vr, ev, hv, hr⟩ := ha
          subst ev
          unfold backF
          cases o with
          | none =>
            obtain ⟨_, _, e1, k⟩ := ho
            cases e1
            have q := ih as W W0 _ S1 S2 H0 vr os e hr k he hd
            split <;> exact q
          | some d' =>
            obtain ⟨v', _, T1, T2, e1, k1, k2, k3, k4, k⟩ := ho
            cases e1
            split
            · have q := ih as W W0 _ T2 S2 H0 vr os e hr k he fun a z => hd a (k2 a z)
              refine Er.put' (S1 := T1) q hv k4 (fun a z => .inl (k1 a z)) (fun a z => z.imp (k2 a) id) fun a z y => y.elim (k3 a z) (hd a (k1 a z))
            · exact ih as W W0 _ S1 S2 H0 vr os e hr (k.mono (fun _ z => z) k2) he hd
/-- the trees of the arguments are the slots of the callee -/
theorem Rps.er : ∀ {ds : List D} {S : AS} {vs : List V}, Rps K H W ds S vs → Er K H W (ds.map some) S (vs.map some)
  | [], _, _, h => by have h' : _ = _ := h; subst h'; rfl
  | d :: ds, S, _, h => by
    obtain ⟨v, vr, S1, S2, e, h1, h2, h3, h4, h5⟩ := h
    subst e
    exact ⟨v, vr.map some, S1, S2, rfl, h1, h2, h3, h4, h5.er⟩
end

/-- arguments: names by their slots, all else by value -/
structure Ensa (K : PySem.W.Frag) (H : Hp) (R S1 S2 : AS) (as : List Arg) (vs : List V) (e : Env) (σ : L2.St) : Prop where
  d12 : ∀ a, S1 a → ¬ S2 a
  dis : ∀ a, S1 a ∨ S2 a → ¬ R a
  trk : ∀ a, S1 a ∨ S2 a ∨ R a → H a ≠ none
  rp : ArgsR K H (fun a => S1 a ∨ S2 a ∨ R a) σ as S1 vs
  er : Er K H (fun a => S1 a ∨ S2 a ∨ R a) e S2 σ
abbrev AFs := Env → Res (List Arg × Env)
def GEnd (G : Cfg) (R S : AS) (σ : L2.St) (H : Hp) (Q : List V → Hp → Prop) : Res (List Arg × Env) → Prop
  | .ok (as, e') => ∀ vs H' S1 S2, Fr H H' S (fun a => S1 a ∨ S2 a) → Ensa G.K H' R S1 S2 as vs e' σ → Q vs H'
  | .err x e' => ErrP G R S H σ x e'
  | .bad => False
def tAs (G : Cfg) (f : AFs) : TA := fun σ H Q => ∃ R S e, Sta G.K H R S e σ ∧ GEnd G R S σ H Q (f e)
section
variable {X : Cx} {G : Cfg} {H H' : Hp} {R S S1 S2 S' W : AS} {e e' : Env} {σ : L2.St} {ex : Expr} {es : List Expr}
def anil : AFs := fun e => .ok ([], e)
def aslot (i : Nat) (fr : AFs) : AFs := fun e => match e[i]? with
  | some (some _) => (fr e).bind fun (as, e1) => .ok (.slot i :: as, e1)
  | _ => .bad
def aval (fa : DF) (fr : AFs) : AFs := fun e => (fa e).bind fun (x, e1) => (fr e1).bind fun (as, e2) => .ok (.tmp x :: as, e2)
theorem a_nil : ∀ σ H Q, tAs G anil σ H Q → tNil σ H Q := fun σ H Q ⟨R, S, e, st, q⟩ => by
  refine q [] H noS S (Fr.less Fr.refl fun x z => z.elim (fun y => y.elim) id) ⟨fun _ z => z.elim, fun a z => st.dis a (z.elim (fun y => y.elim) id), fun a z => st.trk a (z.elim (fun y => y.elim) id), rfl, ?_⟩
  exact st.er.mono (fun a z => z.elim (fun y => y.elim) id) fun _ z => z
theorem a_slot {i : Nat} {fr : AFs} : ∀ σ H Q, tAs G (aslot i fr) σ H Q → tCons (tVar i) (tAs G fr) σ H Q := fun σ H Q ⟨R, S, e, st, q⟩ => by
  unfold aslot at q
  split at q
  · rename_i d hd
    obtain ⟨v, S1, S2, hv, h1, h2, h3, h4, h5⟩ := st.er.get hd
    refine ⟨v, hv, R, S, e, st, ?_⟩
    cases hb : fr e with
    | bad => rw [hb] at q; exact q.elim
    | err x e1 => rw [hb] at q; exact q
    | ok p =>
      obtain ⟨as, e1⟩ := p
      rw [hb] at q
      intro vs H' S1 S2 f n
      exact q (v :: vs) H' S1 S2 f ⟨n.d12, n.dis, n.trk, ⟨v, vs, rfl, hv, n.rp⟩, n.er⟩
  · exact q.elim
theorem a_val {fa : DF} {fr : AFs} : ∀ σ H Q, tAs G (aval fa fr) σ H Q → tCons (tD G fa) (tAs G fr) σ H Q := fun σ H Q ⟨R, S, e, st, q⟩ => by
  refine ⟨R, S, e, st, ?_⟩
  unfold aval at q
  cases ha : fa e with
  | bad => rw [ha] at q; exact q.elim
  | err x e1 => rw [ha] at q; exact q
  | ok p =>
    obtain ⟨x, e1⟩ := p
    rw [ha] at q
    intro v1 H1 S1 S2 f1 n1
    refine ⟨fun a => R a ∨ S1 a, S2, e1, n1.sta, ?_⟩
    dsimp only [Res.bind] at q
    cases hb : fr e1 with
    | bad => rw [hb] at q; exact q.elim
    | err x e2 =>
      rw [hb] at q
      intro H2 S' f2 st2 C hC
      exact q H2 S' ((Fr.seq f1 f2).less fun _ z => .inr z) (st2.lessR fun _ z => .inl z) C hC
    | ok p =>
      obtain ⟨y, e2⟩ := p
      rw [hb] at q
      intro v2 H2 S3 S4 f2 n2
      dsimp only at q
      have r1 : Rp G.K H2 (fun a => S1 a ∨ S3 a ∨ S4 a ∨ R a) x S1 v1 := Rp.aside n1.rp n1.d12 f2 fun a z => n1.trk a (.inl z)
      have dR := n2.dis
      have dT := n2.trk
      have rot : ∀ a, ((S1 a ∨ S3 a) ∨ S4 a ∨ R a) → (S3 a ∨ S4 a ∨ R a ∨ S1 a) := fun a z => by
        rcases z with (z | z) | z | z
        · exact .inr (.inr (.inr z))
        · exact .inl z
        · exact .inr (.inl z)
        · exact .inr (.inr (.inl z))
      refine q (v1 :: v2) H2 (fun a => S1 a ∨ S3 a) S4 ?_ ⟨fun a z y => ?_, fun a z y => ?_, fun a z => ?_, ?_, ?_⟩
      · exact (Fr.seq f1 f2).less fun a z => z.elim (fun w => w.imp id .inl) fun w => .inr (.inr w)
      · exact z.elim (fun w => dR a (.inr y) (.inr w)) fun w => n2.d12 a w y
      · rcases z with (z | z) | z
        · exact n1.dis a (.inl z) y
        · exact dR a (.inl z) (.inl y)
        · exact dR a (.inr z) (.inl y)
      · exact dT a (rot a z)
      · refine ⟨v1, v2, S1, S3, rfl, fun _ z => .inl z, fun _ z => .inr z, fun a z y => dR a (.inl y) (.inr z), ?_, ?_⟩
        · refine r1.mono (fun a z => ?_) fun _ z => z
          rcases z with (z | z) | z | z
          · exact .inl z
          · exact .inr (.inl z)
          · exact .inr (.inr (.inl z))
          · exact .inr (.inr (.inr z))
        · exact ArgsR.keep (Kp.less rot) y S3 S3 v2 (fun _ z => z) (fun _ _ z => z) n2.rp
      · exact n2.er.mono rot fun _ z => z

/-! ### a def's promise -/
abbrev FF := List D → Res (D × Env)
def spD (K : PySem.W.Frag) (mg : Str → Option Value) (n : Nat) (F : FF) : Sp := fun vs H Q E => vs.length = n ∧ ∃ R S ds, Sta K H R S (ds.map some) (vs.map some) ∧ DEnd ⟨K, mg, fun c d _ H' => E c d H'⟩ R S (vs.map some) H Q (F ds)
def isAtom : D → Bool
  | .non => true
  | .bl _ => true
  | .int _ => true
  | .str _ => true
  | _ => false
theorem Rp.atom {K : PySem.W.Frag} {W' : AS} {d : D} {v : V} (h : Rp K H W d S v) (a : isAtom d = true) : Rp K H' W' d S' v := by
  cases d <;> first | exact h | cases a
def ecall (F : FF) (bs : List Bool) (fs : AFs) : DF := fun e => (fs e).bind fun (as, e1) => match argF bs as e1 with
  | none => .bad
  | some (ds, e2) => match F ds with
    | .ok (d, outs) => .ok (d, if (isAtom d && !bs.any id) = true then e1 else backF bs as outs e2)
    | .err x outs => .err x (backF bs as outs e2)
    | .bad => .bad
theorem e_call {F : FF} {bs : List Bool} {fs : AFs} {n : Nat} (hn : bs.length = n) :
    ∀ σ H Q, tD G (ecall F bs fs) σ H Q → tAs G fs σ H (fun vs H1 => spD G.K G.mg n F vs H1 Q (fun c d H' => G.wx c d σ H')) := fun σ H Q ⟨R, S, e, st, q⟩ => by
  refine ⟨R, S, e, st, ?_⟩
  unfold ecall at q
  cases ha : fs e with
  | bad => rw [ha] at q; exact q.elim
  | err x e1 => rw [ha] at q; exact q
  | ok p =>
    obtain ⟨as, e1⟩ := p
    rw [ha] at q
    intro vs H1 S1 S2 f1 n1
    dsimp only [Res.bind] at q
    cases hf : argF bs as e1 with
    | none => rw [hf] at q; exact q.elim
    | some p =>
      obtain ⟨ds, e2⟩ := p
      rw [hf] at q
      dsimp only at q
      obtain ⟨Sc, Sr, c1, c2, c3, k⟩ := args_take bs as _ S1 S2 vs e1 e2 ds n1.rp n1.er hf
      obtain ⟨q1, q2⟩ := k (fun a => Sc a ∨ Sr a ∨ R a) fun a z => by
        rcases z with z | z | z
        · exact ⟨.inr (.inl (c1 a z)), fun y => n1.d12 a y (c1 a z), fun _ => .inl z⟩
        · exact ⟨.inr (.inl (c2 a z)), fun y => n1.d12 a y (c2 a z), fun _ => .inr z⟩
        · exact ⟨.inr (.inr z), fun y => n1.dis a (.inl y) z, fun y => absurd z (n1.dis a (.inr y))⟩
      have hl := argF_len hf
      refine ⟨by rw [q1.length, hl.1, ← hl.2, hn], ?_⟩
      have f1' : Fr H H1 S S2 := f1.less fun _ z => .inr z
      -- the general way
      have gen : ∀ H2 S3 outs (T : AS), Fr H1 H2 Sc (fun a => T a ∨ S3 a) → (∀ a, T a ∨ S3 a → ¬ (R a ∨ Sr a)) → (∀ a, T a → ¬ S3 a) → (∀ a, T a ∨ S3 a ∨ R a ∨ Sr a → H2 a ≠ none) → Er G.K H2 (fun a => T a ∨ S3 a ∨ R a ∨ Sr a) outs S3 (vs.map some) →
          Fr H H2 S (fun a => T a ∨ S3 a ∨ Sr a) ∧ (∀ a, S3 a ∨ Sr a → ¬ R a) ∧ (∀ a, T a → ¬ (S3 a ∨ Sr a)) ∧ Er G.K H2 (fun a => T a ∨ (S3 a ∨ Sr a) ∨ R a) (backF bs as outs e2) (fun a => S3 a ∨ Sr a) σ := by
        intro H2 S3 outs T f2 dd d12 tt er
        have keepAll : ∀ a o, H1 a = some o → ¬ Sc a → H2 a = some o := f2.keep
        refine ⟨⟨fun a o h hs => ?_, fun a z => ?_⟩, fun a z y => ?_, fun a z y => ?_, ?_⟩
        · refine f2.keep a o (f1'.keep a o h hs) fun z => ?_
          exact (f1'.new a (c1 a z)).elim hs fun w => by rw [h] at w; cases w
        · have z' : (T a ∨ S3 a) ∨ Sr a := z.elim (fun w => .inl (.inl w)) fun w => w.elim (fun u => .inl (.inr u)) .inr
          rcases z' with z' | z'
          · rcases f2.new a z' with w | w
            · exact f1'.new a (c1 a w)
            · cases q3 : H a with
              | none => exact .inr rfl
              | some o =>
                by_cases hs : S a
                · exact .inl hs
                · have := f1'.keep a o q3 hs
                  rw [w] at this; cases this
          · exact f1'.new a (c2 a z')
        · rcases z with z | z
          · exact dd a (.inr z) (.inl y)
          · exact n1.dis a (.inr (c2 a z)) y
        · rcases y with y | y
          · exact d12 a z y
          · exact dd a (.inl z) (.inr y)
        · have kk : Kp H1 H2 (fun a => Sc a ∨ Sr a ∨ R a) (fun a => T a ∨ S3 a ∨ R a ∨ Sr a) Sc := ⟨f2.keep, fun a z => .inl z, fun a z => by
            rcases z with z | z | z | z
            · exact (f2.new a (.inl z)).imp .inl id
            · exact (f2.new a (.inr z)).imp .inl id
            · exact .inl (.inr (.inr z))
            · exact .inl (.inr (.inl z))⟩
          have er2 : Er G.K H2 (fun a => T a ∨ S3 a ∨ R a ∨ Sr a) e2 Sr σ := Er.keep kk e2 Sr Sr σ (fun _ z => z) (fun b z y => c3 b y z) q2
          have r := args_back bs as (fun a => T a ∨ S3 a ∨ R a ∨ Sr a) _ S1 S3 Sr H1 vs outs e2 n1.rp er er2 fun a z y => dd a (.inr z) (.inr y)
          refine r.mono (fun a z => ?_) fun _ z => z
          rcases z with z | (z | z) | z
          · exact .inl z
          · exact .inr (.inl z)
          · exact .inr (.inr (.inr z))
          · exact .inr (.inr (.inl z))
      by_cases hb : bs.any id = true
      · refine ⟨fun a => R a ∨ Sr a, Sc, ds, ⟨fun a z y => y.elim (n1.dis a (.inr (c1 a z))) (c3 a z), fun a z => ?_, ?_⟩, ?_⟩
        · rcases z with z | z | z
          · exact n1.trk a (.inr (.inl (c1 a z)))
          · exact n1.trk a (.inr (.inr z))
          · exact n1.trk a (.inr (.inl (c2 a z)))
        · exact (q1.mono (W' := fun a => Sc a ∨ R a ∨ Sr a) (fun a z => z.imp id fun w => w.symm) fun _ z => z).er
        · cases hF : F ds with
          | bad => rw [hF] at q; exact q.elim
          | err x outs =>
            rw [hF] at q
            intro H2 S3 f2 st2 C hC
            obtain ⟨g1, g2, g3, g4⟩ := gen H2 S3 outs noS (f2.less fun a z => z.elim (fun y => y.elim) id) (fun a z => st2.dis a (z.elim (fun y => y.elim) id)) (fun _ z => z.elim) (fun a z => st2.trk a (z.elim (fun y => y.elim) id)) (st2.er.mono (fun a z => z.elim (fun y => y.elim) id) fun _ z => z)
            refine q H2 (fun a => S3 a ∨ Sr a) (g1.less fun a z => .inr z) ⟨g2, fun a z => ?_, g4.mono (fun a z => .inr z) fun _ z => z⟩ C hC
            rcases z with (z | z) | z
            · exact st2.trk a (.inl z)
            · exact st2.trk a (.inr (.inr z))
            · exact st2.trk a (.inr (.inl z))
          | ok p =>
            obtain ⟨d, outs⟩ := p
            rw [hF] at q
            dsimp only at q
            rw [hb, Bool.not_true, Bool.and_false, if_neg Bool.false_ne_true] at q
            intro v H2 T S3 f2 n2
            obtain ⟨g1, g2, g3, g4⟩ := gen H2 S3 outs T f2 n2.dis n2.d12 n2.trk n2.er
            refine q v H2 T (fun a => S3 a ∨ Sr a) g1 ⟨g3, fun a z => z.elim (fun w y => n2.dis a (.inl w) (.inl y)) (g2 a), fun a z => ?_, ?_, g4⟩
            · rcases z with z | (z | z) | z
              · exact n2.trk a (.inl z)
              · exact n2.trk a (.inr (.inl z))
              · exact n2.trk a (.inr (.inr (.inr z)))
              · exact n2.trk a (.inr (.inr (.inl z)))
            · refine n2.rp.mono (fun a z => ?_) fun _ z => z
              rcases z with z | (z | z) | z
              · exact .inl z
              · exact .inr (.inl z)
              · exact .inr (.inr (.inr z))
              · exact .inr (.inr (.inl z))
      · have hb' : bs.any id = false := by simpa using hb
        -- no parameter may change: the slots stay as they are where an atom comes back
        by_cases hat : ∃ d outs, F ds = .ok (d, outs) ∧ isAtom d = true
        · obtain ⟨d, outs, hF, hd⟩ := hat
          rw [hF] at q
          dsimp only at q
          rw [hb', hd] at q
          have q' : ∀ v H' S1 S2, Fr H H' S (fun a => S1 a ∨ S2 a) → Ens G.K H' R S1 S2 d v e1 σ → Q v H' := q
          have fzs : allFrz ds = true := by
            have all : ∀ (bs : List Bool) (as : List Arg) (e e2 : Env) (ds : List D), bs.any id = false → argF bs as e = some (ds, e2) → allFrz ds = true := by
              intro bs
              induction bs with
              | nil =>
                intro as e e2 ds _ h
                cases as with
                | nil => simp [argF] at h; rw [h.1]; rfl
                | cons a as => cases a <;> simp [argF] at h
              | cons b bs ih =>
                intro as e e2 ds hb h
                rw [List.any_cons, Bool.or_eq_false_iff] at hb
                cases as with
                | nil => simp [argF] at h
                | cons a as =>
                  cases a with
                  | tmp d =>
                    simp only [argF, Option.map_eq_some_iff] at h
                    obtain ⟨⟨ds', e3⟩, hp, e1⟩ := h
                    cases e1
                    rw [allFrz, isFrz_frz, ih as e e3 ds' hb.2 hp]; rfl
                  | slot i =>
                    unfold argF at h
                    split at h
                    · rw [if_neg (by have := hb.1; simpa using this)] at h
                      simp only [Option.map_eq_some_iff] at h
                      obtain ⟨⟨ds', e3⟩, hp, e1⟩ := h
                      cases e1
                      rw [allFrz, isFrz_frz, ih as _ e3 ds' hb.2 hp]; rfl
                    · cases h
            exact all bs as e1 e2 ds hb' hf
          refine ⟨fun a => R a ∨ Sr a, noS, ds, ⟨fun _ z => z.elim, fun a z => ?_, ?_⟩, ?_⟩
          · rcases z with z | z | z
            · exact z.elim
            · exact n1.trk a (.inr (.inr z))
            · exact n1.trk a (.inr (.inl (c2 a z)))
          · exact ((Rps.nown ds Sc vs fzs q1).mono (W' := fun a => noS a ∨ R a ∨ Sr a) (fun a z => z.elim (fun y => y.elim) fun w => .inr w.symm) fun _ z => z).er
          · rw [hF]
            intro v H2 T S3 f2 n2
            have kk : ∀ W' : AS, (∀ a, W' a → (S1 a ∨ S2 a ∨ R a)) → Kp H1 H2 (fun a => S1 a ∨ S2 a ∨ R a) W' noS := fun W' h => ⟨fun a o h' _ => f2.keep a o h' fun z => z, fun _ z => z.elim, fun a z => .inl (h a z)⟩
            refine q' v H2 noS S2 ⟨fun a o h hs => f2.keep a o (f1'.keep a o h hs) fun z => z, fun a z => f1'.new a (z.elim (fun y => y.elim) id)⟩ ⟨fun _ z => z.elim, fun a z => n1.dis a (.inr (z.elim (fun y => y.elim) id)), fun a z => ?_, n2.rp.atom hd, ?_⟩
            · have z' := z.elim (fun y => y.elim) id
              have w := n1.trk a (.inr z')
              cases e3 : H1 a with
              | none => exact absurd e3 w
              | some o => rw [f2.keep a o e3 fun z => z]; exact fun z => by cases z
            · exact Er.keep (kk _ fun a z => .inr (z.elim (fun y => y.elim) id)) e1 S2 S2 σ (fun _ z => z) (fun _ _ z => z) n1.er
        · refine ⟨fun a => R a ∨ Sr a, Sc, ds, ⟨fun a z y => y.elim (n1.dis a (.inr (c1 a z))) (c3 a z), fun a z => ?_, ?_⟩, ?_⟩
          · rcases z with z | z | z
            · exact n1.trk a (.inr (.inl (c1 a z)))
            · exact n1.trk a (.inr (.inr z))
            · exact n1.trk a (.inr (.inl (c2 a z)))
          · exact (q1.mono (W' := fun a => Sc a ∨ R a ∨ Sr a) (fun a z => z.imp id fun w => w.symm) fun _ z => z).er
          · cases hF : F ds with
            | bad => rw [hF] at q; exact q.elim
            | err x outs =>
              rw [hF] at q
              intro H2 S3 f2 st2 C hC
              obtain ⟨g1, g2, g3, g4⟩ := gen H2 S3 outs noS (f2.less fun a z => z.elim (fun y => y.elim) id) (fun a z => st2.dis a (z.elim (fun y => y.elim) id)) (fun _ z => z.elim) (fun a z => st2.trk a (z.elim (fun y => y.elim) id)) (st2.er.mono (fun a z => z.elim (fun y => y.elim) id) fun _ z => z)
              refine q H2 (fun a => S3 a ∨ Sr a) (g1.less fun a z => .inr z) ⟨g2, fun a z => ?_, g4.mono (fun a z => .inr z) fun _ z => z⟩ C hC
              rcases z with (z | z) | z
              · exact st2.trk a (.inl z)
              · exact st2.trk a (.inr (.inr z))
              · exact st2.trk a (.inr (.inl z))
            | ok p =>
              obtain ⟨d, outs⟩ := p
              have hd : isAtom d = false := by
                cases hq : isAtom d with
                | false => rfl
                | true => exact absurd ⟨d, outs, hF, hq⟩ hat
              rw [hF] at q
              dsimp only at q
              rw [hd, Bool.false_and, if_neg Bool.false_ne_true] at q
              intro v H2 T S3 f2 n2
              obtain ⟨g1, g2, g3, g4⟩ := gen H2 S3 outs T f2 n2.dis n2.d12 n2.trk n2.er
              refine q v H2 T (fun a => S3 a ∨ Sr a) g1 ⟨g3, fun a z => z.elim (fun w y => n2.dis a (.inl w) (.inl y)) (g2 a), fun a z => ?_, ?_, g4⟩
              · rcases z with z | (z | z) | z
                · exact n2.trk a (.inl z)
                · exact n2.trk a (.inr (.inl z))
                · exact n2.trk a (.inr (.inr (.inr z)))
                · exact n2.trk a (.inr (.inr (.inl z)))
              · refine n2.rp.mono (fun a z => ?_) fun _ z => z
                rcases z with z | (z | z) | z
                · exact .inl z
                · exact .inr (.inl z)
                · exact .inr (.inr (.inr z))
                · exact .inr (.inr (.inl z))
end
end DL

namespace DL
open PySem L2

/-! ### statements -/
inductive Fl where
  | next (e : Env) | ret (d : D) (e : Env) | brk (e : Env) | cont (e : Env) | err (x : Str) (e : Env) | bad
abbrev SF := Env → Fl
def Pin (pn : List Nat) (σ σ' : L2.St) : Prop := σ'.length = σ.length ∧ ∀ i ∈ pn, σ'[i]? = σ[i]?
theorem Pin.refl {pn : List Nat} {σ : L2.St} : Pin pn σ σ := ⟨rfl, fun _ _ => rfl⟩
theorem Pin.trans {pn : List Nat} {σ σ1 σ2 : L2.St} (a : Pin pn σ σ1) (b : Pin pn σ1 σ2) : Pin pn σ σ2 := ⟨b.1.trans a.1, fun i h => (b.2 i h).trans (a.2 i h)⟩
theorem Pin.set {pn : List Nat} {σ : L2.St} {i : Nat} {o : Option V} (h : i ∉ pn) : Pin pn σ (σ.set i o) := ⟨List.length_set, fun j hj => List.getElem?_set_ne fun e => h (by rw [e]; exact hj)⟩
def SEnd (G : Cfg) (pn : List Nat) (R S : AS) (σ : L2.St) (H : Hp) (D : Ends) : Fl → Prop
  | .next e' => ∀ σ' H' S', Pin pn σ σ' → Fr H H' S S' → Sta G.K H' R S' e' σ' → D.nx σ' H'
  | .brk e' => ∀ σ' H' S', Pin pn σ σ' → Fr H H' S S' → Sta G.K H' R S' e' σ' → D.bk σ' H'
  | .cont e' => ∀ σ' H' S', Pin pn σ σ' → Fr H H' S S' → Sta G.K H' R S' e' σ' → D.ct σ' H'
  | .ret d e' => ∀ σ' v H' S1 S2, Pin pn σ σ' → Fr H H' S (fun a => S1 a ∨ S2 a) → Ens G.K H' R S1 S2 d v e' σ' → D.rt v H'
  | .err x e' => ∀ σ' H' S', Pin pn σ σ' → Fr H H' S S' → Sta G.K H' R S' e' σ' → ∀ C : Addr, G.mg x = some (.ref C) → G.wx (.ref C) none σ' H'
  | .bad => False
def tS (G : Cfg) (pn : List Nat) (f : SF) : TS := fun D σ H => ∃ R S e, Sta G.K H R S e σ ∧ SEnd G pn R S σ H D (f e)

section
variable {X : Cx} {G : Cfg} {pn : List Nat} {H H1 H' : Hp} {R S S1 S2 S' W : AS} {e e' : Env} {σ σ1 : L2.St} {D1 : Ends}
/-- what is wanted behind, from a later state -/
theorem SEnd.later {D : Ends} {r : Fl} (h : SEnd G pn R S σ H D r) (p : Pin pn σ σ1) (f : Fr H H1 S S1) : SEnd G pn R S1 σ1 H1 D r := by
  cases r with
  | next e' => exact fun σ' H' S' p' f' s' => h σ' H' S' (p.trans p') (f.trans f') s'
  | brk e' => exact fun σ' H' S' p' f' s' => h σ' H' S' (p.trans p') (f.trans f') s'
  | cont e' => exact fun σ' H' S' p' f' s' => h σ' H' S' (p.trans p') (f.trans f') s'
  | ret d e' => exact fun σ' v H' S1 S2 p' f' s' => h σ' v H' S1 S2 (p.trans p') (f.trans f') s'
  | err x e' => exact fun σ' H' S' p' f' s' => h σ' H' S' (p.trans p') (f.trans f') s'
  | bad => exact h
theorem ErrP.of {D : Ends} {x : Str} (h : SEnd G pn R S σ H D (.err x e')) : ErrP G R S H σ x e' := fun H' S' f st C hC => h σ H' S' Pin.refl f st C hC
def sseq (f g : SF) : SF := fun e => match f e with
  | .next e' => g e'
  | r => r
theorem s_seq {f g : SF} : ∀ D σ H, tS G pn (sseq f g) D σ H → tSeq (tS G pn f) (tS G pn g) D σ H := fun D σ H ⟨R, S, e, st, q⟩ => by
  refine ⟨R, S, e, st, ?_⟩
  unfold sseq at q
  cases hf : f e with
  | next e' =>
    rw [hf] at q
    exact fun σ' H' S' p f s' => ⟨R, S', e', s', SEnd.later q p f⟩
  | brk e' => rw [hf] at q; exact q
  | cont e' => rw [hf] at q; exact q
  | ret d e' => rw [hf] at q; exact q
  | err x e' => rw [hf] at q; exact q
  | bad => rw [hf] at q; exact q
def spass : SF := fun e => .next e
theorem s_pass : ∀ D σ H, tS G pn spass D σ H → tNext D σ H := fun D σ H ⟨R, S, e, st, q⟩ => q σ H S Pin.refl Fr.refl st
def sbrk : SF := fun e => .brk e
theorem s_brk : ∀ D σ H, tS G pn sbrk D σ H → tBreak D σ H := fun D σ H ⟨R, S, e, st, q⟩ => q σ H S Pin.refl Fr.refl st
def scont : SF := fun e => .cont e
theorem s_cont : ∀ D σ H, tS G pn scont D σ H → tCont D σ H := fun D σ H ⟨R, S, e, st, q⟩ => q σ H S Pin.refl Fr.refl st
def sret (f : DF) : SF := fun e => match f e with
  | .ok (d, e') => .ret d e'
  | .err x e' => .err x e'
  | .bad => .bad
theorem s_ret {f : DF} : ∀ D σ H, tS G pn (sret f) D σ H → tRet (tD G f) D σ H := fun D σ H ⟨R, S, e, st, q⟩ => by
  refine ⟨R, S, e, st, ?_⟩
  unfold sret at q
  cases hf : f e with
  | ok p => obtain ⟨d, e'⟩ := p; rw [hf] at q; exact fun v H' S1 S2 f n => q σ v H' S1 S2 Pin.refl f n
  | err x e' => rw [hf] at q; exact ErrP.of q
  | bad => rw [hf] at q; exact q
/-- return x, x a name: what was own may be so for the caller -/
def sretv (i : Nat) : SF := fun e => match e[i]? with
  | some (some d) => .ret d (e.set i none)
  | _ => .bad
theorem s_retv {i : Nat} : ∀ D σ H, tS G pn (sretv i) D σ H → tRet (tVar i) D σ H := fun D σ H ⟨R, S, e, st, q⟩ => by
  unfold sretv at q
  split at q
  · rename_i d hd
    obtain ⟨v, S1, S2, hv, h1, h2, h3, h4, h5⟩ := st.er.get hd
    have hw : ∀ a, (S1 a ∨ S2 a ∨ R a) → (S a ∨ R a) := fun a z => z.elim (fun y => .inl (h1 a y)) fun y => y.imp (h2 a) id
    refine ⟨v, hv, q σ v H S1 S2 Pin.refl ⟨fun _ _ h _ => h, fun a z => .inl (z.elim (h1 a) (h2 a))⟩ ⟨h3, fun a z => st.dis a (z.elim (h1 a) (h2 a)), fun a z => st.trk a (hw a z), h4.mono hw fun _ z => z, h5.mono hw fun _ z => z⟩⟩
  · exact q.elim
def sretn : SF := fun e => .ret .non e
theorem s_retn : ∀ D σ H, tS G pn sretn D σ H → tRetN D σ H := fun D σ H ⟨R, S, e, st, q⟩ =>
  q σ .non H noS S Pin.refl (Fr.less Fr.refl fun x z => z.elim (fun y => y.elim) id) ⟨fun _ z => z.elim, fun a z => st.dis a (z.elim (fun y => y.elim) id), fun a z => st.trk a (z.elim (fun y => y.elim) id), rfl, st.er.mono (fun a z => z.elim (fun y => y.elim) id) fun _ z => z⟩
def sdrop (f : DF) : SF := fun e => match f e with
  | .ok (_, e') => .next e'
  | .err x e' => .err x e'
  | .bad => .bad
theorem s_drop {f : DF} : ∀ D σ H, tS G pn (sdrop f) D σ H → tDrop (tD G f) D σ H := fun D σ H ⟨R, S, e, st, q⟩ => by
  refine ⟨R, S, e, st, ?_⟩
  unfold sdrop at q
  cases hf : f e with
  | ok p => obtain ⟨d, e'⟩ := p; rw [hf] at q; exact fun v H' S1 S2 f n => q σ H' S2 Pin.refl (f.less fun a z => .inr z) n.drop
  | err x e' => rw [hf] at q; exact ErrP.of q
  | bad => rw [hf] at q; exact q

theorem Er.putA {K : PySem.W.Frag} {e : Env} {S1 S2 S : AS} {σ : L2.St} {i : Nat} {d : D} {v : V} (h : Er K H W e S2 σ) (hr : Rp K H W d S1 v) (h1 : ∀ b, S1 b → S b) (h2 : ∀ b, S2 b → S b) (h3 : ∀ b, S1 b → ¬ S2 b) :
    Er K H W (e.set i (some d)) S (σ.set i (some v)) := by
  by_cases hi : i < e.length
  · exact Er.put h hi hr h1 h2 h3
  · have e1 : e.set i (some d) = e := List.set_eq_of_length_le (by omega)
    have e2 : σ.set i (some v) = σ := List.set_eq_of_length_le (by rw [h.length]; omega)
    rw [e1, e2]
    exact h.mono (fun _ z => z) h2
/-- a value into a slot -/
theorem Ens.set {d : D} {v : V} (n : Ens G.K H R S1 S2 d v e σ) (i : Nat) : Sta G.K H R (fun a => S1 a ∨ S2 a) (e.set i (some d)) (σ.set i (some v)) :=
  ⟨n.dis, fun a z => n.trk a (by rcases z with (z | z) | z; exact .inl z; exact .inr (.inl z); exact .inr (.inr z)), Er.putA (n.er.mono (fun a z => by rcases z with (z | z) | z; exact .inl z; exact .inr (.inl z); exact .inr (.inr z)) fun _ z => z) (n.rp.mono (fun a z => by rcases z with (z | z) | z; exact .inl z; exact .inr (.inl z); exact .inr (.inr z)) fun _ z => z) (fun _ z => .inl z) (fun _ z => .inr z) n.d12⟩
def sset (i : Nat) (f : DF) : SF := fun e => match f e with
  | .ok (d, e') => .next (e'.set i (some d))
  | .err x e' => .err x e'
  | .bad => .bad
theorem s_set {i : Nat} {f : DF} (hp : i ∉ pn) : ∀ D σ H, tS G pn (sset i f) D σ H → tAsg (tD G f) (gName i) D σ H := fun D σ H ⟨R, S, e, st, q⟩ => by
  refine ⟨R, S, e, st, ?_⟩
  unfold sset at q
  cases hf : f e with
  | ok p => obtain ⟨d, e'⟩ := p; rw [hf] at q; exact fun v H' S1 S2 f n => q (σ.set i (some v)) H' _ (Pin.set hp) f (n.set i)
  | err x e' => rw [hf] at q; exact ErrP.of q
  | bad => rw [hf] at q; exact q

/-! ### tests -/
abbrev TF := Env → Res (Bool × Env)
def TEnd (G : Cfg) (R S : AS) (σ : L2.St) (H : Hp) (Q : Bool → Hp → Prop) : Res (Bool × Env) → Prop
  | .ok (b, e') => ∀ H' S', Fr H H' S S' → Sta G.K H' R S' e' σ → Q b H'
  | .err x e' => ErrP G R S H σ x e'
  | .bad => False
def tT (G : Cfg) (f : TF) : TT := fun σ H Q => ∃ R S e, Sta G.K H R S e σ ∧ TEnd G R S σ H Q (f e)
def toB : D → Option Bool
  | .bl b => some b
  | _ => none
theorem toB_some {d : D} {b : Bool} (h : toB d = some b) : d = .bl b := by
  cases d <;> simp [toB] at h
  rw [h]
/-- a test by what changes nothing -/
def tfP (f : PF) : TF := fun e => match (f e).bind toB with
  | some b => .ok (b, e)
  | none => .bad
theorem t_P {f : PF} : ∀ σ H Q, tT G (tfP f) σ H Q → tB (tP G.K f) σ H Q := fun σ H Q ⟨R, S, e, st, q⟩ => by
  unfold tfP at q
  split at q
  · rename_i b hb
    cases hf : f e with
    | none => rw [hf] at hb; cases hb
    | some d =>
      rw [hf] at hb
      have hd := toB_some hb
      subst hd
      exact ⟨R, S, e, .bl b, st, hf, fun v rv => ⟨b, rv, q H S Fr.refl st⟩⟩
  · exact q.elim
def tfD (f : DF) : TF := fun e => (f e).bind fun (d, e1) => ofO (toB d) e1
theorem t_D {f : DF} : ∀ σ H Q, tT G (tfD f) σ H Q → tB (tD G f) σ H Q := fun σ H Q ⟨R, S, e, st, q⟩ => by
  refine ⟨R, S, e, st, ?_⟩
  unfold tfD at q
  cases hf : f e with
  | bad => rw [hf] at q; exact q.elim
  | err x e1 => rw [hf] at q; exact q
  | ok p =>
    obtain ⟨d, e1⟩ := p
    rw [hf] at q
    dsimp only [Res.bind] at q
    cases hb : toB d with
    | none => rw [hb] at q; exact q.elim
    | some b =>
      rw [hb] at q
      have hd := toB_some hb
      subst hd
      exact fun v H' S1 S2 f n => ⟨b, n.rp, q H' S2 (f.less fun a z => .inr z) n.drop⟩
theorem TEnd.later {Q : Bool → Hp → Prop} {r : Res (Bool × Env)} (h : TEnd G R S σ H Q r) (f : Fr H H1 S S1) : TEnd G R S1 σ H1 Q r := by
  cases r with
  | ok p => exact fun H' S' f' s' => h H' S' (f.trans f') s'
  | err x e' => exact fun H' S' f' s' => h H' S' (f.trans f') s'
  | bad => exact h
def tfand (f g : TF) : TF := fun e => (f e).bind fun (b, e1) => if b = true then g e1 else .ok (false, e1)
theorem t_and {f g : TF} : ∀ σ H Q, tT G (tfand f g) σ H Q → tAnd (tT G f) (tT G g) σ H Q := fun σ H Q ⟨R, S, e, st, q⟩ => by
  refine ⟨R, S, e, st, ?_⟩
  unfold tfand at q
  cases hf : f e with
  | bad => rw [hf] at q; exact q.elim
  | err x e1 => rw [hf] at q; exact q
  | ok p =>
    obtain ⟨b, e1⟩ := p
    rw [hf] at q
    dsimp only [Res.bind] at q
    intro H' S' f st'
    cases b with
    | true => exact ⟨R, S', e1, st', TEnd.later q f⟩
    | false => exact q H' S' f st'
def tfor (f g : TF) : TF := fun e => (f e).bind fun (b, e1) => if b = true then .ok (true, e1) else g e1
theorem t_or {f g : TF} : ∀ σ H Q, tT G (tfor f g) σ H Q → tOr (tT G f) (tT G g) σ H Q := fun σ H Q ⟨R, S, e, st, q⟩ => by
  refine ⟨R, S, e, st, ?_⟩
  unfold tfor at q
  cases hf : f e with
  | bad => rw [hf] at q; exact q.elim
  | err x e1 => rw [hf] at q; exact q
  | ok p =>
    obtain ⟨b, e1⟩ := p
    rw [hf] at q
    dsimp only [Res.bind] at q
    intro H' S' f st'
    cases b with
    | false => exact ⟨R, S', e1, st', TEnd.later q f⟩
    | true => exact q H' S' f st'
def tfnot (f : TF) : TF := fun e => (f e).bind fun (b, e1) => .ok (!b, e1)
theorem t_not {f : TF} : ∀ σ H Q, tT G (tfnot f) σ H Q → tNot (tT G f) σ H Q := fun σ H Q ⟨R, S, e, st, q⟩ => by
  refine ⟨R, S, e, st, ?_⟩
  unfold tfnot at q
  cases hf : f e with
  | bad => rw [hf] at q; exact q.elim
  | err x e1 => rw [hf] at q; exact q
  | ok p =>
    obtain ⟨b, e1⟩ := p
    rw [hf] at q
    exact fun H' S' f st' => q H' S' f st'
def sif (c : TF) (f g : SF) : SF := fun e => match c e with
  | .ok (b, e1) => if b = true then f e1 else g e1
  | .err x e' => .err x e'
  | .bad => .bad
theorem s_if {c : TF} {f g : SF} : ∀ D σ H, tS G pn (sif c f g) D σ H → tIfS (tT G c) (tS G pn f) (tS G pn g) D σ H := fun D σ H ⟨R, S, e, st, q⟩ => by
  refine ⟨R, S, e, st, ?_⟩
  unfold sif at q
  cases hc : c e with
  | bad => rw [hc] at q; exact q.elim
  | err x e1 => rw [hc] at q; exact ErrP.of q
  | ok p =>
    obtain ⟨b, e1⟩ := p
    rw [hc] at q
    dsimp only at q
    intro H' S' f st'
    cases b with
    | true => exact ⟨R, S', e1, st', SEnd.later q Pin.refl f⟩
    | false => exact ⟨R, S', e1, st', SEnd.later q Pin.refl f⟩
/-- a if c else b -/
def dif (c : TF) (f g : DF) : DF := fun e => (c e).bind fun (b, e1) => if b = true then f e1 else g e1
theorem DEnd.later {Q : V → Hp → Prop} {r : Res (D × Env)} (h : DEnd G R S σ H Q r) (f : Fr H H1 S S1) : DEnd G R S1 σ H1 Q r := by
  cases r with
  | ok p => exact fun v H' S1 S2 f' s' => h v H' S1 S2 (f.trans f') s'
  | err x e' => exact fun H' S' f' s' => h H' S' (f.trans f') s'
  | bad => exact h
theorem d_if {c : TF} {f g : DF} : ∀ σ H Q, tD G (dif c f g) σ H Q → tIf (tT G c) (tD G f) (tD G g) σ H Q := fun σ H Q ⟨R, S, e, st, q⟩ => by
  refine ⟨R, S, e, st, ?_⟩
  unfold dif at q
  cases hc : c e with
  | bad => rw [hc] at q; exact q.elim
  | err x e1 => rw [hc] at q; exact q
  | ok p =>
    obtain ⟨b, e1⟩ := p
    rw [hc] at q
    dsimp only [Res.bind] at q
    intro H' S' f st'
    cases b with
    | true => exact ⟨R, S', e1, st', DEnd.later q f⟩
    | false => exact ⟨R, S', e1, st', DEnd.later q f⟩
/-- a and b, a or b, not a as values (truths) -/
def dand (f g : DF) : DF := fun e => (f e).bind fun (d, e1) => match d with
  | .bl true => g e1
  | .bl false => .ok (.bl false, e1)
  | _ => .bad
theorem d_and {f g : DF} : ∀ σ H Q, tD G (dand f g) σ H Q → tAndV (tD G f) (tD G g) σ H Q := fun σ H Q ⟨R, S, e, st, q⟩ => by
  refine ⟨R, S, e, st, ?_⟩
  unfold dand at q
  cases hf : f e with
  | bad => rw [hf] at q; exact q.elim
  | err x e1 => rw [hf] at q; exact q
  | ok p =>
    obtain ⟨d, e1⟩ := p
    rw [hf] at q
    dsimp only [Res.bind] at q
    intro v H' S1 S2 f n
    split at q
    · exact ⟨true, n.rp, R, S2, e1, n.drop, DEnd.later q (f.less fun a z => .inr z)⟩
    · exact ⟨false, n.rp, q (.bl false) H' S1 S2 f ⟨n.d12, n.dis, n.trk, rfl, n.er⟩⟩
    · exact q.elim
def dor (f g : DF) : DF := fun e => (f e).bind fun (d, e1) => match d with
  | .bl false => g e1
  | .bl true => .ok (.bl true, e1)
  | _ => .bad
theorem d_or {f g : DF} : ∀ σ H Q, tD G (dor f g) σ H Q → tOrV (tD G f) (tD G g) σ H Q := fun σ H Q ⟨R, S, e, st, q⟩ => by
  refine ⟨R, S, e, st, ?_⟩
  unfold dor at q
  cases hf : f e with
  | bad => rw [hf] at q; exact q.elim
  | err x e1 => rw [hf] at q; exact q
  | ok p =>
    obtain ⟨d, e1⟩ := p
    rw [hf] at q
    dsimp only [Res.bind] at q
    intro v H' S1 S2 f n
    split at q
    · exact ⟨false, n.rp, R, S2, e1, n.drop, DEnd.later q (f.less fun a z => .inr z)⟩
    · exact ⟨true, n.rp, q (.bl true) H' S1 S2 f ⟨n.d12, n.dis, n.trk, rfl, n.er⟩⟩
    · exact q.elim
def dnot (f : DF) : DF := fun e => (f e).bind fun (d, e1) => match d with
  | .bl b => .ok (.bl (!b), e1)
  | _ => .bad
theorem d_not {f : DF} : ∀ σ H Q, tD G (dnot f) σ H Q → tNotV (tD G f) σ H Q := fun σ H Q ⟨R, S, e, st, q⟩ => by
  refine ⟨R, S, e, st, ?_⟩
  unfold dnot at q
  cases hf : f e with
  | bad => rw [hf] at q; exact q.elim
  | err x e1 => rw [hf] at q; exact q
  | ok p =>
    obtain ⟨d, e1⟩ := p
    rw [hf] at q
    dsimp only [Res.bind] at q
    intro v H' S1 S2 f n
    split at q
    · rename_i b
      exact ⟨b, n.rp, q (.bl (!b)) H' S1 S2 f ⟨n.d12, n.dis, n.trk, rfl, n.er⟩⟩
    · exact q.elim
def pand (f g : PF) : PF := fun e => (f e).bind fun d => match d with
  | .bl true => g e
  | .bl false => some (.bl false)
  | _ => none
theorem p_and {K : PySem.W.Frag} {f g : PF} : ∀ σ H Q, tP K (pand f g) σ H Q → tAndV (tP K f) (tP K g) σ H Q := fun σ H Q ⟨R, S, e, d, st, hf, q⟩ => by
  unfold pand at hf
  cases ha : f e with
  | none => rw [ha] at hf; cases hf
  | some x =>
    rw [ha] at hf
    dsimp only [Option.bind] at hf
    refine ⟨R, S, e, x, st, ha, fun v rv => ?_⟩
    split at hf
    · exact ⟨true, rv, R, S, e, d, st, hf, q⟩
    · cases hf; exact ⟨false, rv, q _ rfl⟩
    · cases hf
def por (f g : PF) : PF := fun e => (f e).bind fun d => match d with
  | .bl false => g e
  | .bl true => some (.bl true)
  | _ => none
theorem p_or {K : PySem.W.Frag} {f g : PF} : ∀ σ H Q, tP K (por f g) σ H Q → tOrV (tP K f) (tP K g) σ H Q := fun σ H Q ⟨R, S, e, d, st, hf, q⟩ => by
  unfold por at hf
  cases ha : f e with
  | none => rw [ha] at hf; cases hf
  | some x =>
    rw [ha] at hf
    dsimp only [Option.bind] at hf
    refine ⟨R, S, e, x, st, ha, fun v rv => ?_⟩
    split at hf
    · exact ⟨false, rv, R, S, e, d, st, hf, q⟩
    · cases hf; exact ⟨true, rv, q _ rfl⟩
    · cases hf
def pnot (f : PF) : PF := fun e => (f e).bind fun d => match d with
  | .bl b => some (.bl (!b))
  | _ => none
theorem p_not {K : PySem.W.Frag} {f : PF} : ∀ σ H Q, tP K (pnot f) σ H Q → tNotV (tP K f) σ H Q := fun σ H Q ⟨R, S, e, d, st, hf, q⟩ => by
  unfold pnot at hf
  cases ha : f e with
  | none => rw [ha] at hf; cases hf
  | some x =>
    rw [ha] at hf
    dsimp only [Option.bind] at hf
    refine ⟨R, S, e, x, st, ha, fun v rv => ?_⟩
    split at hf
    · cases hf; exact ⟨_, rv, q _ rfl⟩
    · cases hf

/-! ### while -/
def swhN (c : TF) (b : SF) : Nat → SF
  | 0, _ => .bad
  | n + 1, e => match c e with
    | .ok (true, e1) => match b e1 with
      | .next e2 => swhN c b n e2
      | .cont e2 => swhN c b n e2
      | .brk e2 => .next e2
      | r => r
    | .ok (false, e1) => .next e1
    | .err x e1 => .err x e1
    | .bad => .bad
theorem swhN_mono {c : TF} {b : SF} : ∀ {n m : Nat} {e : Env} {r : Fl}, swhN c b n e = r → r ≠ .bad → n ≤ m → swhN c b m e = r
  | 0, m, e, r, h, hb, _ => absurd h.symm hb
  | n + 1, 0, e, r, h, hb, hm => absurd hm (Nat.not_succ_le_zero n)
  | n + 1, m + 1, e, r, h, hb, hm => by
    have hm' := Nat.le_of_succ_le_succ hm
    unfold swhN at h ⊢
    split at h
    · split at h
      · exact swhN_mono h hb hm'
      · exact swhN_mono h hb hm'
      · exact h
      · exact h
    · exact h
    · exact h
    · exact h
open Classical in
noncomputable def swh (c : TF) (b : SF) : SF := fun e => if h : ∃ n, swhN c b n e ≠ .bad then swhN c b h.choose e else .bad
theorem swh_eq {c : TF} {b : SF} {n : Nat} {e : Env} {r : Fl} (h : swhN c b n e = r) (hb : r ≠ .bad) : swh c b e = r := by
  have hx : ∃ n, swhN c b n e ≠ .bad := ⟨n, by rw [h]; exact hb⟩
  unfold swh
  rw [dif_pos hx]
  have h1 := swhN_mono (m := max n hx.choose) h hb (Nat.le_max_left _ _)
  have h2 := swhN_mono (m := max n hx.choose) rfl hx.choose_spec (Nat.le_max_right _ _)
  rw [← h2, h1]
theorem s_wh {c : TF} {b : SF} : ∀ D σ H, tS G pn (swh c b) D σ H → tWhile (tT G c) (tS G pn b) D σ H := fun D σ H ⟨R, S, e, st, q⟩ => by
  by_cases hx : ∃ n, swhN c b n e ≠ .bad
  · obtain ⟨n, hn⟩ := hx
    generalize hr : swhN c b n e = r at hn
    rw [swh_eq hr hn] at q
    refine ⟨fun m σ' H' => ∃ e' S', Pin pn σ σ' ∧ Fr H H' S S' ∧ Sta G.K H' R S' e' σ' ∧ swhN c b m e' = r, ⟨n, e, S, Pin.refl, Fr.refl, st, hr⟩, ?_⟩
    rintro m σ1 H1 ⟨e1, S1, p1, f1, st1, h1⟩
    cases m with
    | zero => exact absurd h1.symm hn
    | succ m =>
      have q1 := SEnd.later q p1 f1
      refine ⟨R, S1, e1, st1, ?_⟩
      unfold swhN at h1
      cases hc : c e1 with
      | bad => rw [hc] at h1; exact absurd h1.symm hn
      | err x e2 => rw [hc] at h1; dsimp only at h1; subst h1; exact ErrP.of q1
      | ok p =>
        obtain ⟨bb, e2⟩ := p
        rw [hc] at h1
        intro H2 S2 f2 st2
        have q2 := SEnd.later q1 (Pin.refl) f2
        cases bb with
        | false => dsimp only at h1; subst h1; exact q2 σ1 H2 S2 Pin.refl Fr.refl st2
        | true =>
          dsimp only at h1
          rw [if_pos rfl]
          refine ⟨fun σ' H' => ∃ e' S', Pin pn σ σ' ∧ Fr H H' S S' ∧ Sta G.K H' R S' e' σ' ∧ swhN c b m e' = r, fun σ' H' w => ⟨m, Nat.lt_succ_self m, w⟩, R, S2, e2, st2, ?_⟩
          cases hb : b e2 with
          | bad => rw [hb] at h1; exact absurd h1.symm hn
          | next e3 => rw [hb] at h1; exact fun σ' H' S' p f s' => ⟨e3, S', p1.trans p, (f1.trans f2).trans f, s', h1⟩
          | cont e3 => rw [hb] at h1; exact fun σ' H' S' p f s' => ⟨e3, S', p1.trans p, (f1.trans f2).trans f, s', h1⟩
          | brk e3 => rw [hb] at h1; dsimp only at h1; subst h1; exact q2
          | ret d e3 => rw [hb] at h1; dsimp only at h1; subst h1; exact q2
          | err x e3 => rw [hb] at h1; dsimp only at h1; subst h1; exact q2
  · unfold swh at q
    rw [dif_neg hx] at q
    exact q.elim
end

/-! ### a def by its body -/
def maskF : List Bool → Env → Env
  | b :: bs, o :: e => (if b = true then o else none) :: maskF bs e
  | _, _ => []
def pinsOf (bs : List Bool) : List Nat := (List.range bs.length).filter fun i => bs[i]? == some true
theorem mask_er {K : PySem.W.Frag} {H : Hp} {W : AS} : ∀ (bs : List Bool) (e : DL.Env) (S : AS) (σ : L2.St) (vs : List V), vs.length = bs.length → bs.length ≤ e.length → Er K H W e S σ → (∀ i : Nat, (bs : List Bool)[i]? = some true → (σ : List (Option V))[i]? = (vs.map some)[i]?) → Er K H W (maskF bs e) S (vs.map some)
  | [], e, S, σ, vs, hl, _, h, hp => by
    have : vs = [] := List.length_eq_zero_iff.mp hl
    subst this
    cases e <;> rfl
  | b :: bs, [], S, σ, vs, hl, hle, h, hp => absurd hle (Nat.not_succ_le_zero _)
  | b :: bs, o :: e, S, σ, [], hl, _, h, hp => by simp at hl
  | b :: bs, o :: e, S, σ, v :: vs, hl, hle, h, hp => by
    have hl' : vs.length = bs.length := Nat.succ.inj hl
    have hle' : bs.length ≤ e.length := Nat.le_of_succ_le_succ hle
    cases o with
    | none =>
      obtain ⟨o, r, e1, k⟩ := h
      subst e1
      have q := mask_er bs e S r vs hl' hle' k fun i hi => by simpa using hp (i + 1) (by simpa using hi)
      have e2 : maskF (b :: bs) (none :: e) = none :: maskF bs e := by cases b <;> rfl
      rw [e2]
      exact ⟨some v, _, rfl, q⟩
    | some d =>
      obtain ⟨v0, r, T1, T2, e1, t1, t2, t3, t4, t5⟩ := h
      subst e1
      have q := mask_er bs e T2 r vs hl' hle' t5 fun i hi => by simpa using hp (i + 1) (by simpa using hi)
      cases b with
      | true =>
        have hv : v0 = v := by simpa using hp 0 rfl
        subst hv
        exact ⟨v0, vs.map some, T1, T2, rfl, t1, t2, t3, t4, q⟩
      | false => exact ⟨some v, _, rfl, q.mono (fun _ z => z) t2⟩
def fnF (m : Nat) (bs : List Bool) (fb : SF) : FF := fun ds => match fb (ds.map some ++ List.replicate m none) with
  | .ret d e => .ok (d, maskF bs e)
  | .next e => .ok (.non, maskF bs e)
  | .err x e => .err x (maskF bs e)
  | _ => .bad
theorem Er.append_none {K : PySem.W.Frag} {H : Hp} {W : AS} (r : L2.St) : ∀ {e : Env} {S : AS} {σ : L2.St}, Er K H W e S σ → Er K H W (e ++ List.replicate r.length none) S (σ ++ r)
  | [], S, σ, h => by
    have h' : σ = [] := h
    subst h'
    have : ∀ r : L2.St, Er K H W (List.replicate r.length none) S r := by
      intro r
      induction r with
      | nil => rfl
      | cons o r ih => exact ⟨o, r, rfl, ih⟩
    exact this r
  | none :: e, S, σ, h => by
    obtain ⟨o, r', e1, k⟩ := h
    subst e1
    exact ⟨o, r' ++ r, rfl, k.append_none r⟩
  | some d :: e, S, σ, h => by
    obtain ⟨v0, r', T1, T2, e1, t1, t2, t3, t4, t5⟩ := h
    subst e1
    exact ⟨v0, r' ++ r, T1, T2, rfl, t1, t2, t3, t4, t5.append_none r⟩
section
variable {P : Program} {w : World} {K : PySem.W.Frag} {mg : Str → Option Value} {base : Heap}
theorem fn_body {N ps : List Str} {scope : Scope} {m : Nat} {bs : List Bool} {fb : SF} {vs : List V} {H : Hp} {Q : VK} {E : XK} (sc : FnScope N ps scope) (hb : bs.length = ps.length) (hN : N.length = ps.length + m) (h : spD K mg bs.length (fnF m bs fb) vs H Q E) :
    tS ⟨K, mg, fun c d _ H' => E c d H'⟩ (pinsOf bs) fb { nx := fun _ H' => Q .non H', rt := Q } (L2.start N vs) H := by
  obtain ⟨hl, R, S, ds, st0, q⟩ := h
  refine ⟨R, S, ds.map some ++ List.replicate m none, ⟨st0.dis, st0.trk, ?_⟩, ?_⟩
  · unfold L2.start
    have em : m = (List.replicate (N.length - vs.length) (none : Option V)).length := by rw [List.length_replicate, hN, hl, hb]; omega
    have := st0.er.append_none (List.replicate (N.length - vs.length) none)
    rw [← em] at this
    exact this
  · have pinned : ∀ σ', Pin (pinsOf bs) (L2.start N vs) σ' → ∀ i, bs[i]? = some true → σ'[i]? = (vs.map some)[i]? := fun σ' p i hi => by
      have hlt : i < bs.length := (List.getElem?_eq_some_iff.mp hi).1
      rw [p.2 i (List.mem_filter.mpr ⟨List.mem_range.mpr hlt, by rw [hi]; rfl⟩)]
      unfold L2.start
      rw [List.getElem?_append_left (by rw [List.length_map, hl]; exact hlt)]
    have slen : (L2.start N vs).length = N.length := by
      unfold L2.start
      rw [List.length_append, List.length_map, List.length_replicate, hl, hb, hN]; omega
    have hel : ∀ (e' : Env) (H' : Hp) (W : AS) (S' : AS) (σ' : L2.St), Er K H' W e' S' σ' → Pin (pinsOf bs) (L2.start N vs) σ' → Er K H' W (maskF bs e') S' (vs.map some) := fun e' H' W S' σ' er p =>
      mask_er bs e' S' σ' vs hl (by rw [← er.length, p.1, slen, hN, hb]; omega) er (pinned σ' p)
    unfold fnF at q
    cases hf : fb (ds.map some ++ List.replicate m none) with
    | bad => rw [hf] at q; exact q.elim
    | brk e => rw [hf] at q; exact q.elim
    | cont e => rw [hf] at q; exact q.elim
    | ret d e =>
      rw [hf] at q
      exact fun σ' v H' S1 S2 p f n => q v H' S1 S2 f ⟨n.d12, n.dis, n.trk, n.rp, hel _ _ _ _ _ n.er p⟩
    | next e =>
      rw [hf] at q
      refine fun σ' H' S' p f s' => q .non H' noS S' (f.less fun a z => z.elim (fun y => y.elim) id) ⟨fun _ z => z.elim, fun a z => s'.dis a (z.elim (fun y => y.elim) id), fun a z => s'.trk a (z.elim (fun y => y.elim) id), rfl, ?_⟩
      exact hel _ _ _ _ _ (s'.er.mono (fun a z => z.elim (fun y => y.elim) id) fun _ z => z) p
    | err x e =>
      rw [hf] at q
      exact fun σ' H' S' p f s' C hC => q H' S' f ⟨s'.dis, s'.trk, hel _ _ _ _ _ s'.er p⟩ C hC
theorem fn_wrap {x qual : Str} {st : Stmt} {f : Addr} {fd : FuncData} {N ps : List Str} {k m : Nat} {bs : List Bool} {fb : SF} (F : Fun K x qual st f fd) (sc : FnScope N ps (defScope st)) (hb : bs.length = ps.length) (hN : N.length = ps.length + m)
    (body : ∀ (cdv : Value) (A : Around) (outer : List PySem.Env) (s : Shared) (H : Hp) (E : XK), Room k (A.deeper (PyProof.Rows.envOfC qual (defScope st) s.heap.objs.size f cdv)) →
      PSs (cxOf (L2.CX P w) P w K mg base N qual (defScope st) f cdv A outer s H E) (defBody st) (tS ⟨K, mg, fun c d _ H' => E c d H'⟩ (pinsOf bs) fb)) :
    FnOk P w K mg base (L2.CX P w) (k + 1) f fd ps (spD K mg bs.length (fnF m bs fb)) := by
  refine F.okX sc (fun vs H Q E h => by rw [h.1, hb]) fun cdv A outer s H vs Q E hr h => ?_
  exact ⟨_, body cdv A outer s H E hr, fn_body sc hb hN h⟩
end
end DL

namespace DL
open PySem L2

/-! ### what is walked, targets, for, comprehensions -/
def ItrOk (K : PySem.W.Frag) (J : It) (H1 : Hp) (W1 : AS) (ds : List D) : Prop :=
  ∀ (H' : Hp) (W' : AS), (∀ a o, H1 a = some o → ¬ W1 a → H' a = some o) → (∀ a, W' a → W1 a ∨ H1 a = none) → (∀ a, W' a → H' a ≠ none) →
    (∀ i, ds.length ≤ i → J.stop i H') ∧ ∀ i d, ds[i]? = some d → J.go i H' ∧ ∀ x H'', J.yld i H' x H'' → (∀ a o, H' a = some o → H'' a = some o) ∧ Rp K H'' W' d noS x
abbrev SrcF := Env → Res (List D × Env)
def IEnd (G : Cfg) (R S : AS) (σ : L2.St) (H : Hp) (Q : It → Hp → Prop) : Res (List D × Env) → Prop
  | .ok (ds, e') => ∀ J H' S', Fr H H' S S' → Sta G.K H' R S' e' σ → ItrOk G.K J H' (fun a => S' a ∨ R a) ds → Q J H'
  | .err x e' => ErrP G R S H σ x e'
  | .bad => False
def tI (G : Cfg) (f : SrcF) : TI := fun σ H Q => ∃ R S e, Sta G.K H R S e σ ∧ IEnd G R S σ H Q (f e)
theorem PI.imp {X : Cx} {tg it : Expr} {t t' : TI} (h : PI X tg it t) (k : ∀ σ H Q, t' σ H Q → t σ H Q) : PI X tg it t' := ⟨fun pins s σ H Q I q => h.run pins s σ H Q I (k σ H Q q)⟩
theorem PI.or {X : Cx} {tg it : Expr} {t t' : TI} (h : PI X tg it t) (h' : PI X tg it t') : PI X tg it (fun σ H Q => t σ H Q ∨ t' σ H Q) := ⟨fun pins s σ H Q I q => q.elim (h.run pins s σ H Q I) (h'.run pins s σ H Q I)⟩
theorem PE.or {X : Cx} {e : Expr} {t t' : TE} (h : PE X e t) (h' : PE X e t') : PE X e (fun σ H Q => t σ H Q ∨ t' σ H Q) := ⟨fun pins s σ H Q I q => q.elim (h.run pins s σ H Q I) (h'.run pins s σ H Q I)⟩

section
variable {K : PySem.W.Frag} {G : Cfg} {pn : List Nat} {H H1 H' : Hp} {R S S1 S2 S' W W1 : AS} {e e' : Env} {σ σ1 : L2.St}
theorem Rps.get {ds : List D} {vs : List V} {i : Nat} {d : D} (h : Rps K H W ds noS vs) (hd : ds[i]? = some d) : ∃ v, vs[i]? = some v ∧ Rp K H W d noS v := by
  have q := h.pl
  clear h
  induction q generalizing i with
  | nil => simp at hd
  | cons r t ih =>
    cases i with
    | zero => simp at hd; subst hd; exact ⟨_, rfl, r⟩
    | succ i => obtain ⟨v, h1, h2⟩ := ih (i := i) (by simpa using hd); exact ⟨v, by simpa using h1, h2⟩
/-- a frozen list walked -/
theorem itr_list {a : Addr} {vs : List V} {ds : List D} (h : H1 a = some (.lst vs)) (hw : ¬ W1 a) (r : Rps K H1 W1 ds noS vs) : ItrOk K (Itl K a) H1 W1 ds := fun H' W' k1 k2 k3 => by
  have kp : Kp H1 H' W1 W' W1 := ⟨k1, fun _ z => z, k2⟩
  have hq : SqL K H' a vs := .inl (.inl (kp.wr1 h hw).1)
  have hl := r.length
  have r' : Rps K H' W' ds noS vs := Rps.keep kp ds noS noS vs (fun _ z => z) (fun _ z => z.elim) r
  refine ⟨fun i hi => ⟨vs, hq, by omega⟩, fun i d hd => ?_⟩
  obtain ⟨v, hv, rv⟩ := r'.get hd
  refine ⟨⟨vs, v, hq, hv⟩, fun x H'' y => ?_⟩
  obtain ⟨e1, y⟩ := y
  subst e1
  have hx := y vs hq
  rw [hv] at hx
  cases hx
  exact ⟨fun _ _ h => h, rv⟩
theorem itr_tup {a : Addr} {vs : List V} {ds : List D} (h : TupAt K H1 W1 a vs) (r : Rps K H1 W1 ds noS vs) : ItrOk K (Itt K a) H1 W1 ds := fun H' W' k1 k2 k3 => by
  have kp : Kp H1 H' W1 W' W1 := ⟨k1, fun _ z => z, k2⟩
  have hq : SqT K H' a vs := by
    rcases h with ⟨h1, h2⟩ | h1
    · exact .inl (kp.wr h1 h2).1
    · exact .inr h1
  have hl := r.length
  have r' : Rps K H' W' ds noS vs := Rps.keep kp ds noS noS vs (fun _ z => z) (fun _ z => z.elim) r
  refine ⟨fun i hi => ⟨vs, hq, by omega⟩, fun i d hd => ?_⟩
  obtain ⟨v, hv, rv⟩ := r'.get hd
  refine ⟨⟨vs, v, hq, hv⟩, fun x H'' y => ?_⟩
  obtain ⟨e1, y⟩ := y
  subst e1
  have hx := y vs hq
  rw [hv] at hx
  cases hx
  exact ⟨fun _ _ h => h, rv⟩
def rngD (lo : Int) (n : Nat) : List D := (List.range n).map fun (i : Nat) => .int (lo + (i : Int))
theorem itr_rng {lo : Int} {n : Nat} : ItrOk K (Itr lo n) H1 W1 (rngD lo n) := fun H' W' k1 k2 k3 => by
  refine ⟨fun i hi => by simpa [rngD, Itr] using hi, fun i d hd => ?_⟩
  have hi : i < n := by have := (List.getElem?_eq_some_iff.mp hd).1; simpa [rngD] using this
  have e1 : d = .int (lo + i) := by simp [rngD, hi] at hd; exact hd.symm
  subst e1
  refine ⟨hi, fun x H'' y => ?_⟩
  obtain ⟨e1, e2⟩ := y
  subst e1
  exact ⟨fun _ _ h => h, e2⟩

/-- a list or a tuple -/
def srcL (f : DF) : SrcF := fun e => (f e).bind fun (d, e1) => match d with
  | .lst _ ds => .ok (frzs ds, e1)
  | _ => .bad
def srcT (f : DF) : SrcF := fun e => (f e).bind fun (d, e1) => match d with
  | .tup ds => .ok (ds, e1)
  | _ => .bad
theorem i_list {f : DF} : ∀ σ H Q, tI G (srcL f) σ H Q → iList G.K (tD G f) σ H Q := fun σ H Q ⟨R, S, e, st, q⟩ => by
  refine ⟨R, S, e, st, ?_⟩
  unfold srcL at q
  cases hf : f e with
  | bad => rw [hf] at q; exact q.elim
  | err x e1 => rw [hf] at q; exact q
  | ok p =>
    obtain ⟨d, e1⟩ := p
    rw [hf] at q
    dsimp only [Res.bind] at q
    intro v H1 S1 S2 f1 n
    split at q
    · rename_i o ds
      have hz := Rp.frz (W' := fun a => S2 a ∨ R a) _ S1 v n.rp fun a z => z.elim (fun y => ⟨.inr (.inl y), fun w => n.d12 a w y⟩) fun y => ⟨.inr (.inr y), fun w => n.dis a (.inl w) y⟩
      obtain ⟨a, vs, e2, ht, hr⟩ := hz
      refine ⟨a, e2, ⟨vs, .inl (.inl ht.1)⟩, q _ H1 S2 (f1.less fun _ z => .inr z) n.drop (itr_list ht.1 ht.2 hr)⟩
    · exact q.elim
theorem i_tup {f : DF} : ∀ σ H Q, tI G (srcT f) σ H Q → iTup G.K (tD G f) σ H Q := fun σ H Q ⟨R, S, e, st, q⟩ => by
  refine ⟨R, S, e, st, ?_⟩
  unfold srcT at q
  cases hf : f e with
  | bad => rw [hf] at q; exact q.elim
  | err x e1 => rw [hf] at q; exact q
  | ok p =>
    obtain ⟨d, e1⟩ := p
    rw [hf] at q
    dsimp only [Res.bind] at q
    intro v H1 S1 S2 f1 n
    split at q
    · rename_i ds
      have hz : Rp G.K H1 (fun a => S2 a ∨ R a) (.tup ds) noS v := Rp.frz (W' := fun a => S2 a ∨ R a) _ S1 v n.rp fun a z => z.elim (fun y => ⟨.inr (.inl y), fun w => n.d12 a w y⟩) fun y => ⟨.inr (.inr y), fun w => n.dis a (.inl w) y⟩
      obtain ⟨a, vs, e2, ht, hr⟩ := hz
      refine ⟨a, e2, ⟨vs, ?_⟩, q _ H1 S2 (f1.less fun _ z => .inr z) n.drop (itr_tup ht hr)⟩
      rcases ht with ⟨h1, h2⟩ | h1
      · exact .inl h1
      · exact .inr h1
    · exact q.elim
/-- range(n), range(a, b) -/
def rngOk (j : Int) : Prop := -(2 ^ 62) ≤ j ∧ j < 2 ^ 62
/-- never decided by computing -/
noncomputable instance (j : Int) : Decidable (rngOk j) := Classical.propDecidable _
noncomputable def srcR1 (fs : PFs) : SrcF := fun e => match fs e with
  | some [.int j] => if rngOk j then .ok (rngD 0 j.toNat, e) else .bad
  | _ => .bad
noncomputable def srcR2 (fs : PFs) : SrcF := fun e => match fs e with
  | some [.int i, .int j] => if rngOk i ∧ rngOk j then .ok (rngD i (j - i).toNat, e) else .bad
  | _ => .bad
theorem i_rng1 {fs : PFs} : ∀ σ H Q, tI G (srcR1 fs) σ H Q → iRng1 (tPs G.K fs) σ H Q := fun σ H Q ⟨R, S, e, st, q⟩ => by
  unfold srcR1 at q
  split at q
  · rename_i j hf
    split at q
    · rename_i hj
      refine ⟨R, S, e, _, st, hf, fun vs r => ?_⟩
      cases r with
      | cons r rr =>
        cases rr
        have r' : _ = V.int j := r
        subst r'
        exact ⟨j, rfl, hj.1, hj.2, q _ H S Fr.refl st itr_rng⟩
    · exact q.elim
  · exact q.elim
theorem i_rng2 {fs : PFs} : ∀ σ H Q, tI G (srcR2 fs) σ H Q → iRng2 (tPs G.K fs) σ H Q := fun σ H Q ⟨R, S, e, st, q⟩ => by
  unfold srcR2 at q
  split at q
  · rename_i i j hf
    split at q
    · rename_i hj
      refine ⟨R, S, e, _, st, hf, fun vs r => ?_⟩
      cases r with
      | cons r rr =>
        cases rr with
        | cons r2 rr =>
          cases rr
          have r' : _ = V.int i := r
          have r2' : _ = V.int j := r2
          subst r' r2'
          exact ⟨i, j, rfl, ⟨hj.1.1, hj.1.2, hj.2.1, hj.2.2⟩, q _ H S Fr.refl st itr_rng⟩
    · exact q.elim
  · exact q.elim
/-- .. whose ends want evaluation that changes the slots -/
noncomputable def srcR1d (fs : DFs) : SrcF := fun e => (fs e).bind fun (ds, e1) => match ds with
  | [.int j] => if rngOk j then .ok (rngD 0 j.toNat, e1) else .bad
  | _ => .bad
theorem i_rng1d {fs : DFs} : ∀ σ H Q, tI G (srcR1d fs) σ H Q → iRng1 (tDs G fs) σ H Q := fun σ H Q ⟨R, S, e, st, q⟩ => by
  refine ⟨R, S, e, st, ?_⟩
  unfold srcR1d at q
  cases hf : fs e with
  | bad => rw [hf] at q; exact q.elim
  | err x e1 => rw [hf] at q; exact q
  | ok p =>
    obtain ⟨ds, e1⟩ := p
    rw [hf] at q
    dsimp only [Res.bind] at q
    intro vs H1 S1 S2 f1 n
    split at q
    · rename_i j
      split at q
      · rename_i hj
        obtain ⟨v, vr, _, _, e1, _, _, _, h4, h5⟩ := n.rp
        have h5' : vr = [] := h5
        have h4' : v = V.int j := h4
        subst h5' h4' e1
        exact ⟨j, rfl, hj.1, hj.2, q _ H1 S2 (f1.less fun _ z => .inr z) n.drop itr_rng⟩
      · exact q.elim
    · exact q.elim

/-! ### targets -/
abbrev BF := D → Env → Option Env
def TgR (K : PySem.W.Frag) (pn vs : List Nat) (g : TG) (b : BF) : Prop :=
  ∀ (H : Hp) (R S : AS) (e : Env) (σ : L2.St) (d : D) (v : V) (e1 : Env) (Q : L2.St → Hp → Prop), Sta K H R S e σ → Rp K H (fun a => S a ∨ R a) d noS v → b d e = some e1 →
    (∀ σ1, Sta K H R S e1 σ1 → Pin pn σ σ1 → wipe σ1 vs = wipe σ vs → Q σ1 H) → g v σ H Q
theorem Sta.set (st : Sta K H R S e σ) {d : D} {v : V} (r : Rp K H (fun a => S a ∨ R a) d noS v) (i : Nat) : Sta K H R S (e.set i (some d)) (σ.set i (some v)) :=
  ⟨st.dis, st.trk, Er.putA st.er r (fun _ z => z.elim) (fun _ z => z) fun _ z => z.elim⟩
theorem wipe_set {σ : L2.St} {i : Nat} {o : Option V} : ∀ {vs : List Nat}, i ∈ vs → wipe (σ.set i o) vs = wipe σ vs := by
  have out : ∀ (vs : List Nat) (σ : L2.St) (j : Nat), j ∈ vs → (wipe σ vs)[j]? = (σ[j]?).map fun _ => none := by
    intro vs
    induction vs with
    | nil => intro σ j h; cases h
    | cons v vs ih =>
      intro σ j h
      show ((wipe σ vs).set v none)[j]? = _
      by_cases e : v = j
      · subst e
        by_cases hv : v < σ.length
        · rw [List.getElem?_set_self (by rw [wipe_length]; exact hv), List.getElem?_eq_getElem hv]; rfl
        · rw [List.getElem?_eq_none (by rw [List.length_set, wipe_length]; omega), List.getElem?_eq_none (by omega)]; rfl
      · rw [List.getElem?_set_ne e]
        exact ih σ j ((List.mem_cons.mp h).resolve_left fun z => e z.symm)
  have keep : ∀ (vs : List Nat) (σ : L2.St) (j : Nat), j ∉ vs → (wipe σ vs)[j]? = σ[j]? := by
    intro vs
    induction vs with
    | nil => intro σ j h; rfl
    | cons v vs ih =>
      intro σ j h
      show ((wipe σ vs).set v none)[j]? = _
      rw [List.getElem?_set_ne fun e => h (by rw [e]; exact List.mem_cons_self)]
      exact ih σ j fun z => h (List.mem_cons_of_mem _ z)
  intro vs hi
  refine List.ext_getElem? fun j => ?_
  by_cases hj : j ∈ vs
  · rw [out vs _ j hj, out vs _ j hj]
    by_cases e : i = j
    · subst e
      by_cases hl : i < σ.length
      · rw [List.getElem?_set_self hl, List.getElem?_eq_getElem hl]; rfl
      · rw [List.getElem?_eq_none (by rw [List.length_set]; omega), List.getElem?_eq_none (by omega)]
    · rw [List.getElem?_set_ne e]
  · rw [keep vs _ j hj, keep vs _ j hj, List.getElem?_set_ne fun e => hj (by rw [← e]; exact hi)]
def bname (i : Nat) : BF := fun d e => some (e.set i (some d))
theorem g_name {vs : List Nat} {i : Nat} (hp : i ∉ pn) (hv : i ∈ vs) : TgR K pn vs (gName i) (bname i) := fun H R S e σ d v e1 Q st r hb k => by
  obtain rfl := Option.some.inj hb
  exact k _ (st.set r i) (Pin.set hp) (wipe_set hv)
/-- a, b, .. all names -/
def bnames : List Nat → List D → Env → Option Env
  | [], [], e => some e
  | i :: is, d :: ds, e => bnames is ds (e.set i (some d))
  | _, _, _ => none
def btup (is : List Nat) : BF := fun d e => match d with
  | .tup ds => bnames is ds e
  | _ => none
def gNames : List Nat → TGs
  | [] => gNil
  | i :: is => gCons (gName i) (gNames is)
theorem g_names {vs : List Nat} : ∀ (is : List Nat), (∀ i ∈ is, i ∉ pn ∧ i ∈ vs) → ∀ (H : Hp) (R S : AS) (e : Env) (σ : L2.St) (ds : List D) (us : List V) (e1 : Env) (Q : L2.St → Hp → Prop), Sta K H R S e σ → Rps K H (fun a => S a ∨ R a) ds noS us → bnames is ds e = some e1 →
    (∀ σ1, Sta K H R S e1 σ1 → Pin pn σ σ1 → wipe σ1 vs = wipe σ vs → Q σ1 H) → gNames is us σ H Q
  | [], _, H, R, S, e, σ, ds, us, e1, Q, st, r, hb, k => by
    cases ds with
    | nil =>
      obtain rfl := Option.some.inj hb
      have : us = [] := r
      exact ⟨this, k σ st Pin.refl rfl⟩
    | cons d ds => cases hb
  | i :: is, hs, H, R, S, e, σ, ds, us, e1, Q, st, r, hb, k => by
    cases ds with
    | nil => cases hb
    | cons d ds =>
      obtain ⟨v, vr, T1, T2, ev, h1, h2, h3, h4, h5⟩ := r
      have hi := hs i List.mem_cons_self
      refine ⟨v, vr, ev, ?_⟩
      refine g_names is (fun j hj => hs j (List.mem_cons_of_mem _ hj)) H R S _ _ ds vr e1 Q (st.set (h4.mono (fun _ z => z) h1) i) (h5.mono (fun _ z => z) h2) hb fun σ1 st1 p1 w1 => ?_
      exact k σ1 st1 ((Pin.set hi.1).trans p1) (w1.trans (wipe_set hi.2))
theorem g_tup {vs : List Nat} {is : List Nat} {n : Nat} (hn : is.length = n) (hs : ∀ i ∈ is, i ∉ pn ∧ i ∈ vs) : TgR K pn vs (gTup K n (gNames is)) (btup is) := fun H R S e σ d v e1 Q st r hb k => by
  unfold btup at hb
  split at hb
  · rename_i ds
    obtain ⟨a, us, ev, ht, hr⟩ := r
    have hl : us.length = n := by
      rw [hr.length, ← hn]
      have : ∀ (is : List Nat) (ds : List D) (e e1 : Env), bnames is ds e = some e1 → ds.length = is.length := by
        intro is
        induction is with
        | nil => intro ds e e1 h; cases ds with
          | nil => rfl
          | cons _ _ => cases h
        | cons i is ih => intro ds e e1 h; cases ds with
          | nil => cases h
          | cons d ds => rw [List.length_cons, List.length_cons, ih ds _ _ h]
      exact this is ds e e1 hb
    refine ⟨a, us, ev, ?_, hl, g_names is hs H R S e σ ds us e1 Q st hr hb k⟩
    rcases ht with ⟨h1, h2⟩ | h1
    · exact .inl h1
    · exact .inr h1
  · cases hb

/-! ### for -/
def sforL (b : BF) (body : SF) : List D → Env → Fl
  | [], e => .next e
  | d :: ds, e => match b d e with
    | none => .bad
    | some e1 => match body e1 with
      | .next e2 => sforL b body ds e2
      | .cont e2 => sforL b body ds e2
      | .brk e2 => .next e2
      | r => r
def sfor (src : SrcF) (b : BF) (body : SF) : SF := fun e => match src e with
  | .ok (ds, e1) => sforL b body ds e1
  | .err x e1 => .err x e1
  | .bad => .bad
/-- the state where more was made -/
theorem Sta.more (st : Sta K H R S e σ) (k : ∀ a o, H a = some o → H' a = some o) : Sta K H' R S e σ :=
  ⟨st.dis, fun a z e2 => (by
    have q := st.trk a z
    cases e1 : H a with
    | none => exact q e1
    | some o => rw [k a o e1] at e2; cases e2), Er.keep (U := noS) ⟨fun a o h _ => k a o h, fun _ z => z.elim, fun _ z => .inl z⟩ e S S σ (fun _ z => z) (fun _ _ z => z) st.er⟩
theorem Fr.more {H2 : Hp} (f : Fr H H' S S') (k : ∀ a o, H' a = some o → H2 a = some o) : Fr H H2 S S' := ⟨fun a o h n => k a o (f.keep a o h n), f.new⟩
theorem s_for {src : SrcF} {b : BF} {body : SF} {g : TG} {vs : List Nat} (hg : TgR G.K pn vs g b) : ∀ D σ H, tS G pn (sfor src b body) D σ H → tFor (tI G src) g (tS G pn body) D σ H := fun D σ H ⟨R, S, e, st, q⟩ => by
  refine ⟨R, S, e, st, ?_⟩
  unfold sfor at q
  cases hf : src e with
  | bad => rw [hf] at q; exact q.elim
  | err x e1 => rw [hf] at q; exact ErrP.of q
  | ok p =>
    obtain ⟨ds, e1⟩ := p
    rw [hf] at q
    dsimp only at q
    intro J H1 S1 f1 st1 io
    have q1 := SEnd.later q Pin.refl f1
    generalize hr : sforL b body ds e1 = r at q1
    refine ⟨fun i m σ' H' => m = ds.length - i ∧ i ≤ ds.length ∧ ∃ e' S', Pin pn σ σ' ∧ Fr H1 H' S1 S' ∧ Sta G.K H' R S' e' σ' ∧ sforL b body (ds.drop i) e' = r, ⟨ds.length, by simp, Nat.zero_le _, e1, S1, Pin.refl, Fr.refl, st1, hr⟩, ?_⟩
    rintro i m σ2 H2 ⟨rfl, hi, e2, S2, p2, f2, st2, h2⟩
    obtain ⟨io1, io2⟩ := io H2 (fun a => S2 a ∨ R a) (fun a o h n => f2.keep a o h fun z => n (.inl z)) (fun a z => z.elim (fun y => (f2.new a y).imp .inl id) fun y => .inl (.inr y)) (fun a z => st2.trk a z)
    have q2 := SEnd.later q1 p2 f2
    by_cases hlt : i < ds.length
    · have hd : ds[i]? = some ds[i] := List.getElem?_eq_getElem hlt
      obtain ⟨go, yl⟩ := io2 i _ hd
      refine .inr ⟨go, fun σ' H' => i + 1 ≤ ds.length ∧ ∃ e' S', Pin pn σ σ' ∧ Fr H1 H' S1 S' ∧ Sta G.K H' R S' e' σ' ∧ sforL b body (ds.drop (i + 1)) e' = r, fun σ' H' w => ⟨ds.length - (i + 1), by omega, rfl, w⟩, fun x H3 y => ?_⟩
      obtain ⟨k3, r3⟩ := yl x H3 y
      have st3 := st2.more k3
      rw [List.drop_eq_getElem_cons hlt] at h2
      unfold sforL at h2
      split at h2
      · subst h2; exact q2.elim
      · rename_i e3 hb
        refine hg H3 R S2 e2 σ2 _ x e3 _ st3 r3 hb fun σ4 st4 p4 w4 => ?_
        have f3 : Fr H2 H3 S2 S2 := Fr.refl.more k3
        have q4 := SEnd.later q2 p4 f3
        refine ⟨R, S2, e3, st4, ?_⟩
        cases hbd : body e3 with
        | bad => rw [hbd] at h2; dsimp only at h2; subst h2; exact q4.elim
        | next e5 => rw [hbd] at h2; exact fun σ' H' S' p f s' => ⟨hlt, e5, S', (p2.trans p4).trans p, (f2.trans f3).trans f, s', h2⟩
        | cont e5 => rw [hbd] at h2; exact fun σ' H' S' p f s' => ⟨hlt, e5, S', (p2.trans p4).trans p, (f2.trans f3).trans f, s', h2⟩
        | brk e5 => rw [hbd] at h2; dsimp only at h2; subst h2; exact q4
        | ret d e5 => rw [hbd] at h2; dsimp only at h2; subst h2; exact q4
        | err x e5 => rw [hbd] at h2; dsimp only at h2; subst h2; exact q4
    · have hi' : i = ds.length := by omega
      subst hi'
      rw [List.drop_length] at h2
      unfold sforL at h2
      subst h2
      exact .inl ⟨io1 _ (Nat.le_refl _), q2 σ2 H2 S2 Pin.refl Fr.refl st2⟩

/-! ### comprehensions -/
def wipeE (e : Env) : List Nat → Env
  | [] => e
  | v :: vs => (wipeE e vs).set v none
theorem Er.wipe {K : PySem.W.Frag} (h : Er K H W e S σ) : ∀ vs : List Nat, Er K H W (wipeE e vs) S (L2.wipe σ vs)
  | [] => h
  | v :: vs => Er.drop v none (Er.wipe h vs)
theorem Er.congr {K : PySem.W.Frag} : ∀ {e : Env} {S : AS} {σ σ' : L2.St}, Er K H W e S σ → σ'.length = σ.length → (∀ (i : Nat) (d : D), (e : List (Option D))[i]? = some (some d) → (σ' : List (Option V))[i]? = (σ : List (Option V))[i]?) → Er K H W e S σ'
  | [], S, σ, σ', h, hl, _ => by
    have h' : σ = [] := h
    subst h'
    exact List.length_eq_zero_iff.mp hl
  | none :: e, S, σ, σ', h, hl, hk => by
    obtain ⟨o, r, e1, k⟩ := h
    subst e1
    cases σ' with
    | nil => simp at hl
    | cons o' r' => exact ⟨o', r', rfl, k.congr (Nat.succ.inj hl) fun i d hd => by simpa using hk (i + 1) d (by simpa using hd)⟩
  | some d :: e, S, σ, σ', h, hl, hk => by
    obtain ⟨v0, r, T1, T2, e1, t1, t2, t3, t4, t5⟩ := h
    subst e1
    cases σ' with
    | nil => simp at hl
    | cons o' r' =>
      have : o' = some v0 := by simpa using hk 0 d rfl
      subst this
      exact ⟨v0, r', T1, T2, rfl, t1, t2, t3, t4, t5.congr (Nat.succ.inj hl) fun i d hd => by simpa using hk (i + 1) d (by simpa using hd)⟩
theorem wipeE_some {e : Env} {i : Nat} {d : D} : ∀ {vs : List Nat}, (wipeE e vs)[i]? = some (some d) → i ∉ vs
  | [], _ => by simp
  | v :: vs, h => by
    have h' : ((wipeE e vs).set v none)[i]? = some (some d) := h
    by_cases hi : v = i
    · subst hi
      by_cases hv : v < (wipeE e vs).length
      · rw [List.getElem?_set_self hv] at h'; cases h'
      · rw [List.getElem?_eq_none (by rw [List.length_set]; omega)] at h'; cases h'
    · rw [List.getElem?_set_ne hi] at h'
      have := wipeE_some h'
      simp only [List.mem_cons, not_or]
      exact ⟨fun z => hi z.symm, this⟩
theorem wipe_out {σ : L2.St} {j : Nat} : ∀ {vs : List Nat}, j ∉ vs → (L2.wipe σ vs)[j]? = σ[j]?
  | [], _ => rfl
  | v :: vs, h => by
    show ((L2.wipe σ vs).set v none)[j]? = _
    rw [List.getElem?_set_ne fun e => h (by rw [e]; exact List.mem_cons_self)]
    exact wipe_out fun z => h (List.mem_cons_of_mem _ z)
def compL (b : BF) (tst : TF) (elt : DF) (vs : List Nat) : List D → Env → Option (List D × Env)
  | [], e => some ([], e)
  | d :: ds, e => match b d e with
    | none => none
    | some e1 => match tst e1 with
      | .ok (true, e2) => (match elt e2 with
        | .ok (x, e3) => (match compL b tst elt vs ds (wipeE e3 vs) with
          | some (xs, e4) => some (frz x :: xs, e4)
          | none => none)
        | _ => none)
      | .ok (false, e2) => compL b tst elt vs ds (wipeE e2 vs)
      | _ => none
theorem Rps.snoc {ds : List D} {us : List V} {d : D} {v : V} (h : Rps K H W ds noS us) (r : Rp K H W d noS v) : Rps K H W (ds ++ [d]) noS (us ++ [v]) := by
  refine Rps.of ?_
  have q := h.pl
  clear h
  induction q with
  | nil => exact .cons r .nil
  | cons r1 t ih => exact .cons r1 ih
/-- a comprehension behind its source -/
def LcEnd (J : It) (H1 : Hp) (g : TG) (tt : TT) (te : TE) (vs : List Nat) (σ : L2.St) (Q : VK) : Prop := ∀ D, H1 D = none → ∃ W : Nat → Nat → Hp → Prop, (∃ m, W 0 m (upd H1 D (.lst []))) ∧ ∀ i m H, W i m H →
  (J.stop i H ∧ Q (.ref D) H) ∨ (J.go i H ∧ ∃ Nx : Hp → Prop, (∀ H', Nx H' → ∃ m', m' < m ∧ W (i + 1) m' H') ∧ ∀ x H', J.yld i H x H' → g x (L2.wipe σ vs) H' fun σ2 H2 => L2.wipe σ2 vs = L2.wipe σ vs ∧ tt σ2 H2 fun b H3 =>
    if b = true then te σ2 H3 fun y H4 => ∃ acc, H4 D = some (.lst acc) ∧ acc.length < sizeLine ∧ Nx (upd H4 D (.lst (acc ++ [y]))) else Nx H3)
def compR (b : BF) (tst : TF) (elt : DF) (vs : List Nat) (ds : List D) (e1 : Env) : Res (D × Env) := if ds.length ≤ 1000000 then (match compL b tst elt vs ds (wipeE e1 vs) with
  | some (xs, e2) => .ok (.lst true xs, e2)
  | none => .bad) else .bad
def dcomp (src : SrcF) (b : BF) (tst : TF) (elt : DF) (vs : List Nat) : DF := fun e => (src e).bind fun (ds, e1) => compR b tst elt vs ds e1
theorem comp_core {b : BF} {tst : TF} {elt : DF} {g : TG} {vs : List Nat} {G0 : Cfg} {J : It} {ds : List D} {e1 : Env} {Q : VK} (hK : G0.K = G.K) (hg : TgR G.K [] vs g b) (st1 : Sta G.K H1 R S1 e1 σ) (io : ItrOk G.K J H1 (fun a => S1 a ∨ R a) ds)
    (q : DEnd G R S1 σ H1 Q (compR b tst elt vs ds e1)) : LcEnd J H1 g (tT G0 tst) (tD G0 elt) vs σ Q := by
    intro D hD
    have f1 : Fr H1 H1 S1 S1 := Fr.refl
    unfold compR at q
    by_cases hl : ds.length ≤ 1000000
    · rw [if_pos hl] at q
      cases hc : compL b tst elt vs ds (wipeE e1 vs) with
      | none => rw [hc] at q; exact q.elim
      | some p =>
        obtain ⟨fin, eF⟩ := p
        rw [hc] at q
        dsimp only at q
        have nD : ∀ a, (S1 a ∨ R a) → a ≠ D := fun a z y => st1.trk a z (by rw [y]; exact hD)
        have f2 : Fr H1 (upd H1 D (.lst [])) S1 S1 := Fr.refl.more fun a o h => by rw [upd_ne (ne_of_none h hD)]; exact h
        have st2 : Sta G.K (upd H1 D (.lst [])) (fun a => R a ∨ a = D) S1 (wipeE e1 vs) (L2.wipe σ vs) := by
          refine ⟨fun a z y => y.elim (st1.dis a z) (nD a (.inl z)), fun a z => ?_, ?_⟩
          · by_cases h : a = D
            · rw [h, upd_same]; exact fun z => by cases z
            · rw [upd_ne h]; exact st1.trk a (z.imp id fun y => y.resolve_right h)
          · refine Er.wipe (Er.keep (W := fun a => S1 a ∨ R a) (U := noS) ⟨fun a o h _ => by rw [upd_ne (ne_of_none h hD)]; exact h, fun _ z => z.elim, fun a z => ?_⟩ e1 S1 S1 σ (fun _ z => z) (fun _ _ z => z) st1.er) vs
            rcases z with z | z | z
            · exact .inl (.inl z)
            · exact .inl (.inr z)
            · exact .inr (by rw [z]; exact hD)
        refine ⟨fun i m H' => m = ds.length - i ∧ i ≤ ds.length ∧ ∃ e' S' acc us rest, Fr H1 H' S1 S' ∧ H' D = some (.lst us) ∧ Sta G.K H' (fun a => R a ∨ a = D) S' e' (L2.wipe σ vs) ∧ e' = wipeE e' vs ∧ Rps G.K H' (fun a => S' a ∨ R a ∨ a = D) acc noS us ∧ acc.length ≤ i ∧
          compL b tst elt vs (ds.drop i) e' = some (rest, eF) ∧ fin = acc ++ rest, ⟨ds.length, by simp, Nat.zero_le _, wipeE e1 vs, S1, [], [], fin, f2, upd_same, st2, ?_, rfl, Nat.le_refl _, hc, rfl⟩, ?_⟩
        · have : ∀ (vs : List Nat) (e : Env), wipeE (wipeE e vs) vs = wipeE e vs := by
            intro vs e
            have nn : ∀ (vs : List Nat) (e : Env), (∀ i ∈ vs, e[i]? = some none ∨ e[i]? = none) → wipeE e vs = e := by
              intro vs
              induction vs with
              | nil => intro e _; rfl
              | cons v vs ih =>
                intro e h
                show (wipeE e vs).set v none = e
                rw [ih e fun i hi => h i (List.mem_cons_of_mem _ hi)]
                rcases h v List.mem_cons_self with h | h
                · exact set_same h
                · exact List.set_eq_of_length_le (List.getElem?_eq_none_iff.mp h)
            refine nn vs _ fun i hi => ?_
            cases h : (wipeE e vs)[i]? with
            | none => exact .inr rfl
            | some o =>
              cases o with
              | none => exact .inl rfl
              | some d => exact absurd hi (wipeE_some h)
          exact (this vs e1).symm
        · rintro i m H2 ⟨rfl, hi, e2, S2, acc, us, rest, f3, hD2, st3, ew, ra, hal, hcc, hfin⟩
          have hW : ∀ a, (S2 a ∨ R a ∨ a = D) → H2 a ≠ none := fun a z => st3.trk a z
          obtain ⟨io1, io2⟩ := io H2 (fun a => S2 a ∨ R a ∨ a = D) (fun a o h n => f3.keep a o h fun z => n (.inl z)) (fun a z => by
            rcases z with z | z | z
            · exact (f3.new a z).imp .inl id
            · exact .inl (.inr z)
            · exact .inr (by rw [z]; exact hD)) hW
          by_cases hlt : i < ds.length
          · have hd : ds[i]? = some ds[i] := List.getElem?_eq_getElem hlt
            obtain ⟨go, yl⟩ := io2 i _ hd
            refine .inr ⟨go, fun H' => i + 1 ≤ ds.length ∧ ∃ e' S' acc us rest, Fr H1 H' S1 S' ∧ H' D = some (.lst us) ∧ Sta G.K H' (fun a => R a ∨ a = D) S' e' (L2.wipe σ vs) ∧ e' = wipeE e' vs ∧ Rps G.K H' (fun a => S' a ∨ R a ∨ a = D) acc noS us ∧ acc.length ≤ i + 1 ∧
              compL b tst elt vs (ds.drop (i + 1)) e' = some (rest, eF) ∧ fin = acc ++ rest, fun H' w => ⟨ds.length - (i + 1), by omega, rfl, w⟩, fun x H3 y => ?_⟩
            obtain ⟨k3, r3⟩ := yl x H3 y
            have st4 := st3.more k3
            have f4 : Fr H1 H3 S1 S2 := f3.more k3
            have ra3 : Rps G.K H3 (fun a => S2 a ∨ R a ∨ a = D) acc noS us := Rps.keep (U := noS) ⟨fun a o h _ => k3 a o h, fun _ z => z.elim, fun _ z => .inl z⟩ acc noS noS us (fun _ z => z) (fun _ _ z => z) ra
            have hD3 := k3 D _ hD2
            rw [List.drop_eq_getElem_cons hlt] at hcc
            unfold compL at hcc
            split at hcc
            · cases hcc
            · rename_i e3 hb
              have idem : ∀ (e : Env), wipeE e vs = wipeE (wipeE e vs) vs := by
                intro e
                have nn : ∀ (vs : List Nat) (e : Env), (∀ i ∈ vs, e[i]? = some none ∨ e[i]? = none) → wipeE e vs = e := by
                  intro vs
                  induction vs with
                  | nil => intro e _; rfl
                  | cons v vs ih =>
                    intro e h
                    show (wipeE e vs).set v none = e
                    rw [ih e fun i hi => h i (List.mem_cons_of_mem _ hi)]
                    rcases h v List.mem_cons_self with h | h
                    · exact set_same h
                    · exact List.set_eq_of_length_le (List.getElem?_eq_none_iff.mp h)
                refine (nn vs _ fun i hi => ?_).symm
                cases h : (wipeE e vs)[i]? with
                | none => exact .inr rfl
                | some o =>
                  cases o with
                  | none => exact .inl rfl
                  | some d => exact absurd hi (wipeE_some h)
              have r3' : Rp G.K H3 (fun a => S2 a ∨ (R a ∨ a = D)) ds[i] noS x := r3
              refine hg H3 (fun a => R a ∨ a = D) S2 e2 _ _ x e3 _ st4 r3' hb fun σ5 st5 _ w5 => ⟨w5.trans ?_, ?_⟩
              · have ww : ∀ (vs' : List Nat) (σ : L2.St), (∀ i ∈ vs', σ[i]? = some none ∨ σ[i]? = none) → L2.wipe σ vs' = σ := by
                  intro vs'
                  induction vs' with
                  | nil => intro σ _; rfl
                  | cons v vs' ih =>
                    intro σ h
                    show (L2.wipe σ vs').set v none = σ
                    rw [ih σ fun i hi => h i (List.mem_cons_of_mem _ hi)]
                    rcases h v List.mem_cons_self with h | h
                    · exact set_same h
                    · exact List.set_eq_of_length_le (List.getElem?_eq_none_iff.mp h)
                refine ww vs _ fun i hi => ?_
                cases h : (L2.wipe σ vs)[i]? with
                | none => exact .inr rfl
                | some o =>
                  cases o with
                  | none => exact .inl rfl
                  | some d => exact absurd hi (L2.wipe_some h).2
              have w5' : L2.wipe σ5 vs = L2.wipe σ vs := w5.trans (by
                have ww : ∀ (vs' : List Nat) (σ : L2.St), (∀ i ∈ vs', σ[i]? = some none ∨ σ[i]? = none) → L2.wipe σ vs' = σ := by
                  intro vs'
                  induction vs' with
                  | nil => intro σ _; rfl
                  | cons v vs' ih =>
                    intro σ h
                    show (L2.wipe σ vs').set v none = σ
                    rw [ih σ fun i hi => h i (List.mem_cons_of_mem _ hi)]
                    rcases h v List.mem_cons_self with h | h
                    · exact set_same h
                    · exact List.set_eq_of_length_le (List.getElem?_eq_none_iff.mp h)
                refine ww vs _ fun i hi => ?_
                cases h : (L2.wipe σ vs)[i]? with
                | none => exact .inr rfl
                | some o =>
                  cases o with
                  | none => exact .inl rfl
                  | some d => exact absurd hi (L2.wipe_some h).2)
              rw [← hK] at st5
              refine ⟨_, S2, e3, st5, ?_⟩
              split at hcc
              · -- kept
                rename_i e4 ht
                rw [ht]
                intro H6 S6 f6 st6
                rw [if_pos rfl]
                refine ⟨_, S6, e4, st6, ?_⟩
                split at hcc
                · rename_i y0 e5 hy
                  rw [hy]
                  intro v7 H7 S7 S8 f7 n7
                  split at hcc
                  · rename_i xs e6 hx
                    injection hcc with hcc
                    injection hcc with hc1 hc2
                    subst hc2
                    have f67 : Fr H3 H7 S2 S8 := f6.trans (f7.less fun _ z => .inr z)
                    have hSD : ¬ S2 D := fun z => st5.dis D z (.inr rfl)
                    have hD7 : H7 D = some (.lst us) := f67.keep D _ hD3 hSD
                    have hus : us.length = acc.length := ra.length
                    refine ⟨us, hD7, by rw [hus]; exact Nat.lt_of_le_of_lt (by omega : acc.length ≤ 1000000) (by decide), hlt, ?_⟩
                    have n7K := n7
                    rw [hK] at n7K
                    have dD : ∀ a, (S8 a) → a ≠ D := fun a z y => n7.dis a (.inr z) (.inr y)
                    -- the new list
                    have kU : Kp H7 (upd H7 D (.lst (us ++ [v7]))) (fun a => S8 a ∨ R a ∨ a = D) (fun a => S8 a ∨ R a ∨ a = D) (fun a => a = D) := ⟨fun a o h n => by rw [upd_ne n]; exact h, fun a z => .inr (.inr z), fun a z => .inl z⟩
                    have fz : Rp G.K H7 (fun a => S8 a ∨ R a ∨ a = D) (frz y0) noS v7 := Rp.frz y0 S7 v7 n7K.rp fun a z => by
                      rcases z with z | z | z
                      · exact ⟨.inr (.inl z), fun w => n7K.d12 a w z⟩
                      · exact ⟨.inr (.inr (.inl z)), fun w => n7K.dis a (.inl w) (.inl z)⟩
                      · exact ⟨.inr (.inr (.inr z)), fun w => n7K.dis a (.inl w) (.inr z)⟩
                    have ra7 : Rps G.K H7 (fun a => S8 a ∨ R a ∨ a = D) acc noS us := Rps.keep (W := fun a => S2 a ∨ R a ∨ a = D) (U := S2) ⟨f67.keep, fun a z => .inl z, fun a z => by
                      rcases z with z | z | z
                      · exact (f67.new a z).imp .inl id
                      · exact .inl (.inr (.inl z))
                      · exact .inl (.inr (.inr z))⟩ acc noS noS us (fun _ z => z) (fun _ z => z.elim) ra3
                    refine ⟨wipeE e5 vs, S8, acc ++ [frz y0], us ++ [v7], xs, ?_, upd_same, ?_, idem e5, ?_, by rw [List.length_append, List.length_singleton]; omega, hx, ?_⟩
                    · have f17 : Fr H1 H7 S1 S8 := f4.trans f67
                      refine ⟨fun a o h n => ?_, f17.new⟩
                      rw [upd_ne (ne_of_none h hD)]
                      exact f17.keep a o h n
                    · have s7 := n7K.drop
                      refine ⟨s7.dis, fun a z => ?_, ?_⟩
                      · by_cases h : a = D
                        · rw [h, upd_same]; exact fun z => by cases z
                        · rw [upd_ne h]; exact s7.trk a z
                      · rw [← w5']
                        exact Er.wipe (Er.keep kU e5 S8 S8 σ5 (fun _ z => z) (fun a z y => dD a z y) s7.er) vs
                    · exact Rps.snoc (Rps.keep kU acc noS noS us (fun _ z => z) (fun _ z => z.elim) ra7) (Rp.keep kU (frz y0) noS noS v7 (fun _ z => z) (fun _ z => z.elim) fz)
                    · rw [hfin, ← hc1, List.append_assoc]; rfl
                  · cases hcc
                · cases hcc
              · -- not kept
                rename_i e4 ht
                rw [ht]
                intro H6 S6 f6 st6
                rw [if_neg Bool.false_ne_true]
                have hSD : ¬ S2 D := fun z => st5.dis D z (.inr rfl)
                have hD6 : H6 D = some (.lst us) := f6.keep D _ hD3 hSD
                rw [hK] at st6
                refine ⟨hlt, wipeE e4 vs, S6, acc, us, rest, f4.trans f6, hD6, ⟨st6.dis, st6.trk, ?_⟩, idem e4, ?_, by omega, hcc, hfin⟩
                · rw [← w5']
                  exact Er.wipe st6.er vs
                · exact Rps.keep (W := fun a => S2 a ∨ R a ∨ a = D) (U := S2) ⟨f6.keep, fun a z => .inl z, fun a z => by
                    rcases z with z | z | z
                    · exact (f6.new a z).imp .inl id
                    · exact .inl (.inr (.inl z))
                    · exact .inl (.inr (.inr z))⟩ acc noS noS us (fun _ z => z) (fun _ z => z.elim) ra3
              · cases hcc
          · have hi' : i = ds.length := by omega
            subst hi'
            rw [List.drop_length] at hcc
            unfold compL at hcc
            injection hcc with hcc
            injection hcc with hc1 hc2
            subst hc1 hc2
            rw [List.append_nil] at hfin
            subst hfin
            refine .inl ⟨io1 _ (Nat.le_refl _), q (.ref D) H2 (fun a => a = D) S2 ?_ ⟨fun a z y => st3.dis a y (.inr z), fun a z y => ?_, fun a z => ?_, ?_, ?_⟩⟩
            · have f5 := f1.trans f3
              refine ⟨f5.keep, fun a z => z.elim (fun y => ?_) (f5.new a)⟩
              subst y
              cases q2 : H1 a with
              | none => exact .inr rfl
              | some o =>
                by_cases hs : S1 a
                · exact .inl hs
                · have := f1.keep a o q2 hs
                  rw [hD] at this; cases this
            · rcases z with z | z
              · exact nD a (.inr y) z
              · exact st3.dis a z (.inl y)
            · rcases z with z | z | z
              · exact st3.trk a (.inr (.inr z))
              · exact st3.trk a (.inl z)
              · exact st3.trk a (.inr (.inl z))
            · refine ⟨D, us, rfl, ⟨hD2, rfl⟩, ?_⟩
              refine ra.mono (fun a z => ?_) fun _ z => z.elim
              rcases z with z | z | z
              · exact .inr (.inr z)
              · exact .inl z
              · exact .inr (.inl z)
            · have er1 : Er G.K H2 (fun a => a = D ∨ S2 a ∨ R a) e2 S2 (L2.wipe σ vs) := st3.er.mono (fun a z => by
                rcases z with z | z | z
                · exact .inr (.inr z)
                · exact .inl z
                · exact .inr (.inl z)) fun _ z => z
              refine er1.congr (L2.wipe_length σ vs).symm fun i d hd => ?_
              rw [ew] at hd
              exact (wipe_out (wipeE_some hd)).symm
    · rw [if_neg hl] at q; exact q.elim
theorem d_comp {src : SrcF} {b : BF} {tst : TF} {elt : DF} {g : TG} {vs : List Nat} {G0 : Cfg} (hK : G0.K = G.K) (hg : TgR G.K [] vs g b) :
    ∀ σ H Q, tD G (dcomp src b tst elt vs) σ H Q → tLc (tI G src) g (tT G0 tst) (tD G0 elt) vs σ H Q := fun σ H Q ⟨R, S, e, st, q⟩ => by
  refine ⟨R, S, e, st, ?_⟩
  unfold dcomp at q
  cases hf : src e with
  | bad => rw [hf] at q; exact q.elim
  | err x e1 => rw [hf] at q; exact q
  | ok p =>
    obtain ⟨ds, e1⟩ := p
    rw [hf] at q
    exact fun J H1 S1 f1 st1 io => comp_core hK hg st1 io (DEnd.later q f1)
end
end DL

namespace DL
open PySem L2 PyProof.Rows

/-! ### operators, builtins, methods: the trees' functions -/
section
variable {X : Cx} {K : PySem.W.Frag} {H H' : Hp} {W S S1 S2 : AS}
theorem New.lst {ds : List D} {vs : List V} {Q : VK} (n : New K H W (.lst true ds) Q) (r : Rps K H W ds noS vs) {p : Addr} (hp : H p = none) : Q (.ref p) (upd H p (.lst vs)) := by
  refine n (.ref p) _ (fun a => a = p) (fun a o h => by rw [upd_ne (ne_of_none h hp)]; exact h) (fun a z => ⟨by rw [z]; exact hp, by rw [z, upd_same]; exact fun z => by cases z⟩) ⟨p, vs, rfl, ⟨upd_same, rfl⟩, ?_⟩
  exact Rps.keep (U := noS) ⟨fun a o h _ => by rw [upd_ne (ne_of_none h hp)]; exact h, fun _ z => z.elim, fun a z => z.elim (fun y => .inr (by rw [y]; exact hp)) .inl⟩ ds noS _ vs (fun _ z => z.elim) (fun _ z => z.elim) r
theorem New.tup {ds : List D} {vs : List V} {Q : VK} (n : New K H W (.tup ds) Q) (trk : ∀ a, W a → H a ≠ none) (r : Rps K H W ds noS vs) {p : Addr} (hp : H p = none) : Q (.ref p) (upd H p (.tup vs)) := by
  refine n (.ref p) _ noS (fun a o h => by rw [upd_ne (ne_of_none h hp)]; exact h) (fun a z => z.elim) ⟨p, vs, rfl, .inl ⟨.inl upd_same, fun z => z.elim (fun y => y) fun y => trk p y hp⟩, ?_⟩
  exact Rps.keep (U := noS) ⟨fun a o h _ => by rw [upd_ne (ne_of_none h hp)]; exact h, fun _ z => z.elim, fun a z => z.elim (fun y => y.elim) .inl⟩ ds noS _ vs (fun _ z => z.elim) (fun _ z => z.elim) r
/-- nothing new -/
theorem New.val {d : D} {v : V} {Q : VK} (n : New K H W d Q) (r : Rp K H W d noS v) : Q v H :=
  n v H noS (fun _ _ h => h) (fun _ z => z.elim) (r.mono (fun a z => z.elim (fun y => y.elim) id) fun _ z => z)
theorem LstAt.sq {o : Bool} {a : Addr} {vs : List V} (h : LstAt H W o S a vs) : SqL K H a vs := by
  cases o with
  | false => exact .inl (.inl h.1)
  | true => exact .inl (.inl h.1)
theorem LstAt.at {o : Bool} {a : Addr} {vs : List V} (h : LstAt H W o S a vs) : H a = some (.lst vs) := by
  cases o with
  | false => exact h.1
  | true => exact h.1
theorem TupAt.sq {a : Addr} {vs : List V} (h : TupAt K H W a vs) : SqT K H a vs := by
  rcases h with ⟨h1, h2⟩ | h1
  · exact .inl h1
  · exact .inr h1
theorem DicAt.rd {o : Bool} {a : Addr} {kvs : List (Key × V)} (h : DicAt H W o S a kvs) : Rd H a (.dK kvs) := by
  cases o with
  | false => exact h.1
  | true => exact .inl h.1
theorem Rps.append : ∀ {xs ys : List D} {us vs : List V}, Rps K H W xs noS us → Rps K H W ys noS vs → Rps K H W (xs ++ ys) noS (us ++ vs)
  | [], _, _, _, h, h2 => by have h' : _ = _ := h; subst h'; exact h2
  | x :: xs, _, _, _, h, h2 => by
    obtain ⟨v, vr, T1, T2, e, t1, t2, t3, t4, t5⟩ := h
    subst e
    exact ⟨v, _, noS, noS, rfl, fun _ z => z, fun _ z => z, fun _ z => z.elim, t4.mono (fun _ z => z) t1, (t5.mono (fun _ z => z) t2).append h2⟩
theorem Rps.drop : ∀ {xs : List D} {us : List V} (n : Nat), Rps K H W xs noS us → Rps K H W (xs.drop n) noS (us.drop n)
  | [], _, n, h => by have h' : _ = _ := h; subst h'; rw [List.drop_nil, List.drop_nil]; rfl
  | x :: xs, _, 0, h => h
  | x :: xs, _, n + 1, h => by
    obtain ⟨v, vr, T1, T2, e, t1, t2, t3, t4, t5⟩ := h
    subst e
    exact (t5.mono (fun _ z => z) t2).drop n
theorem Rps.take : ∀ {xs : List D} {us : List V} (n : Nat), Rps K H W xs noS us → Rps K H W (xs.take n) noS (us.take n)
  | [], _, n, h => by have h' : _ = _ := h; subst h'; rw [List.take_nil, List.take_nil]; rfl
  | x :: xs, us, 0, h => rfl
  | x :: xs, _, n + 1, h => by
    obtain ⟨v, vr, T1, T2, e, t1, t2, t3, t4, t5⟩ := h
    subst e
    exact ⟨v, vr.take n, noS, noS, rfl, fun _ z => z, fun _ z => z, fun _ z => z.elim, t4.mono (fun _ z => z) t1, (t5.mono (fun _ z => z) t2).take n⟩
theorem Rps.reverse : ∀ {xs : List D} {us : List V}, Rps K H W xs noS us → Rps K H W xs.reverse noS us.reverse
  | [], _, h => by have h' : _ = _ := h; subst h'; rfl
  | x :: xs, _, h => by
    obtain ⟨v, vr, T1, T2, e, t1, t2, t3, t4, t5⟩ := h
    subst e
    rw [List.reverse_cons, List.reverse_cons]
    exact ((t5.mono (fun _ z => z) t2).reverse).snoc (t4.mono (fun _ z => z) t1)
/-- lists of ints, texts, truths -/
theorem Rps.ints : ∀ {ns : List Int} {S : AS} {vs : List V}, Rps K H W (ns.map D.int) S vs → vs = ns.map V.int
  | [], _, _, h => h
  | n :: ns, _, _, h => by
    obtain ⟨v, vr, T1, T2, e, t1, t2, t3, t4, t5⟩ := h
    have t4' : v = V.int n := t4
    rw [e, t4', t5.ints]; rfl
theorem Rps.strs : ∀ {ns : List (List Nat)} {S : AS} {vs : List V}, Rps K H W (ns.map D.str) S vs → vs = (ns.map Sx).map V.str
  | [], _, _, h => h
  | n :: ns, _, _, h => by
    obtain ⟨v, vr, T1, T2, e, t1, t2, t3, t4, t5⟩ := h
    have t4' : v = V.str (Sx n) := t4
    rw [e, t4', t5.strs]; rfl
theorem Rps.bls : ∀ {ns : List Bool} {S : AS} {vs : List V}, Rps K H W (ns.map D.bl) S vs → vs = ns.map V.bl
  | [], _, _, h => h
  | n :: ns, _, _, h => by
    obtain ⟨v, vr, T1, T2, e, t1, t2, t3, t4, t5⟩ := h
    have t4' : v = V.bl n := t4
    rw [e, t4', t5.bls]; rfl
theorem Rps.of_ints {W : AS} : ∀ (ns : List Int), Rps K H W (ns.map D.int) noS (ns.map V.int)
  | [] => rfl
  | n :: ns => ⟨_, _, noS, noS, rfl, fun _ z => z, fun _ z => z, fun _ z => z.elim, rfl, Rps.of_ints ns⟩
theorem Rps.of_strs {W : AS} : ∀ (ns : List (List Nat)), Rps K H W (ns.map D.str) noS ((ns.map Sx).map V.str)
  | [] => rfl
  | n :: ns => ⟨_, _, noS, noS, rfl, fun _ z => z, fun _ z => z, fun _ z => z.elim, rfl, Rps.of_strs ns⟩
theorem Sx_len (a : List Nat) : (Sx a).length = a.length := by simp [Sx, Str.length]
theorem Sx_cat (a b : List Nat) : Sx a ++ Sx b = Sx (a ++ b) := SX.S_cat a b
theorem Sx_tl (x : Str) : Sx x.cps.toList = x := SX.S_tl x
theorem Sx_inj {a b : List Nat} (h : Sx a = Sx b) : a = b := SX.S_inj h

/-! #### + - * // % ** -/
def rAddP : V → V → Hp → VK → Prop := fun x y H Q => rI0 (fun i j => .int (i + j)) x y H Q ∨ (∃ i j, x = .str i ∧ y = .str j ∧ i.length + j.length ≤ sizeLine ∧ Q (.str (i ++ j)) H)
theorem o_addP : OpR X (binaryOp .Add) rAddP := OpR.or op_add op_add_str
def pAdd : D → D → Option D
  | .int i, .int j => some (.int (i + j))
  | .str x, .str y => if x.length + y.length ≤ 16777216 then some (.str (x ++ y)) else none
  | _, _ => none
theorem l_addP : OpP K rAddP pAdd := fun H W S d1 d2 v1 v2 d Q r1 r2 hg q => by
  unfold pAdd at hg
  split at hg
  · cases hg
    exact .inl ⟨_, _, r1, r2, q _ rfl⟩
  · rename_i x y
    split at hg
    · rename_i hl
      cases hg
      refine .inr ⟨Sx x, Sx y, r1, r2, by rw [Sx_len, Sx_len, sizeLine_eq]; exact hl, ?_⟩
      rw [Sx_cat]
      exact q _ rfl
    · cases hg
  · cases hg
theorem pAdd_frz : ∀ x y d, pAdd x y = some d → isFrz d = true := fun x y d h => by
  unfold pAdd at h
  split at h
  · cases h; rfl
  · split at h
    · cases h; rfl
    · cases h
  · cases h
def rAdd (K : PySem.W.Frag) : V → V → Hp → VK → Prop := fun x y H Q => (rAddP x y H Q ∨ rCat x y H Q) ∨ rCatT K x y H Q
theorem o_add : OpR X (binaryOp .Add) (rAdd X.K) := OpR.or (OpR.or o_addP op_cat) op_catT
def dAdd : D → D → Option D
  | .lst _ xs, .lst _ ys => if (allFrz xs && allFrz ys && decide (xs.length + ys.length ≤ 1000000)) = true then some (.lst true (xs ++ ys)) else none
  | .tup xs, .tup ys => if (!xs.isEmpty && !ys.isEmpty && decide (xs.length + ys.length ≤ 1000000)) = true then some (.tup (xs ++ ys)) else none
  | x, y => pAdd x y
theorem million : (1000000 : Nat) ≤ sizeLine := by rw [sizeLine_eq]; decide
theorem l_add : OpA K (rAdd K) dAdd := fun H W S1 S2 d1 d2 v1 v2 d Q trk r1 r2 hg n => by
  unfold dAdd at hg
  split at hg
  · rename_i o1 xs o2 ys
    split at hg
    · rename_i hc
      cases hg
      simp only [Bool.and_eq_true, decide_eq_true_eq] at hc
      obtain ⟨⟨h1, h2⟩, h3⟩ := hc
      obtain ⟨a, us, rfl, ha, ra⟩ := r1
      obtain ⟨b, ws, rfl, hb, rb⟩ := r2
      have ra' := Rps.nown xs _ us h1 ra
      have rb' := Rps.nown ys _ ws h2 rb
      refine .inl (.inr ⟨a, b, us, ws, rfl, rfl, ha.at, hb.at, by rw [ra.length, rb.length]; exact Nat.le_trans h3 million, fun p hp => n.lst (ra'.append rb') hp⟩)
    · cases hg
  · rename_i xs ys
    split at hg
    · rename_i hc
      cases hg
      simp only [Bool.and_eq_true, decide_eq_true_eq, Bool.not_eq_true', List.isEmpty_eq_false_iff] at hc
      obtain ⟨⟨h1, h2⟩, h3⟩ := hc
      obtain ⟨a, us, rfl, ha, ra⟩ := r1
      obtain ⟨b, ws, rfl, hb, rb⟩ := r2
      refine .inr ⟨a, b, us, ws, rfl, rfl, ha.sq, hb.sq, fun z => h1 (by have := ra.length; rw [z] at this; exact List.length_eq_zero_iff.mp this.symm), by rw [ra.length, rb.length]; exact Nat.le_trans h3 million,
        fun z => absurd (by have := rb.length; rw [z] at this; exact List.length_eq_zero_iff.mp this.symm) h2, fun _ p hp => n.tup trk (ra.append rb) hp⟩
    · cases hg
  · exact .inl (.inl (OpA.of l_addP pAdd_frz H W S1 S2 d1 d2 v1 v2 d Q trk r1 r2 hg n))
/-- int operators -/
def pI2 (c : Int → Int → Bool) (g : Int → Int → Int) : D → D → Option D
  | .int i, .int j => if c i j = true then some (.int (g i j)) else none
  | _, _ => none
theorem l_I {C : Int → Int → Prop} {c : Int → Int → Bool} {g : Int → Int → Int} (h : ∀ i j, c i j = true → C i j) : OpP K (rI C fun i j => .int (g i j)) (pI2 c g) := fun H W S d1 d2 v1 v2 d Q r1 r2 hg q => by
  unfold pI2 at hg
  split at hg
  · split at hg
    · rename_i hc
      cases hg
      exact ⟨_, _, r1, r2, h _ _ hc, q _ rfl⟩
    · cases hg
  · cases hg
theorem pI2_frz {c : Int → Int → Bool} {g : Int → Int → Int} : ∀ x y d, pI2 c g x y = some d → isFrz d = true := fun x y d h => by
  unfold pI2 at h
  split at h
  · split at h
    · cases h; rfl
    · cases h
  · cases h
def pSub : D → D → Option D := pI2 (fun _ _ => true) fun i j => i - j
theorem l_sub : OpP K (rI0 fun i j => .int (i - j)) pSub := fun H W S d1 d2 v1 v2 d Q r1 r2 hg q => by
  obtain ⟨i, j, e1, e2, _, q⟩ := l_I (K := K) (C := fun _ _ => True) (fun _ _ _ => trivial) H W S d1 d2 v1 v2 d Q r1 r2 hg q
  exact ⟨i, j, e1, e2, q⟩
def pMul : D → D → Option D := pI2 (fun i j => decide (i.natAbs.log2 + j.natAbs.log2 < 1000000)) fun i j => i * j
theorem l_mul : OpP K (rI CMulW fun i j => .int (i * j)) pMul := l_I fun i j h => show i.natAbs.log2 + j.natAbs.log2 < 1000000 from of_decide_eq_true h
def pDiv : D → D → Option D := pI2 (fun _ j => decide (0 < j ∧ j.natAbs.log2 < 9000)) fun i j => i / j
theorem l_div : OpP K (rI CDivW fun i j => .int (i / j)) pDiv := l_I fun i j h => show 0 < j ∧ j.natAbs.log2 < 9000 from of_decide_eq_true h
def pMod : D → D → Option D := pI2 (fun _ j => decide (0 < j)) fun i j => i % j
theorem l_mod : OpP K (rI (fun _ j => 0 < j) fun i j => .int (i % j)) pMod := l_I fun _ _ h => of_decide_eq_true h
def pPow : D → D → Option D := pI2 (fun i j => decide (0 ≤ j ∧ j ≤ 1000000 ∧ i.natAbs < 2 ^ 64)) fun i j => i ^ j.toNat
theorem l_pow : OpP K (rI CPow fun i j => .int (i ^ j.toNat)) pPow := l_I fun i j h => show 0 ≤ j ∧ j ≤ 1000000 ∧ i.natAbs < 2 ^ 64 from of_decide_eq_true h
def pNeg : D → Option D
  | .int i => some (.int (-i))
  | _ => none
def UnP (K : PySem.W.Frag) (r : V → Hp → VK → Prop) (g : D → Option D) : Prop :=
  ∀ (H : Hp) (W S : AS) (d1 : D) (v1 : V) (d : D) (Q : VK), Rp K H W d1 S v1 → g d1 = some d → (∀ v, Rp K H W d S v → Q v H) → r v1 H Q
theorem l_neg : UnP K (rU fun i => .int (-i)) pNeg := fun H W S d1 v1 d Q r1 hg q => by
  cases d1 <;> simp [pNeg] at hg
  subst hg
  exact ⟨_, r1, q _ rfl⟩
def p1 (g : D → Option D) (fa : PF) : PF := fun e => (fa e).bind g
theorem p_un {r : V → Hp → VK → Prop} {g : D → Option D} {fa : PF} (h : UnP K r g) : ∀ σ H Q, tP K (p1 g fa) σ H Q → tUn r (tP K fa) σ H Q := fun σ H Q ⟨R, S, e, d, st, hf, q⟩ => by
  unfold p1 at hf
  cases ha : fa e with
  | none => rw [ha] at hf; cases hf
  | some x =>
    rw [ha] at hf
    exact ⟨R, S, e, x, st, ha, fun v1 r1 => h H _ _ x v1 d Q r1 hf q⟩

/-! #### comparisons -/
def pCmp (c : Int → Int → Bool) : D → D → Option D
  | .int i, .int j => some (.bl (c i j))
  | _, _ => none
theorem l_cmp {c : Int → Int → Bool} : OpP K (rI0 fun i j => .bl (c i j)) (pCmp c) := fun H W S d1 d2 v1 v2 d Q r1 r2 hg q => by
  unfold pCmp at hg
  split at hg
  · cases hg
    exact ⟨_, _, r1, r2, q _ rfl⟩
  · cases hg
abbrev pLt := pCmp fun i j => decide (i < j)
abbrev pLe := pCmp fun i j => decide (i ≤ j)
abbrev pGt := pCmp fun i j => decide (j < i)
abbrev pGe := pCmp fun i j => decide (j ≤ i)
mutual
def toPy : D → Option PyData
  | .non => some .none
  | .bl b => some (.bool b)
  | .int i => some (.int i)
  | .str x => some (.str (Sx x))
  | .tup ds => (toPys ds).map .tuple
  | .lst _ ds => (toPys ds).map .list
  | _ => none
def toPys : List D → Option (List PyData)
  | [] => some []
  | d :: ds => (toPy d).bind fun p => (toPys ds).map fun ps => p :: ps
end
mutual
theorem Rp.dp : ∀ (d : D) (S : AS) (v : V) (p : PyData), Rp K H W d S v → toPy d = some p → Dp K H v p
  | .non, _, v, p, h, e => by
    have h' : v = V.non := h
    simp only [toPy, Option.some.injEq] at e
    subst h' e; exact .non
  | .bl b, _, v, p, h, e => by
    have h' : v = V.bl b := h
    simp only [toPy, Option.some.injEq] at e
    subst h' e; exact .bl b
  | .int i, _, v, p, h, e => by
    have h' : v = V.int i := h
    simp only [toPy, Option.some.injEq] at e
    subst h' e; exact .int i
  | .str x, _, v, p, h, e => by
    have h' : v = V.str (Sx x) := h
    simp only [toPy, Option.some.injEq] at e
    subst h' e; exact .str _
  | .tup ds, S, v, p, h, e => by
    obtain ⟨a, vs, rfl, ha, hr⟩ := h
    simp only [toPy, Option.map_eq_some_iff] at e
    obtain ⟨ps, e1, e2⟩ := e
    subst e2
    exact .tup ha.sq (Rps.dp ds _ vs ps hr e1)
  | .lst o ds, S, v, p, h, e => by
    obtain ⟨a, vs, rfl, ha, hr⟩ := h
    simp only [toPy, Option.map_eq_some_iff] at e
    obtain ⟨ps, e1, e2⟩ := e
    subst e2
    exact .lst ha.sq (Rps.dp ds _ vs ps hr e1)
  | .dic o ks ds, S, v, p, h, e => by simp [toPy] at e
  | .scr ns, S, v, p, h, e => by simp [toPy] at e
  | .otu ns, S, v, p, h, e => by simp [toPy] at e
theorem Rps.dp : ∀ (ds : List D) (S : AS) (vs : List V) (ps : List PyData), Rps K H W ds S vs → toPys ds = some ps → DpAll K H vs ps
  | [], _, vs, ps, h, e => by
    have h' : vs = [] := h
    simp only [toPys, Option.some.injEq] at e
    subst h' e; exact .nil
  | d :: ds, S, vs, ps, h, e => by
    obtain ⟨v, vr, T1, T2, ev, t1, t2, t3, t4, t5⟩ := h
    simp only [toPys, Option.bind_eq_some_iff, Option.map_eq_some_iff] at e
    obtain ⟨p, e1, qs, e2, e3⟩ := e
    subst ev e3
    exact .cons (Rp.dp d _ v p t4 e1) (Rps.dp ds _ vr qs t5 e2)
end
def eqD : D → D → Option Bool
  | .int i, .int j => some (decide (i = j))
  | .str x, .str y => some (decide (x = y))
  | .bl x, .bl y => some (decide (x = y))
  | .non, .non => some true
  | .non, .int _ => some false
  | .int _, .non => some false
  | .non, .str _ => some false
  | .str _, .non => some false
  | .non, .bl _ => some false
  | .bl _, .non => some false
  | .int _, .str _ => some false
  | .str _, .int _ => some false
  | x, y => match toPy x, toPy y with
    | some p, some q => if (SeqAt.shaped p && SeqAt.shaped q) = true then some (PyData.eqv p q) else none
    | _, _ => none
def pEq (x y : D) : Option D := (eqD x y).map .bl
def pNe (x y : D) : Option D := (eqD x y).map fun b => .bl (!b)
def rEqA (K : PySem.W.Frag) : V → V → Hp → VK → Prop := fun x y H Q => rEq x y H Q ∨ rEqD K x y H Q
def rNeA (K : PySem.W.Frag) : V → V → Hp → VK → Prop := fun x y H Q => rNe x y H Q ∨ rNeD K x y H Q
theorem o_eq (hu : X.A.units + 64 < cLine) : OpR X (compareOp .Eq) (rEqA X.K) := OpR.or op_eq (op_eqD hu)
theorem o_ne (hu : X.A.units + 64 < cLine) : OpR X (compareOp .NotEq) (rNeA X.K) := OpR.or op_ne (op_neD hu)
theorem decide_V {P Q : Prop} [Decidable P] [Decidable Q] (h : P ↔ Q) : decide P = decide Q := by
  by_cases p : P
  · rw [decide_eq_true p, decide_eq_true (h.mp p)]
  · rw [decide_eq_false p, decide_eq_false fun q => p (h.mpr q)]
theorem eqD_cases {x y : D} {b : Bool} (h : eqD x y = some b) : (∀ (H : Hp) (W S1 S2 : AS) (v1 v2 : V), Rp K H W x S1 v1 → Rp K H W y S2 v2 → scal v1 v2 = true ∧ decide (v1 = v2) = b) ∨
    ∃ p q, toPy x = some p ∧ toPy y = some q ∧ SeqAt.shaped p = true ∧ SeqAt.shaped q = true ∧ PyData.eqv p q = b := by
  unfold eqD at h
  split at h
  · cases h; exact .inl fun H W S1 S2 v1 v2 r1 r2 => by have a : v1 = V.int _ := r1; have c : v2 = V.int _ := r2; subst a c; exact ⟨rfl, decide_V (by simp)⟩
  · cases h; exact .inl fun H W S1 S2 v1 v2 r1 r2 => by have a : v1 = V.str _ := r1; have c : v2 = V.str _ := r2; subst a c; exact ⟨rfl, decide_V ⟨fun z => Sx_inj (V.str.inj z), fun z => by rw [z]⟩⟩
  · cases h; exact .inl fun H W S1 S2 v1 v2 r1 r2 => by have a : v1 = V.bl _ := r1; have c : v2 = V.bl _ := r2; subst a c; exact ⟨rfl, decide_V (by simp)⟩
  · cases h; exact .inl fun H W S1 S2 v1 v2 r1 r2 => by have a : v1 = V.non := r1; have c : v2 = V.non := r2; subst a c; exact ⟨rfl, by simp⟩
  · cases h; exact .inl fun H W S1 S2 v1 v2 r1 r2 => by have a : v1 = V.non := r1; have c : v2 = V.int _ := r2; subst a c; exact ⟨rfl, by simp⟩
  · cases h; exact .inl fun H W S1 S2 v1 v2 r1 r2 => by have a : v1 = V.int _ := r1; have c : v2 = V.non := r2; subst a c; exact ⟨rfl, by simp⟩
  · cases h; exact .inl fun H W S1 S2 v1 v2 r1 r2 => by have a : v1 = V.non := r1; have c : v2 = V.str _ := r2; subst a c; exact ⟨rfl, by simp⟩
  · cases h; exact .inl fun H W S1 S2 v1 v2 r1 r2 => by have a : v1 = V.str _ := r1; have c : v2 = V.non := r2; subst a c; exact ⟨rfl, by simp⟩
  · cases h; exact .inl fun H W S1 S2 v1 v2 r1 r2 => by have a : v1 = V.non := r1; have c : v2 = V.bl _ := r2; subst a c; exact ⟨rfl, by simp⟩
  · cases h; exact .inl fun H W S1 S2 v1 v2 r1 r2 => by have a : v1 = V.bl _ := r1; have c : v2 = V.non := r2; subst a c; exact ⟨rfl, by simp⟩
  · cases h; exact .inl fun H W S1 S2 v1 v2 r1 r2 => by have a : v1 = V.int _ := r1; have c : v2 = V.str _ := r2; subst a c; exact ⟨rfl, by simp⟩
  · cases h; exact .inl fun H W S1 S2 v1 v2 r1 r2 => by have a : v1 = V.str _ := r1; have c : v2 = V.int _ := r2; subst a c; exact ⟨rfl, by simp⟩
  · split at h
    · rename_i p q hp hq
      split at h
      · rename_i hs
        rw [Bool.and_eq_true] at hs
        exact .inr ⟨p, q, hp, hq, hs.1, hs.2, Option.some.inj h⟩
      · cases h
    · cases h
theorem l_eqG {x y : D} {b : Bool} {S1 S2 : AS} {v1 v2 : V} {Q : VK} (h : eqD x y = some b) (r1 : Rp K H W x S1 v1) (r2 : Rp K H W y S2 v2) (q : Q (.bl b) H) : rEqA K v1 v2 H Q := by
  rcases eqD_cases (K := K) h with k | ⟨p, q', hp, hq, s1, s2, e⟩
  · obtain ⟨k1, k2⟩ := k H W S1 S2 v1 v2 r1 r2
    exact .inl ⟨k1, by rw [k2]; exact q⟩
  · exact .inr ⟨p, q', Rp.dp x S1 v1 p r1 hp, Rp.dp y S2 v2 q' r2 hq, s1, s2, by rw [e]; exact q⟩
theorem l_neG {x y : D} {b : Bool} {S1 S2 : AS} {v1 v2 : V} {Q : VK} (h : eqD x y = some b) (r1 : Rp K H W x S1 v1) (r2 : Rp K H W y S2 v2) (q : Q (.bl (!b)) H) : rNeA K v1 v2 H Q := by
  rcases eqD_cases (K := K) h with k | ⟨p, q', hp, hq, s1, s2, e⟩
  · obtain ⟨k1, k2⟩ := k H W S1 S2 v1 v2 r1 r2
    exact .inl ⟨k1, by rw [k2]; exact q⟩
  · exact .inr ⟨p, q', Rp.dp x S1 v1 p r1 hp, Rp.dp y S2 v2 q' r2 hq, s1, s2, by rw [e]; exact q⟩
theorem l_eq : OpP K (rEqA K) pEq := fun H W S d1 d2 v1 v2 d Q r1 r2 hg q => by
  obtain ⟨b, h, e⟩ := Option.map_eq_some_iff.mp hg
  subst e
  exact l_eqG h r1 r2 (q _ rfl)
theorem l_ne : OpP K (rNeA K) pNe := fun H W S d1 d2 v1 v2 d Q r1 r2 hg q => by
  obtain ⟨b, h, e⟩ := Option.map_eq_some_iff.mp hg
  subst e
  exact l_neG h r1 r2 (q _ rfl)
theorem l_eqA : OpA K (rEqA K) pEq := fun H W S1 S2 d1 d2 v1 v2 d Q trk r1 r2 hg n => by
  obtain ⟨b, h, e⟩ := Option.map_eq_some_iff.mp hg
  subst e
  exact l_eqG h r1 r2 (n.val rfl)
theorem l_neA : OpA K (rNeA K) pNe := fun H W S1 S2 d1 d2 v1 v2 d Q trk r1 r2 hg n => by
  obtain ⟨b, h, e⟩ := Option.map_eq_some_iff.mp hg
  subst e
  exact l_neG h r1 r2 (n.val rfl)
end
end DL

namespace DL
open PySem L2 PyProof.Rows
section
variable {X : Cx} {K : PySem.W.Frag} {G : Cfg} {H H' : Hp} {W S S1 S2 : AS} {pn : List Nat}
/-! #### x == [], x a place -/
def eqNil (neg : Bool) (fa : PF) : DF := fun e => match fa e with
  | some d => match eqD d (.lst true []) with
    | some b => .ok (.bl (if neg = true then !b else b), e)
    | none => .bad
  | none => .bad
theorem e_nil {neg : Bool} {fa : PF} {r : V → V → Hp → VK → Prop} (hr : ∀ {H : Hp} {W S1 S2 : AS} {x y : D} {b : Bool} {v1 v2 : V} {Q : VK}, eqD x y = some b → Rp G.K H W x S1 v1 → Rp G.K H W y S2 v2 → Q (.bl (if neg = true then !b else b)) H → r v1 v2 H Q) :
    ∀ σ H Q, tD G (eqNil neg fa) σ H Q → tOp r (tP G.K fa) (tLst tNil) σ H Q := fun σ H Q ⟨R, S, e, st, q⟩ => by
  unfold eqNil at q
  cases ha : fa e with
  | none => rw [ha] at q; exact q.elim
  | some d =>
    rw [ha] at q
    dsimp only at q
    cases hb : eqD d (.lst true []) with
    | none => rw [hb] at q; exact q.elim
    | some b =>
      rw [hb] at q
      refine ⟨R, S, e, d, st, ha, fun v1 r1 => ⟨Nat.zero_le _, fun p hp => ?_⟩⟩
      have k : ∀ a o, H a = some o → upd H p (.lst []) a = some o := fun a o h => by rw [upd_ne (ne_of_none h hp)]; exact h
      have st' := st.more k
      have r1' : Rp G.K (upd H p (.lst [])) (fun a => (S a ∨ R a) ∨ a = p) d S v1 := Rp.keep (W := fun a => S a ∨ R a) (U := noS) ⟨fun a o h _ => k a o h, fun _ z => z.elim, fun a z => z.elim .inl fun y => .inr (by rw [y]; exact hp)⟩ d S S v1 (fun _ z => z) (fun _ _ z => z) r1
      refine hr (W := fun a => (S a ∨ R a) ∨ a = p) (S2 := fun a => a = p) hb r1' ⟨p, [], rfl, ⟨upd_same, rfl⟩, rfl⟩ ?_
      refine q _ _ noS S ⟨fun a o h _ => k a o h, fun a z => z.elim (fun y => y.elim) .inl⟩ ⟨fun _ z => z.elim, fun a z => st'.dis a (z.elim (fun y => y.elim) id), fun a z => st'.trk a (z.elim (fun y => y.elim) id), rfl, st'.er.mono (fun a z => z.elim (fun y => y.elim) id) fun _ z => z⟩
theorem e_eqNil {fa : PF} : ∀ σ H Q, tD G (eqNil false fa) σ H Q → tOp (rEqA G.K) (tP G.K fa) (tLst tNil) σ H Q := e_nil fun h r1 r2 q => l_eqG h r1 r2 q
theorem e_neNil {fa : PF} : ∀ σ H Q, tD G (eqNil true fa) σ H Q → tOp (rNeA G.K) (tP G.K fa) (tLst tNil) σ H Q := e_nil fun h r1 r2 q => l_neG h r1 r2 q

/-! #### is None -/
def isNon : D → Bool
  | .non => true
  | _ => false
def pIsN : D → D → Option D := fun x y => match y with
  | .non => some (.bl (isNon x))
  | _ => none
def pNotN : D → D → Option D := fun x y => match y with
  | .non => some (.bl (!isNon x))
  | _ => none
theorem isN_V {d : D} {v : V} (r : Rp K H W d S v) : decide (v = .non) = isNon d := by
  cases d with
  | non => have h : v = V.non := r; subst h; rfl
  | bl b => have h : v = V.bl b := r; subst h; simp [isNon]
  | int i => have h : v = V.int i := r; subst h; simp [isNon]
  | str x => have h : v = V.str (Sx x) := r; subst h; simp [isNon]
  | tup ds => obtain ⟨a, _, h, _⟩ := r; subst h; simp [isNon]
  | lst o ds => obtain ⟨a, _, h, _⟩ := r; subst h; simp [isNon]
  | dic o ks ds => obtain ⟨a, _, h, _⟩ := r; subst h; simp [isNon]
  | scr ns => obtain ⟨a, h, _⟩ := r; subst h; simp [isNon]
  | otu ds => obtain ⟨a, _, h, _⟩ := r; subst h; simp [isNon]
theorem l_isN : OpP K (fun x y H Q => y = .non ∧ Q (.bl (decide (x = .non))) H) pIsN := fun H W S d1 d2 v1 v2 d Q r1 r2 hg q => by
  unfold pIsN at hg
  split at hg
  · cases hg
    exact ⟨r2, by rw [isN_V r1]; exact q _ rfl⟩
  · cases hg
theorem l_notN : OpP K (fun x y H Q => y = .non ∧ Q (.bl (!decide (x = .non))) H) pNotN := fun H W S d1 d2 v1 v2 d Q r1 r2 hg q => by
  unfold pNotN at hg
  split at hg
  · cases hg
    exact ⟨r2, by rw [isN_V r1]; exact q _ rfl⟩
  · cases hg

/-! #### in -/
/-- flat items, each equal to x or not -/
def inD : D → List D → Option Bool
  | _, [] => some false
  | x, d :: ds => match cV x, cV d with
    | some v, some u => (inD x ds).map fun b => eqV u v || b
    | _, _ => none
def pIn (x y : D) : Option D := match x, y with
  | .str [c], .str z => some (.bl (decide (c ∈ z)))
  | .str k, .dic _ ks _ => some (.bl (decide (k ∈ ks)))
  | x, .lst _ ds => if (cV x).isSome = true then (inD x ds).map .bl else none
  | x, .tup ds => if (cV x).isSome = true then (inD x ds).map .bl else none
  | _, _ => none
def pNotIn (x y : D) : Option D := (pIn x y).bind fun d => match d with
  | .bl b => some (.bl (!b))
  | _ => none
theorem cV_flat {d : D} {v : V} (h : cV d = some v) : flatV v = true := by
  cases d <;> simp [cV] at h <;> subst h <;> rfl
theorem Rp.cV {d : D} {v u : V} (r : Rp K H W d S v) (h : cV d = some u) : v = u := by
  cases d <;> simp [DL.cV] at h <;> subst h <;> exact r
theorem inD_V {x : D} {v : V} (hx : cV x = some v) : ∀ {ds : List D} {S : AS} {vs : List V} {b : Bool}, Rps K H W ds S vs → inD x ds = some b → vs.all flatV = true ∧ inV v vs = b
  | [], _, vs, b, r, h => by
    have r' : vs = [] := r
    subst r'
    simp only [inD, Option.some.injEq] at h
    subst h
    exact ⟨rfl, rfl⟩
  | d :: ds, S, _, b, r, h => by
    obtain ⟨v0, vr, T1, T2, e, t1, t2, t3, t4, t5⟩ := r
    subst e
    unfold inD at h
    rw [hx] at h
    cases hd : cV d with
    | none => rw [hd] at h; cases h
    | some u =>
      rw [hd] at h
      obtain ⟨b', h1, h2⟩ := Option.map_eq_some_iff.mp h
      have hv := t4.cV hd
      subst hv h2
      obtain ⟨k1, k2⟩ := inD_V hx t5 h1
      refine ⟨by rw [List.all_cons, cV_flat hd, k1]; rfl, ?_⟩
      unfold inV at k2 ⊢
      rw [List.any_cons, k2]
def rInA (K : PySem.W.Frag) : V → V → Hp → VK → Prop := fun x y H Q => ((∃ (c : Nat) (z : Str), x = .str ⟨#[c]⟩ ∧ y = .str z ∧ Q (.bl (decide (c ∈ z.cps.toList))) H) ∨ rIn K false x y H Q) ∨ (∃ a o, y = .ref a ∧ DGet H a x o ∧ Q (.bl o.isSome) H)
def rNotInA (K : PySem.W.Frag) : V → V → Hp → VK → Prop := fun x y H Q => ((∃ (c : Nat) (z : Str), x = .str ⟨#[c]⟩ ∧ y = .str z ∧ Q (.bl (!decide (c ∈ z.cps.toList))) H) ∨ rIn K true x y H Q) ∨ (∃ a o, y = .ref a ∧ DGet H a x o ∧ Q (.bl (!o.isSome)) H)
theorem op_din (hu : X.A.units + 1 < cLine) : OpR X (compareOp .In) (fun x y H Q => ∃ a o, y = .ref a ∧ DGet H a x o ∧ Q (.bl o.isSome) H) := by
  intro pins s σ H x y v u Q I rx ry ⟨a, o, ey, g, q⟩
  subst ey
  obtain rfl : u = Value.ref a := ry
  exact d_in hu I g rx fun s3 I3 => ⟨.bl o.isSome, H, I3, rfl, q⟩
theorem op_dnotin (hu : X.A.units + 1 < cLine) : OpR X (compareOp .NotIn) (fun x y H Q => ∃ a o, y = .ref a ∧ DGet H a x o ∧ Q (.bl (!o.isSome)) H) := by
  intro pins s σ H x y v u Q I rx ry ⟨a, o, ey, g, q⟩
  subst ey
  obtain rfl : u = Value.ref a := ry
  exact d_notIn hu I g rx fun s3 I3 => ⟨.bl (!o.isSome), H, I3, rfl, q⟩
theorem o_in (hu : X.A.units + 1 < cLine) : OpR X (compareOp .In) (rInA X.K) := OpR.or (OpR.or op_in_sign op_in_seq) (op_din hu)
theorem o_notIn (hu : X.A.units + 1 < cLine) : OpR X (compareOp .NotIn) (rNotInA X.K) := OpR.or (OpR.or op_notIn_sign op_notIn_seq) (op_dnotin hu)
theorem valV_keys {kvs : List (Key × V)} {ks : List (List Nat)} (h : kvs.map (·.1) = ks.map kx) (k : List Nat) : (valV kvs (kx k)).isSome = decide (k ∈ ks) := by
  rw [← valV_any]
  induction kvs generalizing ks with
  | nil =>
    cases ks with
    | nil => rfl
    | cons _ _ => cases h
  | cons p r ih =>
    cases ks with
    | nil => cases h
    | cons k0 ks =>
      rw [List.map_cons, List.map_cons, List.cons.injEq] at h
      rw [List.any_cons, ih h.2]
      have e : decide (p.1 = kx k) = decide (k = k0) := decide_V (by rw [h.1]; exact ⟨fun z => (Sx_inj (Sum.inr.inj z)).symm, fun z => by rw [z]⟩)
      rw [e]
      by_cases h1 : k = k0
      · simp [h1]
      · simp [h1]
theorem in_core {x y : D} {d : D} (hg : pIn x y = some d) {v1 v2 : V} (r1 : Rp K H W x S1 v1) (r2 : Rp K H W y S2 v2) : ∃ b, d = .bl b ∧
    ((∃ (c : Nat) (z : Str), v1 = .str ⟨#[c]⟩ ∧ v2 = .str z ∧ decide (c ∈ z.cps.toList) = b) ∨ (∃ p xs, v2 = .ref p ∧ (SqL K H p xs ∨ SqT K H p xs) ∧ flatV v1 = true ∧ xs.all flatV = true ∧ inV v1 xs = b) ∨ ∃ a o, v2 = .ref a ∧ DGet H a v1 o ∧ o.isSome = b) := by
  unfold pIn at hg
  split at hg
  · cases hg
    exact ⟨_, rfl, .inl ⟨_, _, r1, r2, rfl⟩⟩
  · rename_i k o ks ds
    cases hg
    obtain ⟨a, kvs, e, hd, hk, hn, hr⟩ := r2
    have r1' : v1 = V.str (Sx k) := r1
    refine ⟨_, rfl, .inr (.inr ⟨a, valV kvs (kx k), e, .inl ⟨kvs, kx k, hd.rd, r1', rfl⟩, valV_keys hk k⟩)⟩
  · split at hg
    · rename_i hc
      obtain ⟨v, hv⟩ := Option.isSome_iff_exists.mp hc
      obtain ⟨b, h1, h2⟩ := Option.map_eq_some_iff.mp hg
      subst h2
      obtain ⟨a, vs, e, ha, hr⟩ := r2
      have e1 := r1.cV hv
      subst e1
      obtain ⟨k1, k2⟩ := inD_V hv hr h1
      exact ⟨b, rfl, .inr (.inl ⟨a, vs, e, .inl ha.sq, cV_flat hv, k1, k2⟩)⟩
    · cases hg
  · split at hg
    · rename_i hc
      obtain ⟨v, hv⟩ := Option.isSome_iff_exists.mp hc
      obtain ⟨b, h1, h2⟩ := Option.map_eq_some_iff.mp hg
      subst h2
      obtain ⟨a, vs, e, ha, hr⟩ := r2
      have e1 := r1.cV hv
      subst e1
      obtain ⟨k1, k2⟩ := inD_V hv hr h1
      exact ⟨b, rfl, .inr (.inl ⟨a, vs, e, .inr ha.sq, cV_flat hv, k1, k2⟩)⟩
    · cases hg
  · cases hg
theorem l_inG {x y d : D} {S1 S2 : AS} {v1 v2 : V} {Q : VK} (hg : pIn x y = some d) (r1 : Rp K H W x S1 v1) (r2 : Rp K H W y S2 v2) (q : ∀ b, d = .bl b → Q (.bl b) H) : rInA K v1 v2 H Q := by
  obtain ⟨b, e, k⟩ := in_core hg r1 r2
  have q := q b e
  rcases k with ⟨c, z, e1, e2, e3⟩ | ⟨p, xs, e1, h1, h2, h3, e3⟩ | ⟨a, o, e1, h1, e3⟩
  · exact .inl (.inl ⟨c, z, e1, e2, by rw [e3]; exact q⟩)
  · exact .inl (.inr ⟨p, xs, e1, h1, h2, h3, by rw [if_neg Bool.false_ne_true, e3]; exact q⟩)
  · exact .inr ⟨a, o, e1, h1, by rw [e3]; exact q⟩
theorem l_notInG {x y d : D} {S1 S2 : AS} {v1 v2 : V} {Q : VK} (hg : pIn x y = some d) (r1 : Rp K H W x S1 v1) (r2 : Rp K H W y S2 v2) (q : ∀ b, d = .bl b → Q (.bl (!b)) H) : rNotInA K v1 v2 H Q := by
  obtain ⟨b, e, k⟩ := in_core hg r1 r2
  have q := q b e
  rcases k with ⟨c, z, e1, e2, e3⟩ | ⟨p, xs, e1, h1, h2, h3, e3⟩ | ⟨a, o, e1, h1, e3⟩
  · exact .inl (.inl ⟨c, z, e1, e2, by rw [e3]; exact q⟩)
  · exact .inl (.inr ⟨p, xs, e1, h1, h2, h3, by rw [if_pos rfl, e3]; exact q⟩)
  · exact .inr ⟨a, o, e1, h1, by rw [e3]; exact q⟩
theorem l_in : OpP K (rInA K) pIn := fun H W S d1 d2 v1 v2 d Q r1 r2 hg q => l_inG hg r1 r2 fun b e => q _ (by rw [e]; rfl)
theorem l_inA : OpA K (rInA K) pIn := fun H W S1 S2 d1 d2 v1 v2 d Q trk r1 r2 hg n => l_inG hg r1 r2 fun b e => n.val (by rw [e]; rfl)
theorem l_notIn : OpP K (rNotInA K) pNotIn := fun H W S d1 d2 v1 v2 d Q r1 r2 hg q => by
  obtain ⟨d', h1, h2⟩ := Option.bind_eq_some_iff.mp hg
  refine l_notInG h1 r1 r2 fun b e => ?_
  subst e
  cases h2
  exact q _ rfl
theorem l_notInA : OpA K (rNotInA K) pNotIn := fun H W S1 S2 d1 d2 v1 v2 d Q trk r1 r2 hg n => by
  obtain ⟨d', h1, h2⟩ := Option.bind_eq_some_iff.mp hg
  refine l_notInG h1 r1 r2 fun b e => ?_
  subst e
  cases h2
  exact n.val rfl

/-! #### x[i] -/
theorem ix_dict (hu : X.A.units + 1 < cLine) : IxR X (fun x y H Q => ∃ a v, x = .ref a ∧ DGet H a y (some v) ∧ Q v H) := by
  intro value slice pins s σ H x y v u Q I rx ry ⟨a, v0, ex, g, q⟩ hs
  subst ex
  obtain rfl : v = Value.ref a := rx
  exact tail_any (dict_typeIs I g) PySem.F.slot_dict_getitem.lookup (d_getItem hu I g ry fun w' s3 I3 rw' => ⟨v0, H, I3, rw', q⟩) hs
def rIx (K : PySem.W.Frag) : V → V → Hp → VK → Prop := fun x y H Q => ((rIxL K x y H Q ∨ rIxT K x y H Q) ∨ rIxS x y H Q) ∨ (∃ a v, x = .ref a ∧ DGet H a y (some v) ∧ Q v H)
theorem o_ix (hu : X.A.units + 1 < cLine) : IxR X (rIx X.K) := IxR.or (IxR.or (IxR.or ix_list ix_tup) ix_str) (ix_dict hu)
def lookK (k : List Nat) : List (List Nat) → List D → Option D
  | k0 :: ks, d :: ds => if k0 = k then some d else lookK k ks ds
  | _, _ => none
def pIx : D → D → Option D
  | .lst _ ds, .int i => atI ds i
  | .tup ds, .int i => atI ds i
  | .str x, .int i => if x.length ≤ 16777216 then (atI x i).map fun c => .str [c] else none
  | .dic _ ks ds, .str k => lookK k ks ds
  | _, _ => none
theorem Rps.at {ds : List D} {vs : List V} {d : D} {i : Int} (r : Rps K H W ds S vs) (h : atI ds i = some d) : ∃ v, atI vs i = some v ∧ Rp K H W d S v := by
  unfold atI at h ⊢
  rw [r.length]
  obtain ⟨j, h1, h2⟩ := Option.bind_eq_some_iff.mp h
  have q := r.pl
  have : ∀ {ds : List D} {vs : List V} {j : Nat} {d : D}, Rpl K H W S ds vs → ds[j]? = some d → ∃ v, vs[j]? = some v ∧ Rp K H W d S v := by
    intro ds vs j d q
    induction q generalizing j with
    | nil => intro h; simp at h
    | cons r1 t ih =>
      intro h
      cases j with
      | zero => simp at h; subst h; exact ⟨_, rfl, r1⟩
      | succ j => obtain ⟨v, k1, k2⟩ := ih (j := j) (by simpa using h); exact ⟨v, by simpa using k1, k2⟩
  obtain ⟨v, k1, k2⟩ := this q h2
  exact ⟨v, by rw [h1]; exact k1, k2⟩
theorem look_V {k : List Nat} {d : D} : ∀ {ks : List (List Nat)} {ds : List D} {kvs : List (Key × V)} {S : AS}, kvs.map (·.1) = ks.map kx → Rps K H W ds S (kvs.map (·.2)) → lookK k ks ds = some d → ∃ v, valV kvs (kx k) = some v ∧ Rp K H W d S v
  | [], ds, kvs, S, hk, r, h => by cases ds <;> cases h
  | k0 :: ks, [], kvs, S, hk, r, h => by cases h
  | k0 :: ks, d0 :: ds, kvs, S, hk, r, h => by
    cases kvs with
    | nil => cases hk
    | cons p kvs =>
      rw [List.map_cons, List.map_cons, List.cons.injEq] at hk
      obtain ⟨v, vr, T1, T2, e, t1, t2, t3, t4, t5⟩ := r
      rw [List.map_cons, List.cons.injEq] at e
      unfold lookK at h
      split at h
      · rename_i hkk
        cases h
        refine ⟨p.2, valV_pos (by rw [hk.1, hkk]), ?_⟩
        rw [e.1]
        exact t4.mono (fun _ z => z) t1
      · rename_i hkk
        rw [← e.2] at t5
        obtain ⟨v', h1, h2⟩ := look_V hk.2 t5 h
        refine ⟨v', ?_, h2.mono (fun _ z => z) t2⟩
        rw [valV_neg (by rw [hk.1]; exact fun z => hkk (Sx_inj (Sum.inr.inj z)))]
        exact h1
theorem sub_le {o : Bool} {a : Addr} : ∀ b, sub o S a b → S b := sub_sub
theorem l_ix : OpP K (rIx K) pIx := fun H W S d1 d2 v1 v2 d Q r1 r2 hg q => by
  unfold pIx at hg
  split at hg
  · obtain ⟨a, vs, e, ha, hr⟩ := r1
    obtain ⟨v, h1, h2⟩ := hr.at hg
    exact .inl (.inl (.inl ⟨a, vs, _, v, e, r2, ha.sq, h1, q v (h2.mono (fun _ z => z) sub_sub)⟩))
  · obtain ⟨a, vs, e, ha, hr⟩ := r1
    obtain ⟨v, h1, h2⟩ := hr.at hg
    exact .inl (.inl (.inr ⟨a, vs, _, v, e, r2, ha.sq, h1, q v (h2.mono (fun _ z => z) fun _ z => z.elim)⟩))
  · rename_i x i
    split at hg
    · rename_i hl
      obtain ⟨c, h1, h2⟩ := Option.map_eq_some_iff.mp hg
      subst h2
      exact .inl (.inr ⟨Sx x, i, c, r1, r2, by rw [Sx_len, sizeLine_eq]; exact hl, h1, q _ rfl⟩)
    · cases hg
  · rename_i o ks ds k
    obtain ⟨a, kvs, e, hd, hk, hn, hr⟩ := r1
    obtain ⟨v, h1, h2⟩ := look_V hk hr hg
    exact .inr ⟨a, v, e, .inl ⟨kvs, kx k, hd.rd, r2, h1.symm⟩, q v (h2.mono (fun _ z => z) sub_sub)⟩
  · cases hg
/-- .. of a value: what comes out must not be own -/
def dIx (x y : D) : Option D := (pIx x y).bind fun d => if isFrz d = true then some d else none
theorem l_ixA : OpA K (rIx K) dIx := fun H W S1 S2 d1 d2 v1 v2 d Q trk r1 r2 hg n => by
  obtain ⟨d', h1, h2⟩ := Option.bind_eq_some_iff.mp hg
  split at h2
  · rename_i hz
    cases h2
    exact l_ix H W (fun a => S1 a ∨ S2 a) d1 d2 v1 v2 _ Q (r1.mono (fun _ z => z) fun _ z => .inl z) (r2.mono (fun _ z => z) fun _ z => .inr z) h1 fun v rv => n.val (Rp.nown _ _ v hz rv)
  · cases h2

/-! #### slices -/
abbrev POf := Env → Option (Option Int)
def tOp1 (K : PySem.W.Frag) (f : POf) : TO := fun σ H Q => ∃ R S e o, Sta K H R S e σ ∧ f e = some o ∧ Q o H
def oNone : POf := fun _ => some none
def oSome (f : PF) : POf := fun e => match f e with | some (.int i) => some (some i) | _ => none
theorem po_n : PO X none (tOp1 K oNone) := ⟨fun pins s σ H Q I ⟨R, S, e, o, st, hf, q⟩ => by
  obtain rfl : none = o := Option.some.inj hf
  exact po_none.run pins s σ H Q I q⟩
theorem po_s {ex : Expr} {f : PF} (h : PE X ex (tP K f)) : PO X (some ex) (tOp1 K (oSome f)) := ⟨fun pins s σ H Q I ⟨R, S, e, o, st, hf, q⟩ => by
  unfold oSome at hf
  split at hf
  · rename_i i hi
    cases hf
    exact (po_some h).run pins s σ H Q I ⟨R, S, e, _, st, hi, fun v rv => ⟨i, rv, q⟩⟩
  · cases hf⟩
def cutL {α : Type} (xs : List α) (lo hi : Option Int) : List α := (xs.drop (HT.sIx xs.length 0 lo)).take (HT.sIx xs.length xs.length hi - HT.sIx xs.length 0 lo)
def rSl (K : PySem.W.Frag) : V → Option Int → Option Int → Hp → VK → Prop := fun x lo hi H Q => (rSlL K x lo hi H Q ∨ rSlT K x lo hi H Q) ∨ rSlS x lo hi H Q
theorem o_sl : SlR X (rSl X.K) := SlR.or (SlR.or sl_list sl_tup) sl_str
def pSlS : D → Option Int → Option Int → Option D
  | .str x, lo, hi => if x.length ≤ 16777216 then some (.str (cutL x lo hi)) else none
  | _, _, _ => none
theorem pSlS_some {d d2 : D} {lo hi : Option Int} (h : pSlS d lo hi = some d2) : ∃ x, d = .str x ∧ x.length ≤ 16777216 ∧ d2 = .str (cutL x lo hi) := by
  cases d <;> simp [pSlS] at h
  exact ⟨_, rfl, h.1, h.2.symm⟩
def dSl : D → Option Int → Option Int → Option D
  | .lst _ ds, lo, hi => if allFrz ds = true then some (.lst true (cutL ds lo hi)) else none
  | .scr ns, lo, hi => some (.lst true ((cutL ns lo hi).map .int))
  | .tup ds, lo, hi => if ¬ (HT.sIx ds.length 0 lo = 0 ∧ HT.sIx ds.length ds.length hi = ds.length) then some (.tup (cutL ds lo hi)) else none
  | d, lo, hi => pSlS d lo hi
def psl (fa : PF) (fl fh : POf) : PF := fun e => (fa e).bind fun d => (fl e).bind fun lo => (fh e).bind fun hi => pSlS d lo hi
theorem p_sl {fa : PF} {fl fh : POf} : ∀ σ H Q, tP K (psl fa fl fh) σ H Q → tSl (rSl K) (tP K fa) (tOp1 K fl) (tOp1 K fh) σ H Q := fun σ H Q ⟨R, S, e, d, st, hf, q⟩ => by
  unfold psl at hf
  obtain ⟨x, h1, hf⟩ := Option.bind_eq_some_iff.mp hf
  obtain ⟨lo, h2, hf⟩ := Option.bind_eq_some_iff.mp hf
  obtain ⟨hi, h3, hf⟩ := Option.bind_eq_some_iff.mp hf
  refine ⟨R, S, e, x, st, h1, fun v rv => ⟨R, S, e, lo, st, h2, R, S, e, hi, st, h3, ?_⟩⟩
  obtain ⟨z, ez, hl, e2⟩ := pSlS_some hf
  subst ez e2
  refine .inr ⟨Sx z, rv, by rw [Sx_len, sizeLine_eq]; exact hl, ?_⟩
  have e1 : cutS (Sx z) lo hi = Sx (cutL z lo hi) := by
    unfold cutS cutL
    rw [Sx_len]
  rw [e1]
  exact q _ rfl
def dsl (fa : DF) (fl fh : POf) : DF := fun e => (fa e).bind fun (d, e1) => match fl e1, fh e1 with
  | some lo, some hi => ofO (dSl d lo hi) e1
  | _, _ => .bad
theorem cut_Rps {ds : List D} {vs : List V} {lo hi : Option Int} (r : Rps K H W ds noS vs) : Rps K H W (cutL ds lo hi) noS (cutV vs lo hi) := by
  unfold cutL cutV
  rw [r.length]
  exact (r.drop _).take _
theorem d_sl {fa : DF} {fl fh : POf} : ∀ σ H Q, tD G (dsl fa fl fh) σ H Q → tSl (rSl G.K) (tD G fa) (tOp1 G.K fl) (tOp1 G.K fh) σ H Q := fun σ H Q ⟨R, S, e, st, q⟩ => by
  refine ⟨R, S, e, st, ?_⟩
  unfold dsl at q
  cases ha : fa e with
  | bad => rw [ha] at q; exact q.elim
  | err x e1 => rw [ha] at q; exact q
  | ok p =>
    obtain ⟨d, e1⟩ := p
    rw [ha] at q
    intro v H1 S1 S2 f1 n1
    dsimp only [Res.bind] at q
    cases hlo : fl e1 with
    | none => rw [hlo] at q; exact q.elim
    | some lo =>
      cases hhi : fh e1 with
      | none => rw [hlo, hhi] at q; exact q.elim
      | some hi =>
        rw [hlo, hhi] at q
        dsimp only at q
        have st2 := n1.drop
        refine ⟨R, S2, e1, lo, st2, hlo, R, S2, e1, hi, st2, hhi, ?_⟩
        have rp := n1.rp
        have trk : ∀ a, (S2 a ∨ R a) → H1 a ≠ none := fun a z => st2.trk a z
        have wk : ∀ a, (S2 a ∨ R a) → S1 a ∨ S2 a ∨ R a := fun a z => .inr z
        cases hg : dSl d lo hi with
        | none => rw [hg] at q; exact q.elim
        | some d2 =>
          rw [hg] at q
          have nw : New G.K H1 (fun a => S2 a ∨ R a) d2 Q := New.ens (S3 := noS) (S1 := noS) (fun v H' S5 f5 n5 => q v H' S5 S2 ((f1.less (T := S2) fun a z => .inr z).trans f5) n5) st2
          unfold dSl at hg
          split at hg
          · rename_i o ds
            split at hg
            · rename_i hz
              cases hg
              obtain ⟨a, vs, rfl, hh, hr⟩ := rp
              refine .inl (.inl ⟨a, vs, rfl, hh.sq, fun p hp => ?_⟩)
              exact nw.lst (cut_Rps ((Rps.nown ds _ vs hz hr).mono wk fun _ z => z)) hp
            · cases hg
          · rename_i ns
            cases hg
            obtain ⟨a, rfl, h1⟩ := rp
            refine .inl (.inl ⟨a, ns.map V.int, rfl, h1.imp (fun z => z.1) id, fun p hp => ?_⟩)
            have e2 : cutV (ns.map V.int) lo hi = (cutL ns lo hi).map V.int := by
              unfold cutV cutL
              rw [List.length_map, List.map_take, List.map_drop]
            rw [e2]
            exact nw.lst (Rps.of_ints _) hp
          · rename_i ds
            split at hg
            · rename_i hc
              cases hg
              obtain ⟨a, vs, rfl, hh, hr⟩ := rp
              refine .inl (.inr ⟨a, vs, rfl, hh.sq, by rw [hr.length]; exact hc, fun p hp => ?_⟩)
              exact nw.tup trk (cut_Rps (hr.mono wk fun _ z => z)) hp
            · cases hg
          · obtain ⟨z, ez, hl, e2⟩ := pSlS_some hg
            subst ez e2
            refine .inr ⟨Sx z, rp, by rw [Sx_len, sizeLine_eq]; exact hl, ?_⟩
            have e1 : cutS (Sx z) lo hi = Sx (cutL z lo hi) := by
              unfold cutS cutL
              rw [Sx_len]
            rw [e1]
            exact nw.val rfl
/-- xs[::-1] -/
def drev (fa : DF) : DF := fun e => (fa e).bind fun (d, e1) => match d with
  | .lst _ ds => if allFrz ds = true then .ok (.lst true ds.reverse, e1) else .bad
  | _ => .bad
theorem d_rev {fa : DF} : ∀ σ H Q, tD G (drev fa) σ H Q → tRevL G.K (tD G fa) σ H Q := fun σ H Q ⟨R, S, e, st, q⟩ => by
  refine ⟨R, S, e, st, ?_⟩
  unfold drev at q
  cases ha : fa e with
  | bad => rw [ha] at q; exact q.elim
  | err x e1 => rw [ha] at q; exact q
  | ok p =>
    obtain ⟨d, e1⟩ := p
    rw [ha] at q
    intro v H1 S1 S2 f1 n1
    dsimp only [Res.bind] at q
    split at q
    · rename_i o ds
      split at q
      · rename_i hz
        have st2 := n1.drop
        have nw : New G.K H1 (fun a => S2 a ∨ R a) (.lst true ds.reverse) Q := New.ens (S3 := noS) (S1 := noS) (fun v H' S5 f5 n5 => q v H' S5 S2 ((f1.less (T := S2) fun a z => .inr z).trans f5) n5) st2
        obtain ⟨a, vs, rfl, hh, hr⟩ := n1.rp
        exact ⟨a, vs, rfl, hh.sq, fun p hp => nw.lst ((Rps.nown ds _ vs hz hr).mono (fun a z => .inr z) fun _ z => z).reverse hp⟩
      · exact q.elim
    · exact q.elim
end
end DL

namespace DL
open PySem L2 PyProof.Rows
section
variable {X : Cx} {K : PySem.W.Frag} {G : Cfg} {H H' : Hp} {W S S1 S2 : AS} {pn : List Nat}
/-! ### builtins -/
def bigT : Nat := 16777216
def bLen : List D → Option D
  | [.str x] => if x.length ≤ 16777216 then some (.int x.length) else none
  | [.lst _ ds] => some (.int ds.length)
  | [.tup ds] => some (.int ds.length)
  | [.scr ns] => some (.int ns.length)
  | [.dic _ ks _] => some (.int ks.length)
  | _ => none
def rLen (K : PySem.W.Frag) : List V → Hp → VK → Prop := fun xs H Q => (∃ x n, xs = [x] ∧ LenV K x H n ∧ Q (.int n) H) ∨ ∃ d kvs, xs = [.ref d] ∧ Rd H d (.dK kvs) ∧ Q (.int kvs.length) H
theorem CallR.or {f : Value} {r r' : List V → Hp → VK → Prop} (h : CallR X f r) (h' : CallR X f r') : CallR X f (fun xs H Q => r xs H Q ∨ r' xs H Q) := fun pins s σ H xs us Q I rv q =>
  q.elim (h pins s σ H xs us Q I rv) (h' pins s σ H xs us Q I rv)
theorem pl1 {d : D} {vs : List V} (r : Rpl K H W S [d] vs) : ∃ v, vs = [v] ∧ Rp K H W d S v := by
  cases r with
  | cons r t => cases t; exact ⟨_, rfl, r⟩
theorem pl2 {d d' : D} {vs : List V} (r : Rpl K H W S [d, d'] vs) : ∃ v v', vs = [v, v'] ∧ Rp K H W d S v ∧ Rp K H W d' S v' := by
  cases r with
  | cons r t =>
    obtain ⟨v', rfl, r'⟩ := pl1 t
    exact ⟨_, _, rfl, r, r'⟩
theorem kvs_len {kvs : List (Key × V)} {ks : List (List Nat)} (h : kvs.map (·.1) = ks.map kx) : kvs.length = ks.length := by
  have := congrArg List.length h
  rwa [List.length_map, List.length_map] at this
theorem l_len : ArP K (rLen K) bLen := fun H W S ds vs d Q r hg q => by
  unfold bLen at hg
  split at hg
  · rename_i x
    split at hg
    · rename_i hl
      cases hg
      obtain ⟨v, rfl, rv⟩ := pl1 r
      have rv' : v = V.str (Sx x) := rv
      subst rv'
      exact .inl ⟨_, x.length, rfl, ⟨by rw [Sx_len, sizeLine_eq]; exact hl, (Sx_len x).symm⟩, q _ rfl⟩
    · cases hg
  · cases hg
    obtain ⟨v, rfl, a, us, rfl, ha, hr⟩ := pl1 r
    exact .inl ⟨_, us.length, rfl, .inl ⟨us, ha.sq, rfl⟩, by rw [hr.length]; exact q _ rfl⟩
  · cases hg
    obtain ⟨v, rfl, a, us, rfl, ha, hr⟩ := pl1 r
    exact .inl ⟨_, us.length, rfl, .inr ⟨us, ha.sq, rfl⟩, by rw [hr.length]; exact q _ rfl⟩
  · rename_i ns
    cases hg
    obtain ⟨v, rfl, a, rfl, ha⟩ := pl1 r
    exact .inl ⟨_, (ns.map V.int).length, rfl, .inl ⟨_, ha.imp (fun z => z.1) id, rfl⟩, by rw [List.length_map]; exact q _ rfl⟩
  · cases hg
    obtain ⟨v, rfl, a, kvs, rfl, ha, hk, hn, hr⟩ := pl1 r
    exact .inr ⟨a, kvs, rfl, ha.rd, by rw [kvs_len hk]; exact q _ rfl⟩
  · cases hg
def bMax2 : List D → Option D
  | [.int i, .int j] => some (.int (if j > i then j else i))
  | _ => none
theorem l_max2 : ArP K (fun xs H Q => ∃ i j, xs = [.int i, .int j] ∧ Q (.int (if j > i then j else i)) H) bMax2 := fun H W S ds vs d Q r hg q => by
  unfold bMax2 at hg
  split at hg
  · cases hg
    obtain ⟨v, v', rfl, r1, r2⟩ := pl2 r
    have e1 : v = V.int _ := r1
    have e2 : v' = V.int _ := r2
    subst e1 e2
    exact ⟨_, _, rfl, q _ rfl⟩
  · cases hg
def bMin2 : List D → Option D
  | [.int i, .int j] => some (.int (if j < i then j else i))
  | _ => none
theorem l_min2 : ArP K (fun xs H Q => ∃ i j, xs = [.int i, .int j] ∧ Q (.int (if j < i then j else i)) H) bMin2 := fun H W S ds vs d Q r hg q => by
  unfold bMin2 at hg
  split at hg
  · cases hg
    obtain ⟨v, v', rfl, r1, r2⟩ := pl2 r
    have e1 : v = V.int _ := r1
    have e2 : v' = V.int _ := r2
    subst e1 e2
    exact ⟨_, _, rfl, q _ rfl⟩
  · cases hg
def bAbs : List D → Option D
  | [.int i] => some (.int (if i < 0 then -i else i))
  | _ => none
theorem l_abs : ArP K (fun xs H Q => ∃ i, xs = [.int i] ∧ Q (.int (if i < 0 then -i else i)) H) bAbs := fun H W S ds vs d Q r hg q => by
  unfold bAbs at hg
  split at hg
  · cases hg
    obtain ⟨v, rfl, r1⟩ := pl1 r
    have e1 : v = V.int _ := r1
    subst e1
    exact ⟨_, rfl, q _ rfl⟩
  · cases hg
/-- lists of ints, truths, texts -/
def intsOf : List D → Option (List Int)
  | [] => some []
  | .int i :: ds => (intsOf ds).map fun l => i :: l
  | _ => none
theorem intsOf_map : ∀ {ds : List D} {ns : List Int}, intsOf ds = some ns → ds = ns.map .int
  | [], ns, h => by cases h; rfl
  | d :: ds, ns, h => by
    cases d <;> simp [intsOf] at h
    obtain ⟨l, h1, h2⟩ := h
    subst h2
    rw [intsOf_map h1]; rfl
def blsOf : List D → Option (List Bool)
  | [] => some []
  | .bl i :: ds => (blsOf ds).map fun l => i :: l
  | _ => none
theorem blsOf_map : ∀ {ds : List D} {ns : List Bool}, blsOf ds = some ns → ds = ns.map .bl
  | [], ns, h => by cases h; rfl
  | d :: ds, ns, h => by
    cases d <;> simp [blsOf] at h
    obtain ⟨l, h1, h2⟩ := h
    subst h2
    rw [blsOf_map h1]; rfl
def strsOf : List D → Option (List (List Nat))
  | [] => some []
  | .str i :: ds => (strsOf ds).map fun l => i :: l
  | _ => none
theorem strsOf_map : ∀ {ds : List D} {ns : List (List Nat)}, strsOf ds = some ns → ds = ns.map .str
  | [], ns, h => by cases h; rfl
  | d :: ds, ns, h => by
    cases d <;> simp [strsOf] at h
    obtain ⟨l, h1, h2⟩ := h
    subst h2
    rw [strsOf_map h1]; rfl
theorem intsOf_of (ns : List Int) : intsOf (ns.map .int) = some ns := by
  induction ns with
  | nil => rfl
  | cons n ns ih => rw [List.map_cons, intsOf, ih]; rfl
theorem blsOf_of (ns : List Bool) : blsOf (ns.map .bl) = some ns := by
  induction ns with
  | nil => rfl
  | cons n ns ih => rw [List.map_cons, blsOf, ih]; rfl
theorem strsOf_of (ns : List (List Nat)) : strsOf (ns.map .str) = some ns := by
  induction ns with
  | nil => rfl
  | cons n ns ih => rw [List.map_cons, strsOf, ih]; rfl
def bSum : List D → Option D
  | [.lst _ ds] => (intsOf ds).map fun ns => .int ns.sum
  | _ => none
theorem l_sum : ArP K (rSum K) bSum := fun H W S ds vs d Q r hg q => by
  unfold bSum at hg
  split at hg
  · obtain ⟨ns, h1, h2⟩ := Option.map_eq_some_iff.mp hg
    subst h2
    obtain ⟨v, rfl, a, us, rfl, ha, hr⟩ := pl1 r
    rw [intsOf_map h1] at hr
    rw [hr.ints] at ha
    exact ⟨a, ns, rfl, ha.sq, q _ rfl⟩
  · cases hg
def bAll : List D → Option D
  | [.lst _ ds] => (blsOf ds).map fun ns => .bl (ns.all id)
  | _ => none
theorem l_all : ArP K (rAll K) bAll := fun H W S ds vs d Q r hg q => by
  unfold bAll at hg
  split at hg
  · obtain ⟨ns, h1, h2⟩ := Option.map_eq_some_iff.mp hg
    subst h2
    obtain ⟨v, rfl, a, us, rfl, ha, hr⟩ := pl1 r
    rw [blsOf_map h1] at hr
    rw [hr.bls] at ha
    exact ⟨a, ns, rfl, ha.sq, q _ rfl⟩
  · cases hg
def bInt : List D → Option D
  | [.int i] => some (.int i)
  | [.bl b] => some (.int (if b then 1 else 0))
  | [.str x] => if x.length ≤ 640 then (PySem.intText? (Sx x)).map .int else none
  | _ => none
theorem l_int : ArP K (fun xs H Q => ((∃ i, xs = [.int i] ∧ Q (.int i) H) ∨ ∃ k, xs = [.bl k] ∧ Q (.int (if k then 1 else 0)) H) ∨ ∃ a n, xs = [.str a] ∧ PySem.intText? a = some n ∧ a.length ≤ 640 ∧ Q (.int n) H) bInt := fun H W S ds vs d Q r hg q => by
  unfold bInt at hg
  split at hg
  · cases hg
    obtain ⟨v, rfl, r1⟩ := pl1 r
    have e1 : v = V.int _ := r1
    subst e1
    exact .inl (.inl ⟨_, rfl, q _ rfl⟩)
  · cases hg
    obtain ⟨v, rfl, r1⟩ := pl1 r
    have e1 : v = V.bl _ := r1
    subst e1
    exact .inl (.inr ⟨_, rfl, q _ rfl⟩)
  · rename_i x
    split at hg
    · rename_i hl
      obtain ⟨n, h1, h2⟩ := Option.map_eq_some_iff.mp hg
      subst h2
      obtain ⟨v, rfl, r1⟩ := pl1 r
      have e1 : v = V.str _ := r1
      subst e1
      exact .inr ⟨_, n, rfl, h1, by rw [Sx_len]; exact hl, q _ rfl⟩
    · cases hg
  · cases hg
def showI (i : Int) : List Nat := (toString i : Str).cps.toList
def bStr : List D → Option D
  | [.int i] => if i.natAbs.log2 < 1920 then some (.str (showI i)) else none
  | [.str x] => some (.str x)
  | _ => none
theorem l_str : ArP K (fun xs H Q => (∃ i, xs = [.int i] ∧ i.natAbs.log2 < 1920 ∧ Q (.str (toString i)) H) ∨ ∃ a, xs = [.str a] ∧ Q (.str a) H) bStr := fun H W S ds vs d Q r hg q => by
  unfold bStr at hg
  split at hg
  · rename_i i
    split at hg
    · rename_i hl
      cases hg
      obtain ⟨v, rfl, r1⟩ := pl1 r
      have e1 : v = V.int _ := r1
      subst e1
      refine .inl ⟨_, rfl, hl, q _ ?_⟩
      show V.str _ = V.str (Sx (showI i))
      unfold showI
      rw [Sx_tl]
    · cases hg
  · cases hg
    obtain ⟨v, rfl, r1⟩ := pl1 r
    have e1 : v = V.str _ := r1
    subst e1
    exact .inr ⟨_, rfl, q _ rfl⟩
  · cases hg
/-- list(x) -/
def bList : List D → Option D
  | [.lst _ ds] => if allFrz ds = true then some (.lst true ds) else none
  | [.tup ds] => if allFrz ds = true then some (.lst true ds) else none
  | [.dic _ ks _] => some (.lst true (ks.map .str))
  | [.scr ns] => some (.lst true (ns.map .int))
  | _ => none
def rListA (K : PySem.W.Frag) : List V → Hp → VK → Prop := fun xs H Q => (∃ p ys, xs = [.ref p] ∧ (SqL K H p ys ∨ SqT K H p ys) ∧ ∀ l, H l = none → Q (.ref l) (upd H l (.lst ys))) ∨
  ∃ p kvs, xs = [.ref p] ∧ Rd H p (.dK kvs) ∧ ∀ q, H q = none → Q (.ref q) (upd H q (.lst (kvs.map fun kv => kV kv.1)))
theorem call_list_rd (hc : X.calm = true) : CallR X (.type "list") (fun xs H Q => ∃ p kvs, xs = [.ref p] ∧ Rd H p (.dK kvs) ∧ ∀ q, H q = none → Q (.ref q) (upd H q (.lst (kvs.map fun kv => kV kv.1)))) :=
  fun pins s σ H xs us Q I r ⟨p, kvs, e, hk, q⟩ => by
    subst e
    obtain ⟨u, eu, rx⟩ := vals1 r
    have ru : u = Value.ref p := rx
    subst eu ru
    obtain ⟨z, lo, vs, rk, hd⟩ := dk_rd I.hok hk
    have hl : kvs.length = vs.length := rk.length
    obtain ⟨ep, hat⟩ := hd.dictAt
    have hz : vs.length ≤ sizeLine := hl ▸ z
    refine PySem.W.kdl_call (PySem.W.kdl_dict (knd := mixKind X.prog X.w) (kvs := vs) (ep := ep) lo) (I.ok.hd hc) hat hz fun h' tk acc' c' hkeep hS hacc => ?_
    have hv : Vals (kvs.map fun kv => kV kv.1) acc'.toList := by
      refine vals_of_at ?_ ?_
      · rw [List.length_map, hl, Array.length_toList]
        exact hacc.1.symm
      · intro j x w h1 h2
        rw [Array.getElem?_toList] at h2
        obtain ⟨k, y, hky, hi⟩ := hacc.2 j w h2
        rw [List.getElem?_map] at h1
        obtain ⟨kv, h3, h4⟩ := Option.map_eq_some_iff.mp h1
        have h5 : (kvs.map (·.1))[j]? = some kv.1 := by rw [List.getElem?_map, h3]; rfl
        rw [KV.keys rk, List.getElem?_map, hky] at h5
        have h6 : k = kv.1 := Option.some.inj h5
        subst h4
        rw [← h6]
        exact keyIs_rel hi
    have ob : ObjOk X.prog X.w (upd H s.heap.objs.size (.lst (kvs.map fun kv => kV kv.1))) h' s.heap.objs.size (.lst (kvs.map fun kv => kV kv.1)) := ⟨by rw [List.length_map]; exact z, acc'.toList, c', hv, by rw [Array.toArray_toList]; exact hS⟩
    exact ⟨V.ref s.heap.objs.size, _, I.laid hkeep (Nat.le_refl _) ob, rfl, q _ (I.hok.fresh (Nat.le_refl _))⟩
theorem o_list (hc : X.calm = true) : CallR X (.type "list") (rListA X.K) := CallR.or call_list_of (call_list_rd hc)
theorem l_list : ArA K (rListA K) bList := fun H W S ds vs d Q trk r hg n => by
  unfold bList at hg
  split at hg
  · split at hg
    · rename_i hz
      cases hg
      obtain ⟨v, rfl, a, us, rfl, ha, hr⟩ := pl1 r
      exact .inl ⟨a, us, rfl, .inl ha.sq, fun l hl => n.lst (Rps.nown _ _ us hz hr) hl⟩
    · cases hg
  · split at hg
    · rename_i hz
      cases hg
      obtain ⟨v, rfl, a, us, rfl, ha, hr⟩ := pl1 r
      exact .inl ⟨a, us, rfl, .inr ha.sq, fun l hl => n.lst hr hl⟩
    · cases hg
  · rename_i ks xs
    cases hg
    obtain ⟨v, rfl, a, kvs, rfl, ha, hk, hn, hr⟩ := pl1 r
    refine .inr ⟨a, kvs, rfl, ha.rd, fun q hq => ?_⟩
    have e : (kvs.map fun kv => kV kv.1) = (ks.map Sx).map V.str := by
      have e1 : (kvs.map fun kv => kV kv.1) = (kvs.map (·.1)).map kV := by rw [List.map_map]; rfl
      rw [e1, hk, List.map_map, List.map_map]; rfl
    rw [e]
    exact n.lst (Rps.of_strs ks) hq
  · rename_i ns
    cases hg
    obtain ⟨v, rfl, a, rfl, ha⟩ := pl1 r
    exact .inl ⟨a, _, rfl, .inl (ha.imp (fun z => z.1) id), fun l hl => n.lst (Rps.of_ints ns) hl⟩
  · cases hg
/-- tuple(x) -/
def bTuple : List D → Option D
  | [.lst _ ds] => if allFrz ds = true then some (.tup ds) else none
  | [.tup ds] => some (.tup ds)
  | _ => none
theorem l_tuple : ArA K (fun xs H Q => ∃ p ys, xs = [.ref p] ∧ ((SqL K H p ys ∧ ∀ l, H l = none → Q (.ref l) (upd H l (.tup ys))) ∨ (SqT K H p ys ∧ Q (.ref p) H))) bTuple := fun H W S ds vs d Q trk r hg n => by
  unfold bTuple at hg
  split at hg
  · split at hg
    · rename_i hz
      cases hg
      obtain ⟨v, rfl, a, us, rfl, ha, hr⟩ := pl1 r
      exact ⟨a, us, rfl, .inl ⟨ha.sq, fun l hl => n.tup trk (Rps.nown _ _ us hz hr) hl⟩⟩
    · cases hg
  · cases hg
    obtain ⟨v, rfl, a, us, rfl, ha, hr⟩ := pl1 r
    exact ⟨a, us, rfl, .inr ⟨ha.sq, n.val ⟨a, us, rfl, ha, hr⟩⟩⟩
  · cases hg
/-- the order of texts -/
def leT (a b : List Nat) : Bool := !PySem.Spec.ltCps b a
def insT (x : List Nat) : List (List Nat) → List (List Nat)
  | [] => [x]
  | y :: l => if leT x y = true then x :: y :: l else y :: insT x l
def sortT : List (List Nat) → List (List Nat)
  | [] => []
  | x :: l => insT x (sortT l)
end
section
open PySem.Spec (ltCps)
theorem ltC_irrefl : ∀ a : List Nat, ltCps a a = false
  | [] => rfl
  | a :: r => by unfold ltCps; rw [ltC_irrefl r]; simp
theorem ltC_trans : ∀ {a b c : List Nat}, ltCps a b = true → ltCps b c = true → ltCps a c = true
  | [], [], _, h, _ => by cases h
  | [], _ :: _, [], _, h => by cases h
  | [], _ :: _, _ :: _, _, _ => rfl
  | _ :: _, [], _, h, _ => by cases h
  | _ :: _, _ :: _, [], _, h => by cases h
  | a :: r, b :: t, c :: u, h1, h2 => by
    unfold ltCps at h1 h2 ⊢
    simp only [Bool.or_eq_true, decide_eq_true_eq, Bool.and_eq_true, beq_iff_eq] at h1 h2 ⊢
    rcases h1 with h1 | ⟨h1, h1'⟩
    · rcases h2 with h2 | ⟨h2, h2'⟩
      · exact .inl (by omega)
      · exact .inl (by omega)
    · rcases h2 with h2 | ⟨h2, h2'⟩
      · exact .inl (by omega)
      · exact .inr ⟨by omega, ltC_trans h1' h2'⟩
theorem ltC_total : ∀ {a b : List Nat}, ltCps a b = false → ltCps b a = false → a = b
  | [], [], _, _ => rfl
  | [], _ :: _, h, _ => by cases h
  | _ :: _, [], _, h => by cases h
  | a :: r, b :: t, h1, h2 => by
    unfold ltCps at h1 h2
    simp only [Bool.or_eq_false_iff, decide_eq_false_iff_not, Bool.and_eq_false_iff, beq_eq_false_iff_ne] at h1 h2
    have e : a = b := by omega
    subst e
    rw [ltC_total (h1.2.resolve_left fun z => z rfl) (h2.2.resolve_left fun z => z rfl)]
theorem leT_trans {a b c : List Nat} (h1 : leT a b = true) (h2 : leT b c = true) : leT a c = true := by
  unfold leT at *
  simp only [Bool.not_eq_true'] at *
  cases h : ltCps c a with
  | false => rfl
  | true =>
    cases h3 : ltCps b a with
    | true => rw [h3] at h1; cases h1
    | false =>
      cases h4 : ltCps a b with
      | true => have := ltC_trans h h4; rw [h2] at this; cases this
      | false => have e := ltC_total h4 h3; subst e; rw [h2] at h; cases h
theorem leT_total (a b : List Nat) : leT a b = true ∨ leT b a = true := by
  unfold leT
  cases h : ltCps b a with
  | false => exact .inl rfl
  | true =>
    cases h2 : ltCps a b with
    | false => exact .inr rfl
    | true => have := ltC_trans h h2; rw [ltC_irrefl] at this; cases this
theorem leT_antisymm {a b : List Nat} (h1 : leT a b = true) (h2 : leT b a = true) : a = b := by
  unfold leT at h1 h2
  simp only [Bool.not_eq_true'] at h1 h2
  exact ltC_total h2 h1
theorem insT_perm (x : List Nat) : ∀ l, (insT x l).Perm (x :: l)
  | [] => List.Perm.refl _
  | y :: l => by
    unfold insT
    split
    · exact List.Perm.refl _
    · exact ((insT_perm x l).cons y).trans (List.Perm.swap x y l)
theorem sortT_perm : ∀ l, (sortT l).Perm l
  | [] => List.Perm.refl _
  | x :: l => (insT_perm x _).trans ((sortT_perm l).cons x)
abbrev Asc (l : List (List Nat)) : Prop := l.Pairwise fun a b => leT a b = true
theorem insT_asc (x : List Nat) : ∀ {l}, Asc l → Asc (insT x l)
  | [], _ => by unfold insT; exact List.pairwise_singleton _ _
  | y :: l, h => by
    unfold insT
    have h' := List.pairwise_cons.mp h
    split
    · rename_i hx
      refine List.pairwise_cons.mpr ⟨fun z hz => ?_, h⟩
      rcases List.mem_cons.mp hz with e | hz
      · subst e; exact hx
      · exact leT_trans hx (h'.1 z hz)
    · rename_i hx
      refine List.pairwise_cons.mpr ⟨fun z hz => ?_, insT_asc x h'.2⟩
      rcases List.mem_cons.mp ((insT_perm x l).mem_iff.mp hz) with e | hz
      · subst e; exact (leT_total z y).resolve_left hx
      · exact h'.1 z hz
theorem sortT_asc : ∀ l, Asc (sortT l)
  | [] => List.Pairwise.nil
  | x :: l => insT_asc x (sortT_asc l)
theorem asc_unique : ∀ {l m : List (List Nat)}, l.Perm m → Asc l → Asc m → l = m
  | [], m, h, _, _ => (List.Perm.nil_eq h)
  | x :: l, [], h, _, _ => absurd h.length_eq (by simp)
  | x :: l, y :: m, h, h1, h2 => by
    have a1 := List.pairwise_cons.mp h1
    have a2 := List.pairwise_cons.mp h2
    have e : x = y := by
      have hx : x ∈ y :: m := h.mem_iff.mp List.mem_cons_self
      have hy : y ∈ x :: l := h.mem_iff.mpr List.mem_cons_self
      rcases List.mem_cons.mp hx with e | hx
      · exact e
      · rcases List.mem_cons.mp hy with e | hy
        · exact e.symm
        · exact leT_antisymm (a1.1 y hy) (a2.1 x hx)
    subst e
    rw [asc_unique (List.Perm.cons_inv h) a1.2 a2.2]
theorem asc_of_sortedS : ∀ {l : List (List Nat)}, sortedS (l.map Sx) = true → Asc l
  | [], _ => List.Pairwise.nil
  | x :: l, h => by
    have rise : ∀ (l : List (List Nat)) (x : List Nat), risingS (Sx x) (l.map Sx) = true → Asc (x :: l) := by
      intro l
      induction l with
      | nil => intro x _; exact List.pairwise_singleton _ _
      | cons y l ih =>
        intro x h
        have h' : (!ltCps y x && risingS (Sx y) (l.map Sx)) = true := h
        rw [Bool.and_eq_true] at h'
        have r := ih y h'.2
        refine List.pairwise_cons.mpr ⟨fun z hz => ?_, r⟩
        rcases List.mem_cons.mp hz with e | hz
        · subst e; exact h'.1
        · exact leT_trans h'.1 ((List.pairwise_cons.mp r).1 z hz)
    exact rise l x h
theorem sort_is {l : List (List Nat)} {ys : List Str} (h : ys.Perm (l.map Sx)) (hs : sortedS ys = true) : ys = (sortT l).map Sx := by
  have e : ys = (ys.map fun y => y.cps.toList).map Sx := by
    rw [List.map_map]
    refine (List.map_id'' (fun y => Sx_tl y) ys).symm.trans ?_
    rfl
  have hp : (ys.map fun y => y.cps.toList).Perm l := by
    have := h.map fun y => y.cps.toList
    rw [List.map_map] at this
    refine this.trans ?_
    have e2 : l.map ((fun y : Str => y.cps.toList) ∘ Sx) = l := by
      conv => rhs; rw [← List.map_id l]
      exact List.map_congr_left fun x _ => rfl
    rw [e2]
  rw [e] at hs ⊢
  rw [asc_unique (hp.trans (sortT_perm l).symm) (asc_of_sortedS hs) (sortT_asc l)]
end
section
variable {X : Cx} {K : PySem.W.Frag} {G : Cfg} {H H' : Hp} {W S S1 S2 : AS} {pn : List Nat}
def bSorted : List D → Option D
  | [.lst _ ds] => match strsOf ds with
    | some l => if l.length < 64 then some (.lst true ((sortT l).map .str)) else none
    | none => none
  | [.dic _ ks _] => if ks.length < 64 then some (.lst true ((sortT ks).map .str)) else none
  | _ => none
def rSortedA (K : PySem.W.Frag) : List V → Hp → VK → Prop := fun vs H Q => rSortedS K vs H Q ∨ (∃ (a : Addr) (kvs : List (Key × V)) (ks : List Str), vs = [.ref a] ∧ Rd H a (.dK kvs) ∧ kvs.map (·.1) = ks.map Sum.inr ∧ ks.length < 64 ∧
    ∀ ys p, ys.Perm ks → sortedS ys = true → H p = none → Q (.ref p) (upd H p (.lst (ys.map V.str))))
theorem o_sorted (hc : X.calm = true) : CallR X (.builtin "sorted") (rSortedA X.K) := CallR.or cr_sortedS (call_sortedD hc)
theorem l_sorted : ArA K (rSortedA K) bSorted := fun H W S ds vs d Q trk r hg n => by
  unfold bSorted at hg
  split at hg
  · rename_i ds
    split at hg
    · rename_i l hl
      split at hg
      · rename_i h64
        cases hg
        obtain ⟨v, rfl, a, us, rfl, ha, hr⟩ := pl1 r
        rw [strsOf_map hl] at hr
        rw [hr.strs] at ha
        refine .inl ⟨a, l.map Sx, rfl, ha.sq, by rw [List.length_map]; exact h64, fun ys p hp hs hn => ?_⟩
        rw [sort_is hp hs]
        exact n.lst (Rps.of_strs _) hn
      · cases hg
    · cases hg
  · rename_i ks xs
    split at hg
    · rename_i h64
      cases hg
      obtain ⟨v, rfl, a, kvs, rfl, ha, hk, hn, hr⟩ := pl1 r
      refine .inr ⟨a, kvs, ks.map Sx, rfl, ha.rd, by rw [hk, List.map_map]; rfl, by rw [List.length_map]; exact h64, fun ys p hp hs hn => ?_⟩
      rw [sort_is hp hs]
      exact n.lst (Rps.of_strs _) hn
    · cases hg
  · cases hg

/-! ### isinstance -/
def tyN : D → String
  | .non => "NoneType"
  | .bl _ => "bool"
  | .int _ => "int"
  | .str _ => "str"
  | .tup _ => "tuple"
  | .lst _ _ => "list"
  | .dic _ _ _ => "dict"
  | .scr _ => "list"
  | .otu _ => "tuple"
theorem Rp.ty {d : D} {v : V} (r : Rp K H W d S v) : TyX K H v (.type (tyN d)) := by
  cases d with
  | non => have h : v = V.non := r; subst h; exact .base .non
  | bl b => have h : v = V.bl b := r; subst h; exact .base (.bl b)
  | int i => have h : v = V.int i := r; subst h; exact .base (.int i)
  | str x => have h : v = V.str (Sx x) := r; subst h; exact .base (.str _)
  | tup ds =>
    obtain ⟨a, vs, rfl, h, _⟩ := r
    rcases h with ⟨h | ⟨o, h⟩, _⟩ | ⟨o, its, n, h1, h2, _⟩
    · exact .base (.tup h)
    · exact .fTuple h
    · exact .kTuple h1 h2
  | lst o ds => obtain ⟨a, vs, rfl, h, _⟩ := r; exact .base (.lst h.at)
  | dic o ks ds =>
    obtain ⟨a, vs, rfl, h, _⟩ := r
    rcases h.rd with h | ⟨o, h⟩
    · exact .base (.dK h)
    · exact .fDict h
  | otu ds =>
    obtain ⟨a, vs, rfl, ⟨h | ⟨o, h⟩, _⟩, _⟩ := r
    · exact .base (.tup h)
    · exact .fTuple h
  | scr ns =>
    obtain ⟨a, rfl, ⟨h | ⟨o, h⟩, _⟩ | ⟨o, its, n, h1, h2, _⟩⟩ := r
    · exact .base (.lst h)
    · exact .base (.frz h)
    · exact .kList h1 h2
/-- isinstance(x, T): the answer by the kind's name -/
def isaT (T : String) (n : String) : Bool := n == T || (T == "int" && n == "bool")
def tyNs : List String := ["NoneType", "bool", "int", "str", "tuple", "list", "dict"]
theorem tyN_mem (d : D) : tyN d ∈ tyNs := by cases d <;> simp [tyN, tyNs]
def pIsa (T : String) (fa : PF) : PF := fun e => (fa e).map fun d => .bl (isaT T (tyN d))
theorem p_isa {T : String} {fa : PF} (hk : ∀ n ∈ tyNs, PySem.W.kitOne K (.type n) (.type T) = some (isaT T n)) : ∀ σ H Q, tP K (pIsa T fa) σ H Q → tCB (rIsi K) (tCons (tP K fa) (tCons (tC (.ty T)) tNil)) σ H Q := fun σ H Q ⟨R, S, e, d, st, hf, q⟩ => by
  unfold pIsa at hf
  obtain ⟨x, h1, h2⟩ := Option.map_eq_some_iff.mp hf
  subst h2
  exact ⟨R, S, e, x, st, h1, fun v rv => ⟨v, .ty T, .type (tyN x), .type T, isaT T (tyN x), rfl, .ty T, rv.ty, hk _ (tyN_mem x), q _ rfl⟩⟩
def isaTs (Ts : List String) (n : String) : Bool := Ts.any fun T => isaT T n
def dIsa (Ts : List String) (fa : PF) : DF := fun e => match fa e with
  | some d => .ok (.bl (isaTs Ts (tyN d)), e)
  | none => .bad
/-- isinstance(x, (T, U)) -/
theorem d_isa2 {T U : String} {fa : PF} (hk : ∀ n ∈ tyNs, PySem.W.kitAny G.K (.type n) [.type T, .type U] = some (isaTs [T, U] n)) :
    ∀ σ H Q, tD G (dIsa [T, U] fa) σ H Q → tCB (rIsiT G.K) (tCons (tP G.K fa) (tCons (tTup (tCons (tC (.ty T)) (tCons (tC (.ty U)) tNil))) tNil)) σ H Q := fun σ H Q ⟨R, S, e, st, q⟩ => by
  unfold dIsa at q
  cases ha : fa e with
  | none => rw [ha] at q; exact q.elim
  | some d =>
    rw [ha] at q
    refine ⟨R, S, e, d, st, ha, fun v rv => ⟨by show 2 ≤ sizeLine; rw [sizeLine_eq]; decide, fun p hp => ?_⟩⟩
    have k : ∀ a o, H a = some o → upd H p (.tup [.ty T, .ty U]) a = some o := fun a o h => by rw [upd_ne (ne_of_none h hp)]; exact h
    have st' := st.more k
    have rv' : Rp G.K (upd H p (.tup [.ty T, .ty U])) (fun a => S a ∨ R a) d S v := Rp.keep (U := noS) ⟨fun a o h _ => k a o h, fun _ z => z.elim, fun a z => .inl z⟩ d S S v (fun _ z => z) (fun _ _ z => z) rv
    refine ⟨v, p, [.ty T, .ty U], .type (tyN d), [.type T, .type U], isaTs [T, U] (tyN d), rfl, upd_same, .cons (.ty T) (.cons (.ty U) .nil), rv'.ty, hk _ (tyN_mem d), ?_⟩
    refine q _ _ noS S ⟨fun a o h _ => k a o h, fun a z => z.elim (fun y => y.elim) .inl⟩ ⟨fun _ z => z.elim, fun a z => st'.dis a (z.elim (fun y => y.elim) id), fun a z => st'.trk a (z.elim (fun y => y.elim) id), rfl, st'.er.mono (fun a z => z.elim (fun y => y.elim) id) fun _ z => z⟩

/-! ### methods of texts -/
def MtP (K : PySem.W.Frag) (r : V → List V → Hp → VK → Prop) (g : D → List D → Option D) : Prop :=
  ∀ (H : Hp) (W S : AS) (d1 : D) (v1 : V) (ds : List D) (vs : List V) (d : D) (Q : VK), Rp K H W d1 S v1 → Rpl K H W S ds vs → g d1 ds = some d → (∀ v, Rp K H W d S v → Q v H) → r v1 vs H Q
def pm1 (g : D → List D → Option D) (fo fa : PF) : PF := fun e => (fo e).bind fun x => (fa e).bind fun y => match x with | .str _ => g x [y] | _ => none
theorem p_m1 {r : V → List V → Hp → VK → Prop} {g : D → List D → Option D} {fo fa : PF} (h : MtP K r g) : ∀ σ H Q, tP K (pm1 g fo fa) σ H Q → tM1 r (tP K fo) (tP K fa) σ H Q := fun σ H Q ⟨R, S, e, d, st, hf, q⟩ => by
  unfold pm1 at hf
  obtain ⟨x, h1, hf⟩ := Option.bind_eq_some_iff.mp hf
  obtain ⟨y, h2, hf⟩ := Option.bind_eq_some_iff.mp hf
  cases x with
  | str z =>
    refine ⟨R, S, e, _, st, h1, fun v rv => ⟨⟨Sx z, rv⟩, R, S, e, y, st, h2, fun u ru => ?_⟩⟩
    exact h H _ S _ v [y] [u] d Q rv (.cons ru .nil) hf q
  | _ => cases hf
def mFind : D → List D → Option D
  | .str x, [.str y] => some (.int (Txt.find (Sx x) (Sx y)))
  | _, _ => none
theorem l_find : MtP K (fun x xs H Q => ∃ a b, x = .str a ∧ xs = [.str b] ∧ Q (.int (Txt.find a b)) H) mFind := fun H W S d1 v1 ds vs d Q r1 r hg q => by
  unfold mFind at hg
  split at hg
  · cases hg
    obtain ⟨u, rfl, ru⟩ := pl1 r
    have e1 : u = V.str _ := ru
    subst e1
    exact ⟨_, _, r1, rfl, q _ rfl⟩
  · cases hg
def startsL (x y : List Nat) : Bool := y.isPrefixOf x
def mStarts : D → List D → Option D
  | .str x, [.str y] => some (.bl (Txt.startswith (Sx x) (Sx y)))
  | _, _ => none
theorem l_starts : MtP K (fun x xs H Q => ∃ a b, x = .str a ∧ xs = [.str b] ∧ Q (.bl (Txt.startswith a b)) H) mStarts := fun H W S d1 v1 ds vs d Q r1 r hg q => by
  unfold mStarts at hg
  split at hg
  · cases hg
    obtain ⟨u, rfl, ru⟩ := pl1 r
    have e1 : u = V.str _ := ru
    subst e1
    exact ⟨_, _, r1, rfl, q _ rfl⟩
  · cases hg
def joinT (s : List Nat) : List (List Nat) → List Nat
  | [] => []
  | [p] => p
  | p :: q :: r => p ++ (s ++ joinT s (q :: r))
theorem join_Sx (s : List Nat) (ys : List (List Nat)) : Txt.join (Sx s) (ys.map Sx) = Sx (joinT s ys) := by
  rw [SX.join_S]
  congr 1
  induction ys with
  | nil => rfl
  | cons p r ih =>
    cases r with
    | nil => rfl
    | cons q r =>
      show p ++ (s ++ TL.joinL s (q :: r)) = p ++ (s ++ joinT s (q :: r))
      rw [ih]
/-- sep.join(list) -/
def djoin (fo : PF) (fa : DF) : DF := fun e => match fo e with
  | some (.str s) => (fa e).bind fun (d, e1) => match d with
    | .lst _ ds => (match strsOf ds with
      | some l => if (l.map List.length).sum + l.length * s.length ≤ 16777216 then .ok (.str (joinT s l), e1) else .bad
      | none => .bad)
    | _ => .bad
  | _ => .bad
theorem d_join {fo : PF} {fa : DF} : ∀ σ H Q, tD G (djoin fo fa) σ H Q → tM1 (fun x xs H Q => ∃ a p, ∃ ys : List Str, x = .str a ∧ xs = [.ref p] ∧ (SqL G.K H p (ys.map V.str) ∨ SqT G.K H p (ys.map V.str)) ∧
    (ys.map (·.length)).sum + ys.length * a.length ≤ 16777216 ∧ Q (.str (Txt.join a ys)) H) (tP G.K fo) (tD G fa) σ H Q := fun σ H Q ⟨R, S, e, st, q⟩ => by
  unfold djoin at q
  split at q
  · rename_i s hs
    refine ⟨R, S, e, _, st, hs, fun v rv => ⟨⟨Sx s, rv⟩, R, S, e, st, ?_⟩⟩
    have rv' : v = V.str (Sx s) := rv
    cases ha : fa e with
    | bad => rw [ha] at q; exact q.elim
    | err x e1 => rw [ha] at q; exact q
    | ok p =>
      obtain ⟨d, e1⟩ := p
      rw [ha] at q
      intro u H1 S1 S2 f1 n1
      dsimp only [Res.bind] at q
      split at q
      · rename_i o ds
        split at q
        · rename_i l hl
          split at q
          · rename_i hz
            obtain ⟨a, us, rfl, hh, hr⟩ := n1.rp
            rw [strsOf_map hl] at hr
            rw [hr.strs] at hh
            refine ⟨Sx s, a, l.map Sx, rv', rfl, .inl hh.sq, ?_, ?_⟩
            · rw [List.map_map, List.length_map, Sx_len]
              have e2 : l.map ((fun x : Str => x.length) ∘ Sx) = l.map List.length := List.map_congr_left fun x _ => Sx_len x
              rw [e2]
              exact hz
            · rw [join_Sx]
              have st2 := n1.drop
              exact q _ H1 noS S2 (f1.less fun a z => z.elim (fun y => y.elim) .inr) ⟨fun _ z => z.elim, fun a z => st2.dis a (z.elim (fun y => y.elim) id), fun a z => st2.trk a (z.elim (fun y => y.elim) id), rfl, st2.er.mono (fun a z => z.elim (fun y => y.elim) id) fun _ z => z⟩
          · exact q.elim
        · exact q.elim
      · exact q.elim
  · exact q.elim
end
end DL

namespace DL
open PySem L2 PyProof.Rows
section
variable {X : Cx} {K : PySem.W.Frag} {G : Cfg} {H H' H1 : Hp} {R W S S1 S2 : AS} {pn : List Nat} {e : Env} {σ : L2.St}
/-! ### x op= e, targets, stores -/
def saug (i : Nat) (g : D → D → Option D) (f : DF) : SF := fun e => match e[i]? with
  | some (some d1) => if isAtom d1 = true then (match f e with
    | .ok (d2, e1) => (match g d1 d2 with
      | some d => if isAtom d = true then .next (e1.set i (some d)) else .bad
      | none => .bad)
    | .err x e1 => .err x e1
    | .bad => .bad) else .bad
  | _ => .bad
theorem s_aug {i : Nat} {g : D → D → Option D} {f : DF} {r : V → V → Hp → VK → Prop} (hr : OpP G.K r g) (hp : i ∉ pn) : ∀ D σ H, tS G pn (saug i g f) D σ H → tAug i (tD G f) r D σ H := fun D σ H ⟨R, S, e, st, q⟩ => by
  unfold saug at q
  split at q
  · rename_i d1 hd
    split at q
    · rename_i hat
      obtain ⟨v, S1, S2, hv, h1, h2, h3, h4, h5⟩ := st.er.get hd
      refine ⟨v, hv, R, S, e, st, ?_⟩
      cases hf : f e with
      | bad => rw [hf] at q; exact q.elim
      | err x e1 => rw [hf] at q; exact ErrP.of q
      | ok p =>
        obtain ⟨d2, e1⟩ := p
        rw [hf] at q
        intro u H1 S3 S4 f1 n1
        dsimp only at q
        cases hg : g d1 d2 with
        | none => rw [hg] at q; exact q.elim
        | some d =>
          rw [hg] at q
          dsimp only at q
          split at q
          · rename_i hz
            refine hr H1 (fun a => S3 a ∨ S4 a ∨ R a) S3 d1 d2 v u d _ (h4.atom hat) n1.rp hg fun z rz => ?_
            have n2 : Ens G.K H1 R noS S4 d z e1 σ := by
              have s := n1.drop
              exact ⟨fun _ z => z.elim, fun a z => s.dis a (z.elim (fun y => y.elim) id), fun a z => s.trk a (z.elim (fun y => y.elim) id), rz.atom hz, s.er.mono (fun a z => z.elim (fun y => y.elim) id) fun _ z => z⟩
            exact q (σ.set i (some z)) H1 _ (Pin.set hp) (f1.less fun a z => z.elim (fun y => y.elim) .inr) (n2.set i)
          · exact q.elim
    · exact q.elim
  · exact q.elim
/-- a, b = e -/
def sunp (b : BF) (f : DF) : SF := fun e => match f e with
  | .ok (d, e1) => (match b (frz d) e1 with
    | some e2 => .next e2
    | none => .bad)
  | .err x e1 => .err x e1
  | .bad => .bad
theorem s_unp {b : BF} {f : DF} {g : TG} {vs : List Nat} (hg : TgR G.K pn vs g b) : ∀ D σ H, tS G pn (sunp b f) D σ H → tAsg (tD G f) g D σ H := fun D σ H ⟨R, S, e, st, q⟩ => by
  refine ⟨R, S, e, st, ?_⟩
  unfold sunp at q
  cases hf : f e with
  | bad => rw [hf] at q; exact q.elim
  | err x e1 => rw [hf] at q; exact ErrP.of q
  | ok p =>
    obtain ⟨d, e1⟩ := p
    rw [hf] at q
    intro u H1 S3 S4 f1 n1
    dsimp only at q
    cases hb : b (frz d) e1 with
    | none => rw [hb] at q; exact q.elim
    | some e2 =>
      rw [hb] at q
      have hz : Rp G.K H1 (fun a => S4 a ∨ R a) (frz d) noS u := Rp.frz d S3 u n1.rp fun a z => z.elim (fun y => ⟨.inr (.inl y), fun w => n1.d12 a w y⟩) fun y => ⟨.inr (.inr y), fun w => n1.dis a (.inl w) y⟩
      exact hg H1 R S4 e1 σ (frz d) u e2 _ n1.drop hz hb fun σ1 st1 p1 _ => q σ1 H1 S4 p1 (f1.less fun _ z => .inr z) st1
/-- a, b = x, y -/
def spar (i j : Nat) (fs : DFs) : SF := fun e => match fs e with
  | .ok ([x, y], e1) => .next ((e1.set i (some (frz x))).set j (some (frz y)))
  | .err x e1 => .err x e1
  | _ => .bad
theorem s_par {i j : Nat} {fs : DFs} (hi : i ∉ pn) (hj : j ∉ pn) : ∀ D σ H, tS G pn (spar i j fs) D σ H → tPar i j (tDs G fs) D σ H := fun D σ H ⟨R, S, e, st, q⟩ => by
  refine ⟨R, S, e, st, ?_⟩
  unfold spar at q
  cases hf : fs e with
  | bad => rw [hf] at q; exact q.elim
  | err x e1 => rw [hf] at q; exact ErrP.of q
  | ok p =>
    obtain ⟨ds, e1⟩ := p
    rw [hf] at q
    match ds, q with
    | [x, y], q =>
      intro us H1 S3 S4 f1 n1
      have hz : Rps G.K H1 (fun a => S4 a ∨ R a) (frzs [x, y]) noS us := Rps.frz [x, y] S3 us n1.rp fun a z => z.elim (fun y => ⟨.inr (.inl y), fun w => n1.d12 a w y⟩) fun y => ⟨.inr (.inr y), fun w => n1.dis a (.inl w) y⟩
      obtain ⟨v, vr, T1, T2, ev, t1, t2, t3, t4, t5⟩ := hz
      obtain ⟨w, wr, U1, U2, ew, u1, u2, u3, u4, u5⟩ := t5
      have u5' : wr = [] := u5
      subst u5' ew ev
      have s := n1.drop
      have s1 := s.set (t4.mono (fun _ z => z) t1) i
      have s2 := s1.set (u4.mono (fun _ z => z) fun b z => t2 b (u1 b z)) j
      exact ⟨v, w, rfl, q _ H1 S4 ((Pin.set hi).trans (Pin.set hj)) (f1.less fun _ z => .inr z) s2⟩

/-! ### what stands in a slot and is own is changed -/
/-- the object at a is another one, d' its tree now -/
theorem Sta.wr {a : Addr} {o : HO} {i : Nat} {d' : D} {v : V} {Sa Sb : AS} (st : Sta K H R S e σ) (hv : σ[i]? = some (some v)) (ha : Sa a) (s1 : ∀ b, Sa b → S b) (s2 : ∀ b, Sb b → S b) (s3 : ∀ b, Sa b → ¬ Sb b)
    (er : Er K H (fun b => S b ∨ R b) (e.set i none) Sb σ) (rp : Rp K (upd H a o) (fun b => S b ∨ R b) d' Sa v) : Sta K (upd H a o) R S (e.set i (some d')) σ := by
  refine ⟨st.dis, fun b z => ?_, ?_⟩
  · by_cases h : b = a
    · rw [h, upd_same]; exact fun z => by cases z
    · rw [upd_ne h]; exact st.trk b z
  · refine Er.back (S1 := Sa) (S2 := Sb) ?_ hv rp s1 s2 s3
    refine Er.keep (U := fun b => b = a) ⟨fun b o h n => by rw [upd_ne n]; exact h, fun b z => .inl (s1 b (by rw [z]; exact ha)), fun b z => .inl z⟩ _ Sb Sb σ (fun _ z => z) (fun b z y => s3 b (by rw [y]; exact ha) z) er
theorem Fr.wr {a : Addr} {o : HO} (ha : S a) : Fr H (upd H a o) S S := ⟨fun b o h n => by rw [upd_ne fun z => n (by rw [z]; exact ha)]; exact h, fun b z => .inl z⟩
theorem Fr.wrT {a : Addr} {o : HO} {S3 S4 : AS} (f : Fr H H1 S (fun a => S3 a ∨ S4 a)) (ha : S4 a) : Fr H (upd H1 a o) S (fun a => noS a ∨ S4 a) := by
  have g : Fr H (upd H1 a o) S S4 := (f.less (T := S4) fun _ z => .inr z).trans (Fr.wr ha)
  exact g.less fun a z => z.elim (fun y => y.elim) id
/-- the slot's own list -/
theorem Sta.ownL {i : Nat} {ds : List D} (st : Sta K H R S e σ) (hd : e[i]? = some (some (.lst true ds))) : ∃ (a : Addr) (vs : List V) (Sa Sb : AS), σ[i]? = some (some (.ref a)) ∧ H a = some (.lst vs) ∧ Sa a ∧ (∀ b, Sa b → S b) ∧ (∀ b, Sb b → S b) ∧ (∀ b, Sa b → ¬ Sb b) ∧
    Rps K H (fun b => S b ∨ R b) ds (fun b => Sa b ∧ b ≠ a) vs ∧ Er K H (fun b => S b ∨ R b) (e.set i none) Sb σ := by
  obtain ⟨v, Sa, Sb, hv, h1, h2, h3, h4, h5⟩ := st.er.get hd
  obtain ⟨a, vs, rfl, ⟨ha, hs⟩, hr⟩ := h4
  exact ⟨a, vs, Sa, Sb, hv, ha, hs, h1, h2, h3, hr, h5⟩
theorem Rps.snocO {ds : List D} {vs : List V} {d : D} {v : V} : ∀ {S : AS}, Rps K H W ds S vs → Rp K H W d noS v → Rps K H W (ds ++ [d]) S (vs ++ [v]) := by
  induction ds generalizing vs with
  | nil => intro S h r; have h' : vs = [] := h; subst h'; exact ⟨v, [], noS, noS, rfl, fun _ z => z.elim, fun _ z => z.elim, fun _ z => z.elim, r, rfl⟩
  | cons d0 ds ih =>
    intro S h r
    obtain ⟨v0, vr, T1, T2, e, t1, t2, t3, t4, t5⟩ := h
    subst e
    exact ⟨v0, vr ++ [v], T1, T2, rfl, t1, t2, t3, t4, ih t5 r⟩
theorem Rps.keepU {a : Addr} {o : HO} {ds : List D} {vs : List V} {T : AS} (h : Rps K H W ds T vs) (ha : W a) (ht : ∀ b, T b → b ≠ a) : Rps K (upd H a o) W ds T vs :=
  Rps.keep (U := fun b => b = a) ⟨fun b o h n => by rw [upd_ne n]; exact h, fun b z => by rw [z]; exact ha, fun b z => .inl z⟩ ds T T vs (fun _ z => z) (fun b z y => ht b z y) h
theorem Rp.keepU {a : Addr} {o : HO} {d : D} {v : V} {T : AS} (h : Rp K H W d T v) (ha : W a) (ht : ∀ b, T b → b ≠ a) : Rp K (upd H a o) W d T v :=
  Rp.keep (U := fun b => b = a) ⟨fun b o h n => by rw [upd_ne n]; exact h, fun b z => by rw [z]; exact ha, fun b z => .inl z⟩ d T T v (fun _ z => z) (fun b z y => ht b z y) h
/-- nothing of a value's end is kept but a value that is no object -/
theorem Ens.atom {v : V} {d : D} (st : Sta K H R S e σ) (h : Rp K H (fun _ => False) d noS v) (hz : isAtom d = true) : Ens K H R noS S d v e σ :=
  ⟨fun _ z => z.elim, fun a z => st.dis a (z.elim (fun y => y.elim) id), fun a z => st.trk a (z.elim (fun y => y.elim) id), h.atom hz, st.er.mono (fun a z => z.elim (fun y => y.elim) id) fun _ z => z⟩

/-- x.append(f) -/
def mapp (i : Nat) (f : DF) : DF := fun e => match e[i]? with
  | some (some (.lst _ _)) => (f e).bind fun (d, e1) => (match e1[i]? with
    | some (some (.lst true ds)) => if ds.length < 1000000 then .ok (.non, e1.set i (some (.lst true (ds ++ [frz d])))) else .bad
    | _ => .bad)
  | _ => .bad
theorem m_app {i : Nat} {f : DF} : ∀ σ H Q, tD G (mapp i f) σ H Q → tBM G.K "list" rAppend (tVar i) (tCons (tD G f) tNil) σ H Q := fun σ H Q ⟨R, S, e, st, q⟩ => by
  unfold mapp at q
  split at q
  · rename_i o ds0 hd0
    obtain ⟨v0, _, _, hv0, _, _, _, h40, _⟩ := st.er.get hd0
    obtain ⟨a0, vs0, rfl, hl0, _⟩ := h40
    refine ⟨_, hv0, .inl ⟨rfl, vs0, hl0.sq⟩, R, S, e, st, ?_⟩
    cases hf : f e with
    | bad => rw [hf] at q; exact q.elim
    | err x e1 => rw [hf] at q; exact q
    | ok p =>
      obtain ⟨d, e1⟩ := p
      rw [hf] at q
      intro u H1 S3 S4 f1 n1
      dsimp only [Res.bind] at q
      split at q
      · rename_i ds hd
        split at q
        · rename_i hlen
          have s := n1.drop
          obtain ⟨a, vs, Sa, Sb, hv, ha, hs, k1, k2, k3, hr, er⟩ := s.ownL hd
          rw [hv0] at hv
          cases hv
          have hz : Rp G.K H1 (fun b => S4 b ∨ R b) (frz d) noS u := Rp.frz d S3 u n1.rp fun a z => z.elim (fun y => ⟨.inr (.inl y), fun w => n1.d12 a w y⟩) fun y => ⟨.inr (.inr y), fun w => n1.dis a (.inl w) y⟩
          have wa : (fun b => S4 b ∨ R b) a0 := .inl (k1 a0 hs)
          refine ⟨a0, vs, u, rfl, rfl, ha, by rw [hr.length]; exact Nat.lt_of_lt_of_le hlen million, ?_⟩
          have st2 : Sta G.K (upd H1 a0 (.lst (vs ++ [u]))) R S4 (e1.set i (some (.lst true (ds ++ [frz d])))) σ :=
            s.wr hv0 hs k1 k2 k3 er ⟨a0, vs ++ [u], rfl, ⟨upd_same, hs⟩, Rps.snocO (hr.keepU wa fun b z => z.2) (hz.keepU wa fun _ z => z.elim)⟩
          exact q .non _ noS S4 (f1.wrT (k1 a0 hs)) (Ens.atom st2 rfl rfl)
        · exact q.elim
      · exact q.elim
  · exact q.elim
/-- x.pop(f) -/
def mpopAt (i : Nat) (f : DF) : DF := fun e => match e[i]? with
  | some (some (.lst _ _)) => (f e).bind fun (d, e1) => (match e1[i]?, d with
    | some (some (.lst true ds)), .int k => (match ixN ds.length k with
      | some j => (match ds[j]? with
        | some x => if isFrz x = true ∧ ds.length ≤ 1000000 then .ok (x, e1.set i (some (.lst true (ds.eraseIdx j)))) else .bad
        | none => .bad)
      | none => .bad)
    | _, _ => .bad)
  | _ => .bad
theorem Rps.erase {ds : List D} {vs : List V} : ∀ {S : AS} (j : Nat), Rps K H W ds S vs → Rps K H W (ds.eraseIdx j) S (vs.eraseIdx j) := by
  induction ds generalizing vs with
  | nil => intro S j h; have h' : vs = [] := h; subst h'; rfl
  | cons d0 ds ih =>
    intro S j h
    obtain ⟨v0, vr, T1, T2, e, t1, t2, t3, t4, t5⟩ := h
    subst e
    cases j with
    | zero => exact t5.mono (fun _ z => z) t2
    | succ j => exact ⟨v0, vr.eraseIdx j, T1, T2, rfl, t1, t2, t3, t4, ih j t5⟩
theorem Rps.getS {ds : List D} {vs : List V} {j : Nat} {d : D} (h : Rps K H W ds S vs) (hd : ds[j]? = some d) : ∃ v, vs[j]? = some v ∧ Rp K H W d S v := by
  have q := h.pl
  clear h
  induction q generalizing j with
  | nil => simp at hd
  | cons r t ih =>
    cases j with
    | zero => simp at hd; subst hd; exact ⟨_, rfl, r⟩
    | succ j => obtain ⟨v, h1, h2⟩ := ih (j := j) (by simpa using hd); exact ⟨v, by simpa using h1, h2⟩
theorem m_popAt {i : Nat} {f : DF} : ∀ σ H Q, tD G (mpopAt i f) σ H Q → tBM G.K "list" rPopAt (tVar i) (tCons (tD G f) tNil) σ H Q := fun σ H Q ⟨R, S, e, st, q⟩ => by
  unfold mpopAt at q
  split at q
  · rename_i o ds0 hd0
    obtain ⟨v0, _, _, hv0, _, _, _, h40, _⟩ := st.er.get hd0
    obtain ⟨a0, vs0, rfl, hl0, _⟩ := h40
    refine ⟨_, hv0, .inl ⟨rfl, vs0, hl0.sq⟩, R, S, e, st, ?_⟩
    cases hf : f e with
    | bad => rw [hf] at q; exact q.elim
    | err x e1 => rw [hf] at q; exact q
    | ok p =>
      obtain ⟨d, e1⟩ := p
      rw [hf] at q
      intro u H1 S3 S4 f1 n1
      dsimp only [Res.bind] at q
      split at q
      · rename_i ds k hd
        split at q
        · rename_i j hj
          split at q
          · rename_i x hx
            split at q
            · rename_i hc
              have s := n1.drop
              obtain ⟨a, vs, Sa, Sb, hv, ha, hs, k1, k2, k3, hr, er⟩ := s.ownL hd
              rw [hv0] at hv
              cases hv
              have wa : (fun b => S4 b ∨ R b) a0 := .inl (k1 a0 hs)
              obtain ⟨y, hy, ry⟩ := hr.getS hx
              obtain ⟨q1, q2, q3, q4⟩ := ixN_seq hj
              have e1 : u = V.int k := n1.rp
              have b63 : (2 : Int) ^ 63 = 9223372036854775808 := by decide
              refine ⟨a0, vs, k, j, y, rfl, by rw [e1], ha, by omega, by omega, by rw [hr.length]; exact q1, hy, ?_⟩
              have st2 := s.wr (o := .lst (vs.eraseIdx j)) (d' := .lst true (ds.eraseIdx j)) hv0 hs k1 k2 k3 er ⟨a0, vs.eraseIdx j, rfl, ⟨upd_same, hs⟩, (hr.keepU wa fun b z => z.2).erase j⟩
              have ry' : Rp G.K (upd H1 a0 (.lst (vs.eraseIdx j))) (fun b => S4 b ∨ R b) x noS y := (Rp.nown x _ y hc.1 ry).keepU wa fun _ z => z.elim
              refine q y _ noS S4 (f1.wrT (k1 a0 hs)) ⟨fun _ z => z.elim, fun a z => st2.dis a (z.elim (fun y => y.elim) id), fun a z => st2.trk a (z.elim (fun y => y.elim) id), ry'.mono (fun a z => z.elim (fun y => y.elim) id) fun _ z => z, st2.er.mono (fun a z => z.elim (fun y => y.elim) id) fun _ z => z⟩
            · exact q.elim
          · exact q.elim
        · exact q.elim
      · exact q.elim
  · exact q.elim
/-- x.pop() -/
def mpop (i : Nat) : DF := fun e => match e[i]? with
  | some (some (.lst true ds)) => (match ds[ds.length - 1]? with
    | some x => if isFrz x = true then .ok (x, e.set i (some (.lst true ds.dropLast))) else .bad
    | none => .bad)
  | _ => .bad
theorem Rps.dropLast {ds : List D} {vs : List V} {S : AS} (h : Rps K H W ds S vs) : Rps K H W ds.dropLast S vs.dropLast := by
  have e1 : ds.dropLast = ds.eraseIdx (ds.length - 1) := List.eraseIdx_length_sub_one.symm
  have e2 : vs.dropLast = vs.eraseIdx (vs.length - 1) := List.eraseIdx_length_sub_one.symm
  rw [e1, e2, h.length]
  exact h.erase _
theorem m_pop {i : Nat} : ∀ σ H Q, tD G (mpop i) σ H Q → tBM0 G.K "list" rPop (tVar i) σ H Q := fun σ H Q ⟨R, S, e, st, q⟩ => by
  unfold mpop at q
  split at q
  · rename_i ds hd
    split at q
    · rename_i x hx
      split at q
      · rename_i hc
        obtain ⟨a, vs, Sa, Sb, hv, ha, hs, k1, k2, k3, hr, er⟩ := st.ownL hd
        have wa : (fun b => S b ∨ R b) a := .inl (k1 a hs)
        obtain ⟨y, hy, ry⟩ := hr.getS hx
        refine ⟨_, hv, .inl ⟨rfl, vs, .inl (.inl ha)⟩, a, vs, y, rfl, rfl, ha, by rw [hr.length]; exact hy, ?_⟩
        have st2 := st.wr (o := .lst vs.dropLast) (d' := .lst true ds.dropLast) hv hs k1 k2 k3 er ⟨a, _, rfl, ⟨upd_same, hs⟩, (hr.keepU wa fun b z => z.2).dropLast⟩
        have ry' : Rp G.K (upd H a (.lst vs.dropLast)) (fun b => S b ∨ R b) x noS y := (Rp.nown x _ y hc ry).keepU wa fun _ z => z.elim
        exact q y _ noS S ((Fr.wr (k1 a hs)).less fun a z => z.elim (fun y => y.elim) id) ⟨fun _ z => z.elim, fun a z => st2.dis a (z.elim (fun y => y.elim) id), fun a z => st2.trk a (z.elim (fun y => y.elim) id), ry'.mono (fun a z => z.elim (fun y => y.elim) id) fun _ z => z, st2.er.mono (fun a z => z.elim (fun y => y.elim) id) fun _ z => z⟩
      · exact q.elim
    · exact q.elim
  · exact q.elim
/-- x[k] = f, x a list -/
def sstore (i : Nat) (fi : PF) (f : DF) : SF := fun e => match f e with
  | .ok (d, e1) => (match e1[i]?, fi e1 with
    | some (some (.lst true ds)), some (.int k) => (match ixN ds.length k with
      | some j => .next (e1.set i (some (.lst true (ds.set j (frz d)))))
      | none => .bad)
    | _, _ => .bad)
  | .err x e1 => .err x e1
  | .bad => .bad
theorem Rps.setF {ds : List D} {vs : List V} {d : D} {v : V} : ∀ {S : AS} (j : Nat), Rps K H W ds S vs → Rp K H W d noS v → Rps K H W (ds.set j d) S (vs.set j v) := by
  induction ds generalizing vs with
  | nil => intro S j h _; have h' : vs = [] := h; subst h'; rfl
  | cons d0 ds ih =>
    intro S j h r
    obtain ⟨v0, vr, T1, T2, e, t1, t2, t3, t4, t5⟩ := h
    subst e
    cases j with
    | zero => exact ⟨v, vr, noS, T2, rfl, fun _ z => z.elim, t2, fun _ z => z.elim, r, t5⟩
    | succ j => exact ⟨v0, vr.set j v, T1, T2, rfl, t1, t2, t3, t4, ih j t5 r⟩
theorem s_store {i : Nat} {fi : PF} {f : DF} : ∀ D σ H, tS G pn (sstore i fi f) D σ H → tAsg (tD G f) (gSub (tVar i) (tP G.K fi) rSetL) D σ H := fun D σ H ⟨R, S, e, st, q⟩ => by
  refine ⟨R, S, e, st, ?_⟩
  unfold sstore at q
  cases hf : f e with
  | bad => rw [hf] at q; exact q.elim
  | err x e1 => rw [hf] at q; exact ErrP.of q
  | ok p =>
    obtain ⟨d, e1⟩ := p
    rw [hf] at q
    intro u H1 S3 S4 f1 n1
    dsimp only at q
    split at q
    · rename_i ds k hd hk
      split at q
      · rename_i j hj
        have s := n1.drop
        obtain ⟨a, vs, Sa, Sb, hv, ha, hs, k1, k2, k3, hr, er⟩ := s.ownL hd
        have wa : (fun b => S4 b ∨ R b) a := .inl (k1 a hs)
        have hz : Rp G.K H1 (fun b => S4 b ∨ R b) (frz d) noS u := Rp.frz d S3 u n1.rp fun a z => z.elim (fun y => ⟨.inr (.inl y), fun w => n1.d12 a w y⟩) fun y => ⟨.inr (.inr y), fun w => n1.dis a (.inl w) y⟩
        refine ⟨_, hv, R, S4, e1, _, s, hk, fun w rw' => ⟨a, vs, k, j, rfl, rw', ha, by rw [hr.length]; exact hj, ?_⟩⟩
        have st2 := s.wr (o := .lst (vs.set j u)) (d' := .lst true (ds.set j (frz d))) hv hs k1 k2 k3 er ⟨a, _, rfl, ⟨upd_same, hs⟩, (hr.keepU wa fun b z => z.2).setF j (hz.keepU wa fun _ z => z.elim)⟩
        exact q σ _ S4 Pin.refl ((f1.wrT (k1 a hs)).less fun a z => .inr z) st2
      · exact q.elim
    · exact q.elim
/-- x[k] = f, x a dict with texts as names -/
def putKey (ks : List (List Nat)) (k : List Nat) : List (List Nat) := if k ∈ ks then ks else ks ++ [k]
def putVal (k : List Nat) (d : D) : List (List Nat) → List D → List D
  | k0 :: ks, d0 :: ds => if k0 = k then d :: ds else d0 :: putVal k d ks ds
  | _, _ => [d]
theorem putK_keys {kvs : List (Key × V)} {ks : List (List Nat)} (h : kvs.map (·.1) = ks.map kx) (k : List Nat) (v : V) : (putK kvs (kx k) v).map (·.1) = (putKey ks k).map kx := by
  have hm : (kvs.any fun kv => decide (kv.1 = kx k)) = decide (k ∈ ks) := by rw [valV_any]; exact valV_keys h k
  unfold putK putKey
  rw [hm]
  by_cases hk : k ∈ ks
  · rw [if_pos (decide_eq_true hk), if_pos hk, List.map_map, ← h]
    refine List.map_congr_left fun p _ => ?_
    show (if p.1 = kx k then (p.1, v) else p).1 = p.1
    split <;> rfl
  · rw [if_neg (by simpa using hk), if_neg hk, List.map_append, List.map_append, h]; rfl
theorem putK_not {kvs : List (Key × V)} {k : Key} {v : V} (h : ∀ p ∈ kvs, p.1 ≠ k) : kvs.map (fun kv => if kv.1 = k then (kv.1, v) else kv) = kvs := by
  conv => rhs; rw [← List.map_id kvs]
  exact List.map_congr_left fun p hp => by rw [if_neg (h p hp)]; rfl
theorem putK_vals {k : List Nat} {d : D} {v : V} : ∀ {ks : List (List Nat)} {ds : List D} {kvs : List (Key × V)} {S : AS}, kvs.map (·.1) = ks.map kx → ks.Nodup → Rps K H W ds S (kvs.map (·.2)) → Rp K H W d noS v →
    Rps K H W (putVal k d ks ds) S ((putK kvs (kx k) v).map (·.2))
  | [], ds, kvs, S, hk, hn, hr, r => by
    have e : kvs = [] := List.map_eq_nil_iff.mp hk
    subst e
    have e2 : ds = [] := by have := hr.length; simpa using this.symm
    subst e2
    exact ⟨v, [], noS, noS, rfl, fun _ z => z.elim, fun _ z => z.elim, fun _ z => z.elim, r, rfl⟩
  | k0 :: ks, ds, kvs, S, hk, hn, hr, r => by
    cases kvs with
    | nil => cases hk
    | cons p kvs =>
      rw [List.map_cons, List.map_cons, List.cons.injEq] at hk
      have hn' := List.nodup_cons.mp hn
      cases ds with
      | nil => have := hr.length; simp at this
      | cons d0 ds =>
        obtain ⟨v0, vr, T1, T2, e, t1, t2, t3, t4, t5⟩ := hr
        rw [List.map_cons, List.cons.injEq] at e
        unfold putVal
        split
        · rename_i hkk
          have e1 : p.1 = kx k := by rw [hk.1, hkk]
          have e2 : putK (p :: kvs) (kx k) v = (p.1, v) :: kvs := by
            unfold putK
            rw [if_pos (by simp [e1]), List.map_cons, if_pos e1, putK_not fun z hz e3 => ?_]
            have : kx k ∈ kvs.map (·.1) := List.mem_map.mpr ⟨z, hz, e3⟩
            rw [hk.2] at this
            obtain ⟨k', hk', e4⟩ := List.mem_map.mp this
            have : k' = k := Sx_inj (Sum.inr.inj e4)
            subst this
            exact hn'.1 (by rw [hkk]; exact hk')
          rw [e2, List.map_cons, e.2]
          exact ⟨v, vr, noS, T2, rfl, fun _ z => z.elim, t2, fun _ z => z.elim, r, t5⟩
        · rename_i hkk
          have e1 : ¬ p.1 = kx k := by rw [hk.1]; exact fun z => hkk (Sx_inj (Sum.inr.inj z))
          have e2 : putK (p :: kvs) (kx k) v = p :: putK kvs (kx k) v := by
            unfold putK
            rw [List.any_cons, decide_eq_false e1, Bool.false_or, List.map_cons, if_neg e1]
            split <;> rfl
          rw [e2, List.map_cons, e.1]
          rw [← e.2] at t5
          exact ⟨v0, _, T1, T2, rfl, t1, t2, t3, t4, putK_vals hk.2 hn'.2 t5 r⟩
theorem putKey_nodup {ks : List (List Nat)} {k : List Nat} (h : ks.Nodup) : (putKey ks k).Nodup := by
  unfold putKey
  split
  · exact h
  · rename_i hk
    refine List.nodup_append.mpr ⟨h, by simp, fun a ha b hb e => ?_⟩
    have : b = k := by simpa using hb
    subst this
    subst e
    exact hk ha
theorem Sta.ownD {i : Nat} {ks : List (List Nat)} {ds : List D} (st : Sta K H R S e σ) (hd : e[i]? = some (some (.dic true ks ds))) : ∃ (a : Addr) (kvs : List (Key × V)) (Sa Sb : AS), σ[i]? = some (some (.ref a)) ∧ H a = some (.dK kvs) ∧ Sa a ∧ (∀ b, Sa b → S b) ∧ (∀ b, Sb b → S b) ∧ (∀ b, Sa b → ¬ Sb b) ∧
    kvs.map (·.1) = ks.map kx ∧ ks.Nodup ∧ Rps K H (fun b => S b ∨ R b) ds (fun b => Sa b ∧ b ≠ a) (kvs.map (·.2)) ∧ Er K H (fun b => S b ∨ R b) (e.set i none) Sb σ := by
  obtain ⟨v, Sa, Sb, hv, h1, h2, h3, h4, h5⟩ := st.er.get hd
  obtain ⟨a, kvs, rfl, ⟨ha, hs⟩, hk, hn, hr⟩ := h4
  exact ⟨a, kvs, Sa, Sb, hv, ha, hs, h1, h2, h3, hk, hn, hr, h5⟩
def sdput (i : Nat) (fk : PF) (f : DF) : SF := fun e => match f e with
  | .ok (d, e1) => (match e1[i]?, fk e1 with
    | some (some (.dic true ks ds)), some (.str k) => if ks.length < 1000000 then .next (e1.set i (some (.dic true (putKey ks k) (putVal k (frz d) ks ds)))) else .bad
    | _, _ => .bad)
  | .err x e1 => .err x e1
  | .bad => .bad
theorem s_dput {i : Nat} {fk : PF} {f : DF} : ∀ D σ H, tS G pn (sdput i fk f) D σ H → sDPut (tVar i) (tP G.K fk) (tD G f) D σ H := fun D σ H ⟨R, S, e, st, q⟩ => by
  refine ⟨R, S, e, st, ?_⟩
  unfold sdput at q
  cases hf : f e with
  | bad => rw [hf] at q; exact q.elim
  | err x e1 => rw [hf] at q; exact ErrP.of q
  | ok p =>
    obtain ⟨d, e1⟩ := p
    rw [hf] at q
    intro u H1 S3 S4 f1 n1
    dsimp only at q
    split at q
    · rename_i ks ds k hd hk0
      split at q
      · rename_i hlen
        have s := n1.drop
        obtain ⟨a, kvs, Sa, Sb, hv, ha, hs, k1, k2, k3, hk, hn, hr, er⟩ := s.ownD hd
        have wa : (fun b => S4 b ∨ R b) a := .inl (k1 a hs)
        have hz : Rp G.K H1 (fun b => S4 b ∨ R b) (frz d) noS u := Rp.frz d S3 u n1.rp fun a z => z.elim (fun y => ⟨.inr (.inl y), fun w => n1.d12 a w y⟩) fun y => ⟨.inr (.inr y), fun w => n1.dis a (.inl w) y⟩
        refine ⟨_, hv, R, S4, e1, _, s, hk0, fun w rw' => ⟨a, _, rfl, .inl ⟨kvs, kx k, ha, rw', by rw [kvs_len hk]; exact Nat.lt_of_lt_of_le hlen million, rfl⟩, ?_⟩⟩
        have st2 := s.wr (o := .dK (putK kvs (kx k) u)) (d' := .dic true (putKey ks k) (putVal k (frz d) ks ds)) hv hs k1 k2 k3 er ⟨a, _, rfl, ⟨upd_same, hs⟩, putK_keys hk k u, putKey_nodup hn, putK_vals hk hn (hr.keepU wa fun b z => z.2) (hz.keepU wa fun _ z => z.elim)⟩
        exact q σ _ S4 Pin.refl ((f1.wrT (k1 a hs)).less fun a z => .inr z) st2
      · exact q.elim
    · exact q.elim
/-- x.clear(), x a dict -/
def mdclear (i : Nat) : DF := fun e => match e[i]? with
  | some (some (.dic true ks ds)) => .ok (.non, e.set i (some (.dic true [] [])))
  | _ => .bad
theorem m_dclear {i : Nat} : ∀ σ H Q, tD G (mdclear i) σ H Q → tBM0 G.K "dict" rDClear (tVar i) σ H Q := fun σ H Q ⟨R, S, e, st, q⟩ => by
  unfold mdclear at q
  split at q
  · rename_i ks ds hd
    obtain ⟨a, kvs, Sa, Sb, hv, ha, hs, k1, k2, k3, hk, hn, hr, er⟩ := st.ownD hd
    refine ⟨_, hv, .inr (.inr (.inl ⟨rfl, .inl ⟨kvs, ha⟩⟩)), a, kvs, rfl, rfl, ha, ?_⟩
    have st2 := st.wr (o := .dK []) (d' := .dic true [] []) hv hs k1 k2 k3 er ⟨a, [], rfl, ⟨upd_same, hs⟩, rfl, List.nodup_nil, rfl⟩
    exact q .non _ noS S ((Fr.wr (k1 a hs)).less fun a z => z.elim (fun y => y.elim) id) (Ens.atom st2 rfl rfl)
  · exact q.elim
/-! ### .. one step down: x[j].pop(), x[j].append(f) -/
theorem Rps.focus {d : D} : ∀ {ds : List D} {S : AS} {vs : List V} {j : Nat}, Rps K H W ds S vs → ds[j]? = some d → ∃ (v : V) (Sj : AS), vs[j]? = some v ∧ (∀ b, Sj b → S b) ∧ Rp K H W d Sj v ∧
    ∀ (H' : Hp) (W' U : AS) (d' : D), Kp H H' W W' U → (∀ b, U b → Sj b) → Rp K H' W' d' Sj v → Rps K H' W' (ds.set j d') S vs
  | [], S, vs, j, h, hd => by simp at hd
  | d0 :: ds, S, vs, j, h, hd => by
    obtain ⟨v0, vr, T1, T2, e, t1, t2, t3, t4, t5⟩ := h
    subst e
    cases j with
    | zero =>
      simp at hd
      subst hd
      exact ⟨v0, T1, rfl, t1, t4, fun H' W' U d' k hu r => ⟨v0, vr, T1, T2, rfl, t1, t2, t3, r, Rps.keep k ds T2 T2 vr (fun _ z => z) (fun b z y => t3 b (hu b y) z) t5⟩⟩
    | succ j =>
      obtain ⟨v, Sj, h1, h2, h3, h4⟩ := Rps.focus t5 (by simpa using hd)
      exact ⟨v, Sj, by simpa using h1, fun b z => t2 b (h2 b z), h3, fun H' W' U d' k hu r => ⟨v0, vr, T1, T2, rfl, t1, t2, t3, Rp.keep k d0 T1 T1 v0 (fun _ z => z) (fun b z y => t3 b z (h2 b (hu b y))) t4, h4 H' W' U d' k hu r⟩⟩
/-- the slot's own list, its own list at j -/
theorem Sta.ownLL {i j : Nat} {ds cs : List D} (st : Sta K H R S e σ) (hd : e[i]? = some (some (.lst true ds))) (hj : ds[j]? = some (.lst true cs)) : ∃ (a b : Addr) (vs us : List V), σ[i]? = some (some (.ref a)) ∧ H a = some (.lst vs) ∧ vs[j]? = some (.ref b) ∧ H b = some (.lst us) ∧ S b ∧ us.length = cs.length ∧ vs.length = ds.length ∧
    ∃ T : AS, Rps K H (fun b => S b ∨ R b) cs T us ∧ (∀ x, T x → x ≠ b) ∧ ∀ (cs' : List D) (us' : List V), Rps K (upd H b (.lst us')) (fun b => S b ∨ R b) cs' T us' → Sta K (upd H b (.lst us')) R S (e.set i (some (.lst true (ds.set j (.lst true cs'))))) σ := by
  obtain ⟨a, vs, Sa, Sb, hv, ha, hs, k1, k2, k3, hr, er⟩ := st.ownL hd
  obtain ⟨v, Sj, h1, h2, h3, h4⟩ := hr.focus hj
  obtain ⟨b, us, rfl, ⟨hb, hsb⟩, hrb⟩ := h3
  have hba : b ≠ a := (h2 b hsb).2
  refine ⟨a, b, vs, us, hv, ha, h1, hb, k1 b (h2 b hsb).1, hrb.length, hr.length, fun x => Sj x ∧ x ≠ b, hrb, fun x z => z.2, fun cs' us' r => ?_⟩
  have kp : Kp H (upd H b (.lst us')) (fun b => S b ∨ R b) (fun b => S b ∨ R b) (fun x => x = b) := ⟨fun x o h n => by rw [upd_ne n]; exact h, fun x z => .inl (by rw [z]; exact k1 b (h2 b hsb).1), fun x z => .inl z⟩
  refine st.wr hv (h2 b hsb).1 k1 k2 k3 er ⟨a, vs, rfl, ⟨by rw [upd_ne (Ne.symm hba)]; exact ha, hs⟩, ?_⟩
  exact h4 _ _ _ _ kp (fun x z => by rw [z]; exact hsb) ⟨b, us', rfl, ⟨upd_same, hsb⟩, r⟩
def mpopP (i j : Nat) : DF := fun e => match e[i]? with
  | some (some (.lst true ds)) => (match ds[j]? with
    | some (.lst true cs) => (match cs[cs.length - 1]? with
      | some x => if isFrz x = true then .ok (x, e.set i (some (.lst true (ds.set j (.lst true cs.dropLast))))) else .bad
      | none => .bad)
    | _ => .bad)
  | _ => .bad
theorem at_nat {α : Type} {xs : List α} {j : Nat} {x : α} (h : xs[j]? = some x) : atI xs (j : Int) = some x := by
  have hl := (List.getElem?_eq_some_iff.mp h).1
  unfold atI ixN
  rw [if_pos (Int.natCast_nonneg j), if_pos (by omega)]
  exact h
theorem m_popP {i j : Nat} : ∀ σ H Q, tD G (mpopP i j) σ H Q → tBM0 G.K "list" rPop (tOp (rIx G.K) (tVar i) (tC (.int (j : Int)))) σ H Q := fun σ H Q ⟨R, S, e, st, q⟩ => by
  unfold mpopP at q
  split at q
  · rename_i ds hd
    split at q
    · rename_i cs hj
      split at q
      · rename_i x hx
        split at q
        · rename_i hc
          obtain ⟨a, b, vs, us, hv, ha, h1, hb, hsb, l1, l2, T, hr, hT, k⟩ := st.ownLL hd hj
          have wb : (fun b => S b ∨ R b) b := .inl hsb
          obtain ⟨y, hy, ry⟩ := hr.getS hx
          refine ⟨_, hv, .inl (.inl (.inl ⟨a, vs, _, .ref b, rfl, rfl, .inl (.inl ha), at_nat h1, .inl ⟨rfl, us, .inl (.inl hb)⟩, b, us, y, rfl, rfl, hb, by rw [l1]; exact hy, ?_⟩))⟩
          have st2 := k cs.dropLast us.dropLast (hr.keepU wb hT).dropLast
          have ry' : Rp G.K (upd H b (.lst us.dropLast)) (fun b => S b ∨ R b) x noS y := (Rp.nown x _ y hc ry).keepU wb fun _ z => z.elim
          exact q y _ noS S ((Fr.wr hsb).less fun a z => z.elim (fun y => y.elim) id) ⟨fun _ z => z.elim, fun a z => st2.dis a (z.elim (fun y => y.elim) id), fun a z => st2.trk a (z.elim (fun y => y.elim) id), ry'.mono (fun a z => z.elim (fun y => y.elim) id) fun _ z => z, st2.er.mono (fun a z => z.elim (fun y => y.elim) id) fun _ z => z⟩
        · exact q.elim
      · exact q.elim
    · exact q.elim
  · exact q.elim
def mappP (i j : Nat) (f : PF) : DF := fun e => match e[i]?, f e with
  | some (some (.lst true ds)), some x => (match ds[j]? with
    | some (.lst true cs) => if isFrz x = true ∧ cs.length < 1000000 then .ok (.non, e.set i (some (.lst true (ds.set j (.lst true (cs ++ [x])))))) else .bad
    | _ => .bad)
  | _, _ => .bad
theorem m_appP {i j : Nat} {f : PF} : ∀ σ H Q, tD G (mappP i j f) σ H Q → tBM G.K "list" rAppend (tOp (rIx G.K) (tVar i) (tC (.int (j : Int)))) (tCons (tP G.K f) tNil) σ H Q := fun σ H Q ⟨R, S, e, st, q⟩ => by
  unfold mappP at q
  split at q
  · rename_i ds x hd hx
    split at q
    · rename_i cs hj
      split at q
      · rename_i hc
        obtain ⟨a, b, vs, us, hv, ha, h1, hb, hsb, l1, l2, T, hr, hT, k⟩ := st.ownLL hd hj
        have wb : (fun b => S b ∨ R b) b := .inl hsb
        refine ⟨_, hv, .inl (.inl (.inl ⟨a, vs, _, .ref b, rfl, rfl, .inl (.inl ha), at_nat h1, .inl ⟨rfl, us, .inl (.inl hb)⟩, R, S, e, x, st, hx, fun u ru => ⟨b, us, u, rfl, rfl, hb, by rw [l1]; exact Nat.lt_of_lt_of_le hc.2 million, ?_⟩⟩))⟩
        have st2 := k (cs ++ [x]) (us ++ [u]) ((hr.keepU wb hT).snocO ((Rp.nown x _ u hc.1 ru).keepU wb fun _ z => z.elim))
        exact q .non _ noS S ((Fr.wr hsb).less fun a z => z.elim (fun y => y.elim) id) (Ens.atom st2 rfl rfl)
      · exact q.elim
    · exact q.elim
  · exact q.elim
end
end DL

namespace DL
open PySem L2 PyProof.Rows
section
variable {X : Cx} {K : PySem.W.Frag} {G : Cfg} {H H' H1 : Hp} {R W W1 S S1 S2 : AS} {pn : List Nat} {e : Env} {σ : L2.St}
/-! ### more that is walked -/
/-- a text by its signs -/
def signsD (x : List Nat) : List D := x.map fun c => .str [c]
theorem itr_str {x : List Nat} : ItrOk K (Its (Sx x)) H1 W1 (signsD x) := fun H' W' k1 k2 k3 => by
  refine ⟨fun i hi => ?_, fun i d hd => ?_⟩
  · show (Sx x).cps.size ≤ i
    simpa [signsD, Sx] using hi
  · have hi : i < x.length := by have := (List.getElem?_eq_some_iff.mp hd).1; simpa [signsD] using this
    have ex : x[i]? = some x[i] := List.getElem?_eq_getElem hi
    have e1 : d = .str [x[i]] := by
      unfold signsD at hd
      rw [List.getElem?_map, ex] at hd
      exact (Option.some.inj hd).symm
    subst e1
    refine ⟨by show i < (Sx x).cps.size; simpa [Sx] using hi, fun v H'' y => ?_⟩
    obtain ⟨e1, c, hc, ev⟩ := y
    subst e1 ev
    have : c = x[i] := by
      have q : x[i]? = some c := by simpa [Sx] using hc
      rw [ex] at q
      exact (Option.some.inj q).symm
    subst this
    exact ⟨fun _ _ h => h, rfl⟩
def srcS (f : PF) : SrcF := fun e => match f e with
  | some (.str x) => .ok (signsD x, e)
  | _ => .bad
theorem i_str {f : PF} : ∀ σ H Q, tI G (srcS f) σ H Q → iStr (tP G.K f) σ H Q := fun σ H Q ⟨R, S, e, st, q⟩ => by
  unfold srcS at q
  split at q
  · rename_i x hf
    exact ⟨R, S, e, _, st, hf, fun v rv => ⟨Sx x, rv, q _ H S Fr.refl st itr_str⟩⟩
  · exact q.elim
/-- a new pair -/
theorem pair_new {T : Addr} {x y : V} {a b : D} (hT : H T = none) (trk : ∀ a, W a → H a ≠ none) (ra : Rp K H W a noS x) (rb : Rp K H W b noS y) :
    (∀ c o, H c = some o → upd H T (.tup [x, y]) c = some o) ∧ Rp K (upd H T (.tup [x, y])) W (.tup [a, b]) noS (.ref T) := by
  have k : ∀ c o, H c = some o → upd H T (.tup [x, y]) c = some o := fun c o h => by rw [upd_ne (ne_of_none h hT)]; exact h
  have kp : Kp H (upd H T (.tup [x, y])) W W noS := ⟨fun c o h _ => k c o h, fun _ z => z.elim, fun _ z => .inl z⟩
  refine ⟨k, T, [x, y], rfl, .inl ⟨.inl upd_same, fun z => trk T z hT⟩, x, [y], noS, noS, rfl, fun _ z => z, fun _ z => z, fun _ z => z.elim, Rp.keep kp a noS noS x (fun _ z => z) (fun _ z => z.elim) ra, y, [], noS, noS, rfl, fun _ z => z, fun _ z => z, fun _ z => z.elim, Rp.keep kp b noS noS y (fun _ z => z) (fun _ z => z.elim) rb, rfl⟩
def enumD : Nat → List D → List D
  | _, [] => []
  | n, d :: ds => .tup [.int n, d] :: enumD (n + 1) ds
theorem enumD_get : ∀ {ds : List D} {n i : Nat} {d : D}, (enumD n ds)[i]? = some d → ∃ d', ds[i]? = some d' ∧ d = .tup [.int ((n + i : Nat) : Int), d']
  | [], n, i, d, h => by simp [enumD] at h
  | d0 :: ds, n, 0, d, h => by
    simp [enumD] at h
    exact ⟨d0, rfl, by rw [← h]; rfl⟩
  | d0 :: ds, n, i + 1, d, h => by
    obtain ⟨d', h1, h2⟩ := enumD_get (ds := ds) (n := n + 1) (i := i) (by simpa [enumD] using h)
    exact ⟨d', by simpa using h1, by rw [h2]; congr 3; omega⟩
theorem enumD_len : ∀ (ds : List D) (n : Nat), (enumD n ds).length = ds.length
  | [], n => rfl
  | d :: ds, n => by rw [enumD, List.length_cons, List.length_cons, enumD_len ds]
theorem itr_enum {a : Addr} {vs : List V} {ds : List D} (h : H1 a = some (.lst vs)) (hw : ¬ W1 a) (r : Rps K H1 W1 ds noS vs) : ItrOk K (Ite K a) H1 W1 (enumD 0 ds) := fun H' W' k1 k2 k3 => by
  have kp : Kp H1 H' W1 W' W1 := ⟨k1, fun _ z => z, k2⟩
  have hq : SqL K H' a vs := .inl (.inl (kp.wr1 h hw).1)
  have hl := r.length
  have r' : Rps K H' W' ds noS vs := Rps.keep kp ds noS noS vs (fun _ z => z) (fun _ z => z.elim) r
  refine ⟨fun i hi => ⟨vs, hq, by rw [enumD_len] at hi; omega⟩, fun i d hd => ?_⟩
  obtain ⟨d', hd', ed⟩ := enumD_get hd
  subst ed
  obtain ⟨v, hv, rv⟩ := r'.get hd'
  refine ⟨⟨vs, v, hq, hv⟩, fun x H'' y => ?_⟩
  obtain ⟨T, z, ex, hT, eH, hz⟩ := y
  have e2 := hz vs hq
  rw [hv] at e2
  cases e2
  subst ex eH
  rw [Nat.zero_add]
  exact pair_new hT k3 rfl rv
def srcE (fs : DFs) : SrcF := fun e => (fs e).bind fun (ds, e1) => match ds with
  | [.lst _ xs] => .ok (enumD 0 (frzs xs), e1)
  | _ => .bad
theorem i_enum {fs : DFs} : ∀ σ H Q, tI G (srcE fs) σ H Q → iEnum G.K (tDs G fs) σ H Q := fun σ H Q ⟨R, S, e, st, q⟩ => by
  refine ⟨R, S, e, st, ?_⟩
  unfold srcE at q
  cases hf : fs e with
  | bad => rw [hf] at q; exact q.elim
  | err x e1 => rw [hf] at q; exact q
  | ok p =>
    obtain ⟨ds, e1⟩ := p
    rw [hf] at q
    dsimp only [Res.bind] at q
    intro vs H1 S1 S2 f1 n
    split at q
    · rename_i o xs
      have hz := Rps.frz (W' := fun a => S2 a ∨ R a) _ S1 vs n.rp fun a z => z.elim (fun y => ⟨.inr (.inl y), fun w => n.d12 a w y⟩) fun y => ⟨.inr (.inr y), fun w => n.dis a (.inl w) y⟩
      obtain ⟨v, vr, _, _, ev, h1, _, _, ⟨a, us, rfl, ht, hr⟩, h5⟩ := hz
      have h5' : vr = [] := h5
      subst h5' ev
      exact ⟨a, us, rfl, .inl (.inl ht.1), q _ H1 S2 (f1.less fun _ z => .inr z) n.drop (itr_enum ht.1 ht.2 (hr.mono (fun _ z => z) fun _ z => z))⟩
    · exact q.elim
def zipD : List D → List D → List D
  | x :: xs, y :: ys => .tup [x, y] :: zipD xs ys
  | _, _ => []
theorem zipD_get : ∀ {xs ys : List D} {i : Nat} {d : D}, (zipD xs ys)[i]? = some d → ∃ x y, xs[i]? = some x ∧ ys[i]? = some y ∧ d = .tup [x, y]
  | [], ys, i, d, h => by simp [zipD] at h
  | x :: xs, [], i, d, h => by simp [zipD] at h
  | x :: xs, y :: ys, 0, d, h => by simp [zipD] at h; exact ⟨x, y, rfl, rfl, h.symm⟩
  | x :: xs, y :: ys, i + 1, d, h => by
    obtain ⟨a, b, h1, h2, h3⟩ := zipD_get (xs := xs) (ys := ys) (i := i) (by simpa [zipD] using h)
    exact ⟨a, b, by simpa using h1, by simpa using h2, h3⟩
theorem zipD_len : ∀ (xs ys : List D), (zipD xs ys).length = min xs.length ys.length
  | [], ys => by simp [zipD]
  | x :: xs, [] => by simp [zipD]
  | x :: xs, y :: ys => by rw [zipD, List.length_cons, List.length_cons, List.length_cons, zipD_len xs ys]; omega
theorem itr_zip {a b : Addr} {vs us : List V} {ds cs : List D} (h : H1 a = some (.lst vs)) (hw : ¬ W1 a) (r : Rps K H1 W1 ds noS vs) (h2 : H1 b = some (.lst us)) (hw2 : ¬ W1 b) (r2 : Rps K H1 W1 cs noS us) : ItrOk K (Itz K a b) H1 W1 (zipD ds cs) := fun H' W' k1 k2 k3 => by
  have kp : Kp H1 H' W1 W' W1 := ⟨k1, fun _ z => z, k2⟩
  have hq : SqL K H' a vs := .inl (.inl (kp.wr1 h hw).1)
  have hq2 : SqL K H' b us := .inl (.inl (kp.wr1 h2 hw2).1)
  have hl := r.length
  have hl2 := r2.length
  have r' : Rps K H' W' ds noS vs := Rps.keep kp ds noS noS vs (fun _ z => z) (fun _ z => z.elim) r
  have r2' : Rps K H' W' cs noS us := Rps.keep kp cs noS noS us (fun _ z => z) (fun _ z => z.elim) r2
  refine ⟨fun i hi => ⟨vs, us, hq, hq2, by rw [zipD_len] at hi; omega⟩, fun i d hd => ?_⟩
  obtain ⟨x, y, hx, hy, ed⟩ := zipD_get hd
  subst ed
  obtain ⟨v, hv, rv⟩ := r'.get hx
  obtain ⟨u, hu, ru⟩ := r2'.get hy
  refine ⟨⟨vs, us, v, u, hq, hq2, hv, hu⟩, fun x H'' y => ?_⟩
  obtain ⟨T, z1, z2, ex, hT, eH, hz1, hz2⟩ := y
  have e2 := hz1 vs hq
  have e3 := hz2 us hq2
  rw [hv] at e2
  rw [hu] at e3
  cases e2
  cases e3
  subst ex eH
  exact pair_new hT k3 rv ru
def srcZ (fs : DFs) : SrcF := fun e => (fs e).bind fun (ds, e1) => match ds with
  | [.lst _ xs, .lst _ ys] => .ok (zipD (frzs xs) (frzs ys), e1)
  | _ => .bad
theorem i_zip {fs : DFs} : ∀ σ H Q, tI G (srcZ fs) σ H Q → iZip G.K (tDs G fs) σ H Q := fun σ H Q ⟨R, S, e, st, q⟩ => by
  refine ⟨R, S, e, st, ?_⟩
  unfold srcZ at q
  cases hf : fs e with
  | bad => rw [hf] at q; exact q.elim
  | err x e1 => rw [hf] at q; exact q
  | ok p =>
    obtain ⟨ds, e1⟩ := p
    rw [hf] at q
    dsimp only [Res.bind] at q
    intro vs H1 S1 S2 f1 n
    split at q
    · rename_i o xs o2 ys
      have hz := Rps.frz (W' := fun a => S2 a ∨ R a) _ S1 vs n.rp fun a z => z.elim (fun y => ⟨.inr (.inl y), fun w => n.d12 a w y⟩) fun y => ⟨.inr (.inr y), fun w => n.dis a (.inl w) y⟩
      obtain ⟨v, vr, _, _, ev, _, _, _, ⟨a, us, rfl, ht, hr⟩, h5⟩ := hz
      obtain ⟨w, wr, _, _, ew, _, _, _, ⟨b, ws, rfl, ht2, hr2⟩, h6⟩ := h5
      have h6' : wr = [] := h6
      subst h6' ew ev
      exact ⟨a, b, us, ws, rfl, .inl (.inl ht.1), .inl (.inl ht2.1), q _ H1 S2 (f1.less fun _ z => .inr z) n.drop (itr_zip ht.1 ht.2 (hr.mono (fun _ z => z) fun _ z => z) ht2.1 ht2.2 (hr2.mono (fun _ z => z) fun _ z => z))⟩
    · exact q.elim

/-! ### dicts walked in a comprehension: locked meanwhile -/
/-- the two heaps differ at d alone, a dict, locked in the one -/
structure Swp (d : Addr) (kvs : List (Key × V)) (H H' : Hp) : Prop where
  out : ∀ a, a ≠ d → H' a = H a
  this : Rd H d (.dK kvs)
  that : Rd H' d (.dK kvs)
theorem Rd.uniq {d : Addr} {u w : HO} (h : Rd H d u) (h' : Rd H d w) (n1 : ∀ o z, u ≠ .frz o z) (n2 : ∀ o z, w ≠ .frz o z) : u = w := by
  rcases h with h | ⟨o, h⟩ <;> rcases h' with h' | ⟨o', h'⟩ <;> rw [h] at h'
  · exact Option.some.inj h'
  · exact absurd (Option.some.inj h') (n1 _ _)
  · exact absurd (Option.some.inj h').symm (n2 _ _)
  · have := Option.some.inj h'
    cases this
    rfl
theorem Swp.rd {d a : Addr} {kvs : List (Key × V)} {u : HO} (s : Swp d kvs H H') (h : Rd H a u) (hn : ∀ o z, u ≠ .frz o z) : Rd H' a u := by
  by_cases e : a = d
  · subst e
    have e2 := Rd.uniq h s.this hn (fun _ _ z => nomatch z)
    subst e2
    exact s.that
  · unfold Rd
    rw [s.out a e]
    exact h
mutual
theorem Rp.swap {d : Addr} {kvs : List (Key × V)} (s : Swp d kvs H H') (hd : ¬ W d) : ∀ (x : D) (S : AS) (v : V), (∀ b, S b → W b) → Rp K H W x S v → Rp K H' W x S v
  | .non, _, _, _, h => h
  | .bl _, _, _, _, h => h
  | .int _, _, _, _, h => h
  | .str _, _, _, _, h => h
  | .tup ds, S, v, hs, h => by
    obtain ⟨a, vs, e, ht, hr⟩ := h
    refine ⟨a, vs, e, ?_, Rps.swap s hd ds noS vs (fun _ z => z.elim) hr⟩
    rcases ht with ⟨h1, h2⟩ | h1
    · exact .inl ⟨s.rd h1 (fun _ _ z => nomatch z), h2⟩
    · exact .inr h1
  | .otu ds, S, v, hs, h => by
    obtain ⟨a, vs, e, ⟨h1, h2⟩, hr⟩ := h
    exact ⟨a, vs, e, ⟨s.rd h1 (fun _ _ z => nomatch z), h2⟩, Rps.swap s hd ds _ vs hs hr⟩
  | .lst o ds, S, v, hs, h => by
    obtain ⟨a, vs, e, ht, hr⟩ := h
    refine ⟨a, vs, e, ?_, Rps.swap s hd ds _ vs (fun b z => hs b (sub_sub b z)) hr⟩
    have na : a ≠ d := fun z => by
      have h1 := ht.at
      rw [z] at h1
      rcases s.this with h2 | ⟨o, h2⟩ <;> rw [h1] at h2 <;> cases h2
    cases o with
    | false => exact ⟨by rw [s.out a na]; exact ht.1, ht.2⟩
    | true => exact ⟨by rw [s.out a na]; exact ht.1, ht.2⟩
  | .dic o ks ds, S, v, hs, h => by
    obtain ⟨a, kvs', e, ht, hk, hn, hr⟩ := h
    refine ⟨a, kvs', e, ?_, hk, hn, Rps.swap s hd ds _ _ (fun b z => hs b (sub_sub b z)) hr⟩
    cases o with
    | false => exact ⟨s.rd ht.1 (fun _ _ z => nomatch z), ht.2⟩
    | true =>
      have na : a ≠ d := fun z => hd (by rw [← z]; exact hs a ht.2)
      exact ⟨by rw [s.out a na]; exact ht.1, ht.2⟩
  | .scr ns, S, v, hs, h => by
    obtain ⟨a, e, h1⟩ := h
    exact ⟨a, e, h1.imp (fun z => ⟨s.rd z.1 (fun _ _ z => nomatch z), z.2⟩) id⟩
theorem Rps.swap {d : Addr} {kvs : List (Key × V)} (s : Swp d kvs H H') (hd : ¬ W d) : ∀ (xs : List D) (S : AS) (vs : List V), (∀ b, S b → W b) → Rps K H W xs S vs → Rps K H' W xs S vs
  | [], _, _, _, h => h
  | x :: xs, S, vs, hs, h => by
    obtain ⟨v, vr, S1, S2, e, h1, h2, h3, h4, h5⟩ := h
    exact ⟨v, vr, S1, S2, e, h1, h2, h3, Rp.swap s hd x S1 v (fun b z => hs b (h1 b z)) h4, Rps.swap s hd xs S2 vr (fun b z => hs b (h2 b z)) h5⟩
end
theorem Er.swap {d : Addr} {kvs : List (Key × V)} (s : Swp d kvs H H') (hd : ¬ W d) : ∀ (e : Env) (S : AS) (σ : L2.St), (∀ b, S b → W b) → Er K H W e S σ → Er K H' W e S σ
  | [], _, _, _, h => h
  | none :: e, S, σ, hs, h => by
    obtain ⟨o, r, e1, k⟩ := h
    exact ⟨o, r, e1, Er.swap s hd e S r hs k⟩
  | some x :: e, S, σ, hs, h => by
    obtain ⟨v, r, S1, S2, e1, h1, h2, h3, h4, h5⟩ := h
    exact ⟨v, r, S1, S2, e1, h1, h2, h3, Rp.swap s hd x S1 v (fun b z => hs b (h1 b z)) h4, Er.swap s hd e S2 r (fun b z => hs b (h2 b z)) h5⟩
theorem Swp.there {d : Addr} {kvs : List (Key × V)} (s : Swp d kvs H H') {a : Addr} (h : H a ≠ none) : H' a ≠ none := by
  by_cases e : a = d
  · subst e
    rcases s.that with h | ⟨o, h⟩ <;> rw [h] <;> exact fun z => by cases z
  · rw [s.out a e]; exact h
theorem Sta.swap {d : Addr} {kvs : List (Key × V)} (s : Swp d kvs H H') (hd : ¬ (S d ∨ R d)) (st : Sta K H R S e σ) : Sta K H' R S e σ :=
  ⟨st.dis, fun a z => s.there (st.trk a z), Er.swap s hd e S σ (fun b z => .inl z) st.er⟩
/-- how a dict is walked -/
inductive DW where
  | keys | vals | items
def dwD : DW → List (List Nat) → List D → List D
  | .keys, ks, _ => ks.map .str
  | .vals, _, ds => ds
  | .items, ks, ds => zipD (ks.map .str) ds
def dwJ (d : Addr) (o : Obj) (kvs : List (Key × V)) : DW → It
  | .keys => Itk d o kvs
  | .vals => Itd d o kvs
  | .items => Iti d o kvs
def dwI : DW → TE → TI
  | .keys => iKeys
  | .vals => iVals
  | .items => iItems
theorem kvs_at {kvs : List (Key × V)} {ks : List (List Nat)} (h : kvs.map (·.1) = ks.map kx) {i : Nat} {k : List Nat} (hk : ks[i]? = some k) : ∃ v, kvs[i]? = some (kx k, v) := by
  have e : (kvs.map (·.1))[i]? = some (kx k) := by rw [h, List.getElem?_map, hk]; rfl
  rw [List.getElem?_map] at e
  obtain ⟨p, h1, h2⟩ := Option.map_eq_some_iff.mp e
  exact ⟨p.2, by rw [h1, ← h2]⟩
theorem itr_dict {d : Addr} {o : Obj} {kvs : List (Key × V)} {ks : List (List Nat)} {ds : List D} (w : DW) (hd : H1 d = some (.frz o (.dK kvs))) (hw : ¬ W1 d) (hk : kvs.map (·.1) = ks.map kx) (r : Rps K H1 W1 ds noS (kvs.map (·.2))) :
    ItrOk K (dwJ d o kvs w) H1 W1 (dwD w ks ds) := fun H' W' k1 k2 k3 => by
  have kp : Kp H1 H' W1 W' W1 := ⟨k1, fun _ z => z, k2⟩
  have hq : H' d = some (.frz o (.dK kvs)) := (kp.wr1 hd hw).1
  have r' : Rps K H' W' ds noS (kvs.map (·.2)) := Rps.keep kp ds noS noS _ (fun _ z => z) (fun _ z => z.elim) r
  have hl : kvs.length = ks.length := kvs_len hk
  have hl2 : kvs.length = ds.length := by have := r.length; rwa [List.length_map] at this
  cases w with
  | keys =>
    refine ⟨fun i hi => ⟨hq, by have : (ks.map D.str).length ≤ i := hi; rw [List.length_map] at this; omega⟩, fun i x hx => ?_⟩
    have hx' : (ks.map D.str)[i]? = some x := hx
    rw [List.getElem?_map] at hx'
    obtain ⟨k, h1, h2⟩ := Option.map_eq_some_iff.mp hx'
    subst h2
    obtain ⟨v, hv⟩ := kvs_at hk h1
    refine ⟨⟨hq, (List.getElem?_eq_some_iff.mp hv).1⟩, fun y H'' q => ?_⟩
    obtain ⟨e1, k', v', h3, h4⟩ := q
    rw [hv] at h3
    cases h3
    subst e1
    exact ⟨fun _ _ h => h, h4⟩
  | vals =>
    refine ⟨fun i hi => ⟨hq, by have : ds.length ≤ i := hi; omega⟩, fun i x hx => ?_⟩
    have hx' : ds[i]? = some x := hx
    obtain ⟨v, hv, rv⟩ := r'.get hx'
    rw [List.getElem?_map] at hv
    obtain ⟨p, h1, h2⟩ := Option.map_eq_some_iff.mp hv
    refine ⟨⟨hq, (List.getElem?_eq_some_iff.mp h1).1⟩, fun y H'' q => ?_⟩
    obtain ⟨e1, k', h3⟩ := q
    rw [h1] at h3
    have e2 : p = (k', y) := Option.some.inj h3
    subst e2
    subst e1
    exact ⟨fun _ _ h => h, by have h2' : y = v := h2; rw [h2']; exact rv⟩
  | items =>
    refine ⟨fun i hi => ⟨hq, by have : (zipD (ks.map .str) ds).length ≤ i := hi; rw [zipD_len, List.length_map] at this; omega⟩, fun i x hx => ?_⟩
    obtain ⟨a, b, ha, hb, ed⟩ := zipD_get (show (zipD (ks.map .str) ds)[i]? = some x from hx)
    subst ed
    rw [List.getElem?_map] at ha
    obtain ⟨k, h1, h2⟩ := Option.map_eq_some_iff.mp ha
    subst h2
    obtain ⟨v, hv, rv⟩ := r'.get hb
    obtain ⟨w, hw'⟩ := kvs_at hk h1
    rw [List.getElem?_map, hw'] at hv
    have ew : w = v := Option.some.inj hv
    subst ew
    refine ⟨⟨hq, (List.getElem?_eq_some_iff.mp hw').1⟩, fun y H'' q => ?_⟩
    obtain ⟨T, k', v', h3, h4, h5, h6⟩ := q
    rw [hw'] at h3
    cases h3
    subst h4 h6
    exact pair_new h5 k3 rfl rv
/-- a name that is a dict: from then on nobody changes it -/
def srcD (w : DW) (i : Nat) : SrcF := fun e => match e[i]? with
  | some (some (.dic _ ks ds)) => .ok (dwD w ks (frzs ds), e.set i (some (.dic false ks (frzs ds))))
  | _ => .bad
theorem dwI_of {w : DW} {i : Nat} {Q : It → Hp → Prop} {d : Addr} {o : Obj} {kvs : List (Key × V)} (hv : σ[i]? = some (some (.ref d))) (hd : H d = some (.frz o (.dK kvs))) (h : Q (dwJ d o kvs w) H) : dwI w (tVar i) σ H Q := by
  cases w with
  | keys => exact ⟨_, hv, d, o, rfl, .inl ⟨kvs, hd, h⟩⟩
  | vals => exact ⟨_, hv, d, o, kvs, rfl, hd, h⟩
  | items => exact ⟨_, hv, d, o, kvs, rfl, hd, h⟩
/-- over a dict, locked now or before -/
def tLcD (w : DW) (i : Nat) (g : TG) (tt : TT) (te : TE) (vs : List Nat) : TE := fun σ H Q => tLockE (tLc (dwI w (tVar i)) g tt te vs) σ H Q ∨ tLc (dwI w (tVar i)) g tt te vs σ H Q
theorem d_compD {w : DW} {i : Nat} {b : BF} {tst : TF} {elt : DF} {g : TG} {vs : List Nat} {G0 : Cfg} (hK : G0.K = G.K) (hg : TgR G.K [] vs g b) :
    ∀ σ H Q, tD G (dcomp (srcD w i) b tst elt vs) σ H Q → tLcD w i g (tT G0 tst) (tD G0 elt) vs σ H Q := fun σ H Q ⟨R, S, e, st, q⟩ => by
  unfold dcomp srcD at q
  split at q
  · rename_i p ks ds hs
    obtain ⟨v, Sa, Sb, hv, h1, h2, h3, h4, h5⟩ := st.er.get hs
    have hw : ∀ a, (Sb a ∨ R a) → (S a ∨ R a) ∧ ¬ Sa a := fun a z => z.elim (fun y => ⟨.inl (h2 a y), fun w => h3 a w y⟩) fun y => ⟨.inr y, fun w => st.dis a (h1 a w) y⟩
    have hz : Rp G.K H (fun a => Sb a ∨ R a) (.dic false ks (frzs ds)) noS v := Rp.frz _ Sa v h4 hw
    have st1 : Sta G.K H R Sb (e.set i (some (.dic false ks (frzs ds)))) σ := ⟨fun a z => st.dis a (h2 a z), fun a z => st.trk a (z.imp (h2 a) id), Er.back (h5.mono (fun a z => (hw a z).1) fun _ z => z) hv hz (fun _ z => z.elim) (fun _ z => z) fun _ z => z.elim⟩
    obtain ⟨d, kvs, rfl, hd, hk, hn, hr⟩ := hz
    obtain ⟨hd, hdW⟩ := hd
    have q1 : DEnd G R Sb σ H Q (compR b tst elt vs (dwD w ks (frzs ds)) (e.set i (some (.dic false ks (frzs ds))))) := DEnd.later q ⟨fun _ _ h _ => h, fun a z => .inl (h2 a z)⟩
    rcases hd with hd | ⟨od, hd⟩
    · refine .inl ⟨d, .dK kvs, hd, trivial, fun od => ?_⟩
      have sw : Swp d kvs H (upd H d (.frz od (.dK kvs))) := ⟨fun a n => upd_ne n, .inl hd, .inr ⟨od, upd_same⟩⟩
      have st2 := st1.swap sw hdW
      have io := itr_dict (K := G.K) (o := od) (H1 := upd H d (.frz od (.dK kvs))) w upd_same hdW hk (Rps.swap sw hdW _ _ _ (fun _ z => z.elim) hr)
      have c : LcEnd (dwJ d od kvs w) (upd H d (.frz od (.dK kvs))) g (tT G0 tst) (tD G0 elt) vs σ (fun v H' => H' d = some (.frz od (.dK kvs)) ∧ Q v (upd H' d (.dK kvs))) := by
       refine comp_core hK hg st2 io ?_
       unfold compR at q1 ⊢
       split at q1
       · rename_i hl
         rw [if_pos hl]
         split at q1
         · rename_i xs e2 hc
           intro v2 H2 T1 T2 f n
           have nd : ¬ Sb d := fun z => hdW (.inl z)
           have hd2 : H2 d = some (.frz od (.dK kvs)) := f.keep d _ upd_same nd
           have nW : ¬ (T1 d ∨ T2 d ∨ R d) := fun z => by
             rcases z with z | z | z
             · exact (f.new d (.inl z)).elim nd fun y => by rw [upd_same] at y; cases y
             · exact (f.new d (.inr z)).elim nd fun y => by rw [upd_same] at y; cases y
             · exact hdW (.inr z)
           have sw2 : Swp d kvs H2 (upd H2 d (.dK kvs)) := ⟨fun a n => upd_ne n, .inr ⟨od, hd2⟩, .inl upd_same⟩
           refine ⟨hd2, q1 v2 _ T1 T2 ⟨fun a o h hs => ?_, fun a z => ?_⟩ ⟨n.d12, n.dis, fun a z => sw2.there (n.trk a z), Rp.swap sw2 nW _ T1 v2 (fun b z => .inl z) n.rp, Er.swap sw2 nW _ T2 σ (fun b z => .inr (.inl z)) n.er⟩⟩
           · by_cases ha : a = d
             · subst ha
               rw [hd] at h
               rw [← h, upd_same]
             · rw [upd_ne ha]
               exact f.keep a o (by rw [upd_ne ha]; exact h) hs
           · rcases f.new a z with y | y
             · exact .inl y
             · by_cases ha : a = d
               · subst ha
                 rw [upd_same] at y
                 cases y
               · rw [upd_ne ha] at y
                 exact .inr y
         · exact q1.elim
       · exact q1.elim
      exact dwI_of hv upd_same c
    · have c : LcEnd (dwJ d od kvs w) H g (tT G0 tst) (tD G0 elt) vs σ Q := comp_core hK hg st1 (itr_dict (K := G.K) w hd hdW hk hr) q1
      exact .inr (dwI_of hv hd c)
  · exact q.elim
end
end DL

namespace DL
open PySem PySem.Spec PyProof.Rows L2
/-! ### the head: a Hook of my own, with constants as trees -/
mutual
def repB (K : PySem.W.Frag) : D → Value → Bool
  | .non, .none => true
  | .bl b, .bool c => b == c
  | .int i, .int j _ => decide (i = j)
  | .str x, .str y _ => decide (Sx x = y)
  | .tup ds, .ref a => (match K.lookup a with
    | some ⟨.type c, _, .seq its _, _⟩ => decide (c = "tuple") && (decide (its.size ≤ sizeLine) && repBs K ds its.toList)
    | _ => false)
  | _, _ => false
def repBs (K : PySem.W.Frag) : List D → List Value → Bool
  | [], [] => true
  | d :: ds, v :: vs => repB K d v && repBs K ds vs
  | _, _ => false
end
theorem and2 {a b : Bool} (h : (a && b) = true) : a = true ∧ b = true := by
  rw [Bool.and_eq_true] at h; exact h
mutual
theorem repB_ok {K : PySem.W.Frag} : ∀ (d : D) (u : Value), repB K d u = true → ∃ v, RelV v u ∧ ∀ (H : Hp) (W : AS), Rp K H W d noS v
  | .non, u, h => by
    cases u <;> first | exact ⟨.non, rfl, fun _ _ => rfl⟩ | cases h
  | .bl b, u, h => by
    cases u with
    | bool c =>
      have e : b = c := eq_of_beq h
      subst e
      exact ⟨.bl b, rfl, fun _ _ => rfl⟩
    | _ => cases h
  | .int i, u, h => by
    cases u with
    | int j t =>
      have e : i = j := of_decide_eq_true h
      subst e
      exact ⟨.int i, ⟨t, rfl⟩, fun _ _ => rfl⟩
    | _ => cases h
  | .str x, u, h => by
    cases u with
    | str y t =>
      have e : Sx x = y := of_decide_eq_true h
      subst e
      exact ⟨.str (Sx x), ⟨t, rfl⟩, fun _ _ => rfl⟩
    | _ => cases h
  | .tup ds, u, h => by
    cases u with
    | ref a =>
      have h1 : (match K.lookup a with
        | some ⟨.type c, _, .seq its _, _⟩ => decide (c = "tuple") && (decide (its.size ≤ sizeLine) && repBs K ds its.toList)
        | _ => false) = true := h
      cases q : K.lookup a with
      | none => rw [q] at h1; cases h1
      | some o =>
        obtain ⟨oc, od, dt, osl⟩ := o
        rw [q] at h1
        cases oc with
        | type c =>
          cases dt with
          | seq its n =>
            obtain ⟨h2, h3⟩ := and2 (show (decide (c = "tuple") && (decide (its.size ≤ sizeLine) && repBs K ds its.toList)) = true from h1)
            obtain ⟨h4, h5⟩ := and2 h3
            obtain ⟨vs, r1, r2⟩ := repBs_ok ds its.toList h5
            exact ⟨.ref a, rfl, fun H W => ⟨a, vs, rfl, .inr ⟨_, its, n, q, congrArg Value.type (of_decide_eq_true h2), rfl, of_decide_eq_true h4, r1⟩, r2 H W⟩⟩
          | _ => cases h1
        | _ => cases dt <;> cases h1
    | _ => cases h
  | .lst o ds, u, h => by cases u <;> cases h
  | .dic o ks ds, u, h => by cases u <;> cases h
  | .scr ns, u, h => by cases u <;> cases h
theorem repBs_ok {K : PySem.W.Frag} : ∀ (ds : List D) (us : List Value), repBs K ds us = true → ∃ vs, Vals vs us ∧ ∀ (H : Hp) (W : AS), Rps K H W ds noS vs
  | [], us, h => by
    cases us with
    | nil => exact ⟨[], .nil, fun _ _ => rfl⟩
    | cons _ _ => cases h
  | d :: ds, us, h => by
    cases us with
    | nil => cases h
    | cons u us =>
      obtain ⟨h1, h2⟩ := and2 (show (repB K d u && repBs K ds us) = true from h)
      obtain ⟨v, r1, r2⟩ := repB_ok d u h1
      obtain ⟨vs, r3, r4⟩ := repBs_ok ds us h2
      exact ⟨v :: vs, .cons r1 r3, fun H W => ⟨v, vs, noS, noS, rfl, fun _ z => z, fun _ z => z, fun _ z => z.elim, r2 H W, r4 H W⟩⟩
end
/-- the module's name x is the constant d -/
def conB (K : PySem.W.Frag) (p : Str × D) : Bool := match PySem.W.nsIn K mainGlobals p.1 with
  | some (some u) => repB K p.2 u
  | _ => false
theorem conB_ok {K : PySem.W.Frag} {h : Heap} {mg : Str → Option Value} (X : K.In h) (G : h.Ns mainGlobals mg) {x : Str} {d : D} (c : conB K (x, d) = true) : ∃ u v, mg x = some u ∧ RelV v u ∧ ∀ (H : Hp) (W : AS), Rp K H W d noS v := by
  unfold conB at c
  cases q : PySem.W.nsIn K mainGlobals x with
  | none => rw [q] at c; cases c
  | some r =>
    rw [q] at c
    cases r with
    | none => cases c
    | some u =>
      obtain ⟨v, r1, r2⟩ := repB_ok d u c
      exact ⟨u, v, PySem.W.mg_of X G q, r1, r2⟩
def obsX (fa : List He.Fa) (cs : List (Str × D)) (fn : List He.DefD) (K : PySem.W.Frag) : He.AlD := ((fa.all fun f => f.ok K) && ((cs.all fun p => conB K p) && fn.all fun d => d.ok K), fn.map fun d => He.fnW K d.at_)
def obsXG (n : Nat) (fa : List He.Fa) (cs : List (Str × D)) (fn : List He.DefD) (g : Addr → Option Obj) : He.AlD := obsX fa cs fn (He.frG g (He.asD g n))
def SaysX (fa : List He.Fa) (cs : List (Str × D)) (fn : List He.DefD) (K : PySem.W.Frag) : Prop := obsX fa cs fn K = He.valD fn
def hookX (n : Nat) (fa : List He.Fa) (cs : List (Str × D)) (fn : List He.DefD) : PySem.W.Hook where
  α := He.AlD
  obs := fun s => obsXG n fa cs fn s.heap.get?
  val := fun _ => He.valD fn
  says := fun _ h => ∃ K : PySem.W.Frag, K.In h ∧ SaysX fa cs fn K
  of := fun _ _ e => ⟨_, He.frG_in, e⟩
  keeps := fun _ _ _ ⟨K, hK, c⟩ k => ⟨K, PySem.W.Frag.In.keeps hK k, c⟩
theorem obsXG_eq {n : Nat} {fa : List He.Fa} {cs : List (Str × D)} {fn : List He.DefD} {g : Addr → Option Obj} {s : Shared} (h : ∀ a, g a = s.heap.get? a) : obsXG n fa cs fn g = (hookX n fa cs fn).obs s := by
  have e : g = s.heap.get? := funext h
  subst e
  rfl
section
variable {fa : List He.Fa} {cs : List (Str × D)} {fn : List He.DefD} {K : PySem.W.Frag}
theorem SaysX.parts (c : SaysX fa cs fn K) : (fa.all fun f => f.ok K) = true ∧ (cs.all fun p => conB K p) = true ∧ (fn.all fun d => d.ok K) = true ∧ fn.map (fun d => He.fnW K d.at_) = fn.map He.DefD.val := by
  have e1 : ((fa.all fun f => f.ok K) && ((cs.all fun p => conB K p) && fn.all fun d => d.ok K)) = true := congrArg (fun z : He.AlD => z.1) c
  obtain ⟨h1, h2⟩ := and2 e1
  obtain ⟨h3, h4⟩ := and2 h2
  exact ⟨h1, h3, h4, congrArg (fun z : He.AlD => z.2) c⟩
theorem SaysX.fact (c : SaysX fa cs fn K) {f : He.Fa} (i : Nat) (h : fa[i]? = some f) : f.ok K = true := List.all_eq_true.mp c.parts.1 f (List.mem_of_getElem? h)
theorem SaysX.con (c : SaysX fa cs fn K) {p : Str × D} (i : Nat) (h : cs[i]? = some p) : conB K p = true := List.all_eq_true.mp c.parts.2.1 p (List.mem_of_getElem? h)
theorem SaysX.def_ (c : SaysX fa cs fn K) {d : He.DefD} (i : Nat) (h : fn[i]? = some d) : ∃ fd, FunD K d.name d.qual d.params d.body d.scope (d.dvs K) (d.kws K) (He.fAd K d.at_) fd := by
  have e2 : (fn.map fun d => He.fnW K d.at_)[i]? = (fn.map He.DefD.val)[i]? := by rw [c.parts.2.2.2]
  rw [List.getElem?_map, List.getElem?_map, h] at e2
  exact He.DefD.funD (Option.some.inj e2) (List.all_eq_true.mp c.parts.2.2.1 d (List.mem_of_getElem? h))
end
end DL

namespace DL
open PySem PySem.Spec PyProof.Rows L2
section
variable {X : Cx} {W0 : WX} {pn : List Nat} {a b c ex o : Expr} {es : List Expr} {pos apos : Pos}
/-- the wishes of a body -/
abbrev gx (X : Cx) (W : WX) : Cfg := ⟨X.K, X.mg, W⟩
abbrev g0 (X : Cx) : Cfg := ⟨X.K, X.mg, fun _ _ _ _ => False⟩
variable {fa fb : PF} {da db : DF}
/-! ### as they stand in a text -/
theorem xv (i : Nat) {x : Str} (hN : X.N[i]? = some x := by rfl) (hv : Vis X.env.scope x := by first | exact Or.inl rfl | exact Or.inr (Or.inl rfl) | exact Or.inr (Or.inr rfl)) (hd : (x == ("__debug__" : Str)) = false := by decide) (hcd : (x == ("__classdict__" : Str)) = false := by decide) : PE X (.Name x pos) (tP X.K (pvar i)) := pP_var (pv i hN hv hd hcd)
theorem xi {i : Int} {j} : PE X (.Constant (.int i) j pos) (tP X.K (pcst (.int i))) := pP_cst pe_int
theorem xb {i : Bool} {j} : PE X (.Constant (.bool i) j pos) (tP X.K (pcst (.bl i))) := pP_cst pe_bl
theorem xn {j} : PE X (.Constant .none j pos) (tP X.K (pcst .non)) := pP_cst pe_non
theorem xs (x : List Nat) {y : Str} {j} (h : y = Sx x := by rfl) : PE X (.Constant (.str y) j pos) (tP X.K (pcst (.str x))) := by subst h; exact pP_cst pe_str
theorem xd (h : PE X ex (tP X.K fa)) : PE X ex (tD (gx X W0) (toD fa)) := pD_of (G := gx X W0) h
theorem xdv (i : Nat) {x : Str} (hN : X.N[i]? = some x := by rfl) (hv : Vis X.env.scope x := by first | exact Or.inl rfl | exact Or.inr (Or.inl rfl) | exact Or.inr (Or.inr rfl)) (hd : (x == ("__debug__" : Str)) = false := by decide) (hcd : (x == ("__classdict__" : Str)) = false := by decide) : PE X (.Name x pos) (tD (gx X W0) (evar i)) := pD_var (pv i hN hv hd hcd)
theorem x_op {op : Operator} {r g} (ho : OpR X (binaryOp op) r) (h : OpP X.K r g) (ha : PE X a (tP X.K fa)) (hb : PE X b (tP X.K fb)) : PE X (.BinOp a op b pos) (tP X.K (p2 g fa fb)) := PE.imp (pe_op ho ha hb) (p_op h)
theorem x_opD {op : Operator} {r g} (ho : OpR X (binaryOp op) r) (h : OpA X.K r g) (ha : PE X a (tD (gx X W0) da)) (hb : PE X b (tD (gx X W0) db)) : PE X (.BinOp a op b pos) (tD (gx X W0) (d2 g da db)) := PE.imp (pe_op ho ha hb) (d_op (G := gx X W0) h)
theorem x_cmp {op : CmpOp} {r g} (ho : OpR X (compareOp op) r) (h : OpP X.K r g) (ha : PE X a (tP X.K fa)) (hb : PE X b (tP X.K fb)) (hm : behindInMarks op b = false) : PE X (.Compare a [op] [b] pos) (tP X.K (p2 g fa fb)) := PE.imp (pe_cmpR ho ha hb hm) (p_op h)
theorem x_cmpD {op : CmpOp} {r g} (ho : OpR X (compareOp op) r) (h : OpA X.K r g) (ha : PE X a (tD (gx X W0) da)) (hb : PE X b (tD (gx X W0) db)) (hm : behindInMarks op b = false) : PE X (.Compare a [op] [b] pos) (tD (gx X W0) (d2 g da db)) := PE.imp (pe_cmpR ho ha hb hm) (d_op (G := gx X W0) h)
theorem x_eqNil {p2} (hu : X.A.units + 64 < cLine) (ha : PE X a (tP X.K fa)) : PE X (.Compare a [.Eq] [.List [] p2] pos) (tD (gx X W0) (eqNil false fa)) := PE.imp (pe_cmpR (o_eq hu) ha (pe_lst pa_nil) (nomark _)) (e_eqNil (G := gx X W0))
theorem x_neNil {p2} (hu : X.A.units + 64 < cLine) (ha : PE X a (tP X.K fa)) : PE X (.Compare a [.NotEq] [.List [] p2] pos) (tD (gx X W0) (eqNil true fa)) := PE.imp (pe_cmpR (o_ne hu) ha (pe_lst pa_nil) (nomark _)) (e_neNil (G := gx X W0))
theorem x_ix (hu : X.A.units + 1 < cLine) (ha : PE X a (tP X.K fa)) (hb : PE X b (tP X.K fb)) (hs : PlainIx b) : PE X (.Subscript a b pos) (tP X.K (p2 pIx fa fb)) := PE.imp (pe_ix (o_ix hu) ha hb hs) (p_op l_ix)
theorem x_ixD (hu : X.A.units + 1 < cLine) (ha : PE X a (tD (gx X W0) da)) (hb : PE X b (tD (gx X W0) db)) (hs : PlainIx b) : PE X (.Subscript a b pos) (tD (gx X W0) (d2 dIx da db)) := PE.imp (pe_ix (o_ix hu) ha hb hs) (d_op (G := gx X W0) l_ixA)
theorem x_sl {lo hi p2} {fl fh : POf} (ha : PE X a (tP X.K fa)) (hl : PO X lo (tOp1 X.K fl)) (hh : PO X hi (tOp1 X.K fh)) : PE X (.Subscript a (.Slice lo hi none p2) pos) (tP X.K (psl fa fl fh)) := PE.imp (pe_slice o_sl ha hl hh) p_sl
theorem x_slD {lo hi p2} {fl fh : POf} (ha : PE X a (tD (gx X W0) da)) (hl : PO X lo (tOp1 X.K fl)) (hh : PO X hi (tOp1 X.K fh)) : PE X (.Subscript a (.Slice lo hi none p2) pos) (tD (gx X W0) (dsl da fl fh)) := PE.imp (pe_slice o_sl ha hl hh) (d_sl (G := gx X W0))
theorem x_rev {k p1 p2 p3} (ha : PE X a (tD (gx X W0) da)) : PE X (.Subscript a (.Slice none none (some (.UnaryOp .USub (.Constant (.int 1) k p1) p2)) p3) pos) (tD (gx X W0) (drev da)) := PE.imp (pe_revL ha) (d_rev (G := gx X W0))
theorem x_neg (ha : PE X a (tP X.K fa)) : PE X (.UnaryOp .USub a pos) (tP X.K (p1 pNeg fa)) := PE.imp (pe_un un_neg ha) (p_un l_neg)
/-! lists -/
theorem y_nil : PA X [] (tDs (gx X W0) dnil) := PA.imp pa_nil (d_nil (G := gx X W0))
theorem y_cons {fr : DFs} (ha : PE X a (tD (gx X W0) da)) (hr : PA X es (tDs (gx X W0) fr)) (hs : starEach (a :: es) X.env = (false, eval a X.env) :: starEach es X.env := by rfl) : PA X (a :: es) (tDs (gx X W0) (dcons da fr)) := PA.imp (pa_cons ha hr hs) (d_cons (G := gx X W0))
theorem z_nil : PA X [] (tPs X.K pnil) := PA.imp pa_nil p_nil
theorem z_cons {fr : PFs} (ha : PE X a (tP X.K fa)) (hr : PA X es (tPs X.K fr)) (hs : starEach (a :: es) X.env = (false, eval a X.env) :: starEach es X.env := by rfl) : PA X (a :: es) (tPs X.K (pcons fa fr)) := PA.imp (pa_cons ha hr hs) p_cons
theorem w_nil : PA X [] (tAs (gx X W0) anil) := PA.imp pa_nil (a_nil (G := gx X W0))
theorem w_slot (i : Nat) {fr : AFs} {x : Str} (hr : PA X es (tAs (gx X W0) fr)) (hN : X.N[i]? = some x := by rfl) (hv : Vis X.env.scope x := by first | exact Or.inl rfl | exact Or.inr (Or.inl rfl) | exact Or.inr (Or.inr rfl)) (hd : (x == ("__debug__" : Str)) = false := by decide) (hcd : (x == ("__classdict__" : Str)) = false := by decide)
    (hs : starEach (.Name x pos :: es) X.env = (false, eval (.Name x pos) X.env) :: starEach es X.env := by rfl) : PA X (.Name x pos :: es) (tAs (gx X W0) (aslot i fr)) := PA.imp (pa_cons (pv i hN hv hd hcd) hr hs) (a_slot (G := gx X W0))
theorem w_val {fr : AFs} (ha : PE X a (tD (gx X W0) da)) (hr : PA X es (tAs (gx X W0) fr)) (hs : starEach (a :: es) X.env = (false, eval a X.env) :: starEach es X.env := by rfl) : PA X (a :: es) (tAs (gx X W0) (aval da fr)) := PA.imp (pa_cons ha hr hs) (a_val (G := gx X W0))
theorem x_lst {fs : DFs} (h : PA X es (tDs (gx X W0) fs)) : PE X (.List es pos) (tD (gx X W0) (dlst fs)) := PE.imp (pe_lst h) (d_lst (G := gx X W0))
theorem x_tup {k} {fs : DFs} (h : PA X es (tDs (gx X W0) fs)) : PE X (.Tuple es k pos) (tD (gx X W0) (dtup fs)) := PE.imp (pe_tup h) (d_tup (G := gx X W0))
/-! builtins -/
theorem x_bP {x : Str} {id : String} {r g} {fs : PFs} {p : Pos} (hc : CallR X (.builtin id) r) (hl : ArP X.K r g) (hm : X.mg x = none) (hv : bootBuiltins x = some (.builtin id)) (ha : PA X (a :: es) (tPs X.K fs)) (hg : Gl X x := by rfl) (hn : x ≠ "__name__" := by decide) (hdb : (x == ("__debug__" : Str)) = false := by decide)
    (he : starEach (a :: es) X.env = (false, eval a X.env) :: starEach es X.env := by rfl) (hpl : (backTo pos (starEach es X.env)).any (·.1) = false := by rfl) : PE X (.Call (.Name x p) (a :: es) [] pos) (tP X.K (pcall g fs)) := PE.imp (pe_callB hc hg hm hv ha hn hdb he hpl) (p_call hl)
theorem x_bD {x : Str} {id : String} {r g} {fs : DFs} {p : Pos} (hc : CallR X (.builtin id) r) (hl : ArA X.K r g) (hm : X.mg x = none) (hv : bootBuiltins x = some (.builtin id)) (ha : PA X (a :: es) (tDs (gx X W0) fs)) (hg : Gl X x := by rfl) (hn : x ≠ "__name__" := by decide) (hdb : (x == ("__debug__" : Str)) = false := by decide)
    (he : starEach (a :: es) X.env = (false, eval a X.env) :: starEach es X.env := by rfl) (hpl : (backTo pos (starEach es X.env)).any (·.1) = false := by rfl) : PE X (.Call (.Name x p) (a :: es) [] pos) (tD (gx X W0) (dcall g fs)) := PE.imp (pe_callB hc hg hm hv ha hn hdb he hpl) (d_call (G := gx X W0) hl)
theorem x_tyP {x : Str} {T : String} {r g} {fs : PFs} {p : Pos} (hc : CallR X (.type T) r) (hl : ArP X.K r g) (hm : X.mg x = none) (hv : bootBuiltins x = some (.type T)) (ha : PA X (a :: es) (tPs X.K fs)) (hg : Gl X x := by rfl) (hn : x ≠ "__name__" := by decide) (hdb : (x == ("__debug__" : Str)) = false := by decide)
    (he : starEach (a :: es) X.env = (false, eval a X.env) :: starEach es X.env := by rfl) (hpl : (backTo pos (starEach es X.env)).any (·.1) = false := by rfl) : PE X (.Call (.Name x p) (a :: es) [] pos) (tP X.K (pcall g fs)) := PE.imp (pe_callTy hc hg hm hv ha hn hdb he hpl) (p_call hl)
theorem x_tyD {x : Str} {T : String} {r g} {fs : DFs} {p : Pos} (hc : CallR X (.type T) r) (hl : ArA X.K r g) (hm : X.mg x = none) (hv : bootBuiltins x = some (.type T)) (ha : PA X (a :: es) (tDs (gx X W0) fs)) (hg : Gl X x := by rfl) (hn : x ≠ "__name__" := by decide) (hdb : (x == ("__debug__" : Str)) = false := by decide)
    (he : starEach (a :: es) X.env = (false, eval a X.env) :: starEach es X.env := by rfl) (hpl : (backTo pos (starEach es X.env)).any (·.1) = false := by rfl) : PE X (.Call (.Name x p) (a :: es) [] pos) (tD (gx X W0) (dcall g fs)) := PE.imp (pe_callTy hc hg hm hv ha hn hdb he hpl) (d_call (G := gx X W0) hl)
theorem call_lenR : CallR X (.builtin "len") (fun xs H Q => ∃ d kvs, xs = [.ref d] ∧ Rd H d (.dK kvs) ∧ Q (.int kvs.length) H) := fun pins s σ H xs us Q I r ⟨a, kvs, e, ha, q⟩ => by
  subst e
  obtain ⟨u, e2, ru⟩ := vals1 r
  subst e2
  have ru' : u = Value.ref a := ru
  subst ru'
  exact d_len I ha fun t s' I' => ⟨V.int (kvs.length : Nat), H, I', ⟨t, rfl⟩, q⟩
theorem o_len : CallR X (.builtin "len") (rLen X.K) := CallR.or call_len call_lenR
theorem o_int : CallR X (.type "int") (fun xs H Q => ((∃ i, xs = [.int i] ∧ Q (.int i) H) ∨ ∃ k, xs = [.bl k] ∧ Q (.int (if k then 1 else 0)) H) ∨ ∃ a n, xs = [.str a] ∧ PySem.intText? a = some n ∧ a.length ≤ 640 ∧ Q (.int n) H) := CallR.or call_int1 call_int_str
theorem o_str : CallR X (.type "str") (fun xs H Q => (∃ i, xs = [.int i] ∧ i.natAbs.log2 < 1920 ∧ Q (.str (toString i)) H) ∨ ∃ a, xs = [.str a] ∧ Q (.str a) H) := CallR.or call_str_int SkE.call_str_str
/-! a def of the text -/
/-- a def that may be called by its name, up to k levels deep -/
structure Fnn (P : Program) (w : World) (K : PySem.W.Frag) (mg : Str → Option Value) (base : Heap) (k : Nat) (x : Str) (bs : List Bool) (F : FF) : Prop where
  ex : ∃ (f : Addr) (fd : FuncData) (ps : List Str), FnOk P w K mg base (L2.CX P w) k f fd ps (spD K mg bs.length F) ∧ mg x = some (.ref f) ∧ PySem.W.keepIn K (.ref f) = true ∧ Binds K fd ps []
theorem x_call {x : Str} {bs : List Bool} {F : FF} {k j : Nat} {fs : AFs} {p : Pos} (c : Fnn X.prog X.w X.K X.mg X.base k x bs F) (hr : Room j X.A) (hk : k ≤ j) (tk : Takes X W0) (ha : PA X (a :: es) (tAs (gx X W0) fs)) (hg : Gl X x := by rfl) (hdb : (x == ("__debug__" : Str)) = false := by decide)
    (he : starEach (a :: es) X.env = (false, eval a X.env) :: starEach es X.env := by rfl) (hpl : (backTo pos (starEach es X.env)).any (·.1) = false := by rfl) : PE X (.Call (.Name x p) (a :: es) [] pos) (tD (gx X W0) (ecall F bs fs)) := by
  obtain ⟨f, fd, ps, h1, h2, h3, h4⟩ := c.ex
  exact PE.imp (pe_callS (E := fun σ c d H => W0 c d σ H) h1 (hr.mono hk) hg h2 h3 h4 (fun σ => passAt tk σ) ha hdb he hpl) (e_call (G := gx X W0) rfl)
theorem x_call0 {x : Str} {F : FF} {k j : Nat} {p : Pos} (c : Fnn X.prog X.w X.K X.mg X.base k x [] F) (hr : Room j X.A) (hk : k ≤ j) (tk : Takes X W0) (hg : Gl X x := by rfl) (hdb : (x == ("__debug__" : Str)) = false := by decide) : PE X (.Call (.Name x p) [] [] pos) (tD (gx X W0) (ecall F [] anil)) := by
  obtain ⟨f, fd, ps, h1, h2, h3, h4⟩ := c.ex
  have t : PE X (.Call (.Name x p) [] [] pos) (tCallS (spD X.K X.mg 0 F) (fun σ c d H => W0 c d σ H) tNil) := by
    refine ⟨fun pins s σ H Q I h => ?_⟩
    refine wpAny_Call_Name_kw (ld_glob I hg h2 ?_ hdb)
    exact PySem.W.callWith_K0 I.kIn h3 (run_fnS (us := []) (vs := []) h1 (hr.mono hk) h4 (passAt tk σ) I .nil h)
  exact PE.imp t fun σ H Q q => a_nil (G := gx X W0) σ H _ (e_call (G := gx X W0) (bs := []) rfl σ H Q q)
/-! isinstance -/
theorem x_isa {T : String} {x y : Str} {p p2 : Pos} (hm : X.mg x = none) (hm2 : X.mg y = none) (hv2 : bootBuiltins y = some (.type T)) (hk : ∀ n ∈ tyNs, PySem.W.kitOne X.K (.type n) (.type T) = some (isaT T n)) (ha : PE X a (tP X.K fa)) (hx : bootBuiltins x = some (.builtin "isinstance")) (hg : Gl X x := by rfl) (hg2 : Gl X y := by rfl)
    (hn : x ≠ "__name__" := by decide) (hdb : (x == ("__debug__" : Str)) = false := by decide) (hn2 : y ≠ "__name__" := by decide) (hdb2 : (y == ("__debug__" : Str)) = false := by decide)
    (he : starEach [a, .Name y p2] X.env = (false, eval a X.env) :: starEach [.Name y p2] X.env := by rfl) (hpl : (backTo pos (starEach [.Name y p2] X.env)).any (·.1) = false := by rfl) (he2 : starEach [.Name y p2] X.env = (false, eval (.Name y p2) X.env) :: starEach [] X.env := by rfl) :
    PE X (.Call (.Name x p) [a, .Name y p2] [] pos) (tP X.K (pIsa T fa)) :=
  PE.imp (pe_callB call_isi hg hm hx (pa_cons ha (pa_cons (pe_bltn (v := .ty T) hg2 hm2 hv2 rfl hn2 hdb2) pa_nil he2) he) hn hdb he hpl) (p_isa hk)
/-! methods of texts -/
theorem x_find (ho : PE X o (tP X.K fa)) (he : PE X a (tP X.K fb)) (hs : starEach [a] X.env = [(false, eval a X.env)] := by rfl) (hbase : attributeBase o "find" X.env (eval o X.env) = eval o X.env := by rfl) (hline : (apos.endLine == pos.line) = true := by rfl) : PE X (.Call (.Attribute o "find" apos) [a] [] pos) (tP X.K (pm1 mFind fa fb)) :=
  PE.imp (pe_m1 PySem.F.slot_str_find PySem.F.type_str_find mt_find ho he hs hbase hline) (p_m1 l_find)
theorem x_starts (ho : PE X o (tP X.K fa)) (he : PE X a (tP X.K fb)) (hs : starEach [a] X.env = [(false, eval a X.env)] := by rfl) (hbase : attributeBase o "startswith" X.env (eval o X.env) = eval o X.env := by rfl) (hline : (apos.endLine == pos.line) = true := by rfl) : PE X (.Call (.Attribute o "startswith" apos) [a] [] pos) (tP X.K (pm1 mStarts fa fb)) :=
  PE.imp (pe_m1 PySem.F.slot_str_startswith PySem.F.type_str_startswith mt_startswith ho he hs hbase hline) (p_m1 l_starts)
theorem x_join (ho : PE X o (tP X.K fa)) (he : PE X a (tD (gx X W0) da)) (hs : starEach [a] X.env = [(false, eval a X.env)] := by rfl) (hbase : attributeBase o "join" X.env (eval o X.env) = eval o X.env := by rfl) (hline : (apos.endLine == pos.line) = true := by rfl) : PE X (.Call (.Attribute o "join" apos) [a] [] pos) (tD (gx X W0) (djoin fa da)) :=
  PE.imp (pe_join ho he hs hbase hline) (d_join (G := gx X W0))
/-- 'c' + t.replace('y', 'z') -/
def prepl (c y z : List Nat) (f : PF) : PF := fun e => (f e).bind fun d => match d with
  | .str x => if x.length + (x.length + 1) * z.length ≤ 16777216 ∧ c.length + (PySem.StrLaws.replL y z x).length ≤ 16777216 then some (.str (c ++ PySem.StrLaws.replL y z x)) else none
  | _ => none
theorem x_repl (c y z : List Nat) {cc yy zz : Str} {j j1 j2 : Nat} {p p1 p2 pos2 : Pos} (ho : PE X o (tP X.K fa)) (hc : cc = Sx c := by rfl) (hy : yy = Sx y := by rfl) (hz : zz = Sx z := by rfl) (hyz : (Sx y == Sx z) = false := by decide) (h1 : 1 ≤ y.length := by decide)
    (hst : starEach [.Constant (.str yy) j1 p1, .Constant (.str zz) j2 p2] X.env = [(false, eval (.Constant (.str yy) j1 p1) X.env), (false, eval (.Constant (.str zz) j2 p2) X.env)] := by rfl)
    (hbase : attributeBase o "replace" X.env (eval o X.env) = eval o X.env := by rfl) (hline : (apos.endLine == pos.line) = true := by rfl) :
    PE X (.BinOp (.Constant (.str cc) j p) .Add (.Call (.Attribute o "replace" apos) [.Constant (.str yy) j1 p1, .Constant (.str zz) j2 p2] [] pos) pos2) (tP X.K (prepl c y z fa)) := by
  subst hc hy hz
  refine ⟨fun pins s σ H Q I ⟨R, S, e, d, st, hf, q⟩ => wpAny_BinOp (Calls.Constant_str ?_)⟩
  unfold prepl at hf
  obtain ⟨x0, h2, hf⟩ := Option.bind_eq_some_iff.mp hf
  cases x0 with
  | str x =>
    dsimp only at hf
    split at hf
    · rename_i hl
      cases hf
      refine thn (CwR.pet_replC ho hyz hst hbase hline pins _ σ H (fun v H1 => H1 = H ∧ v = .str (Sx (PySem.StrLaws.replL y z x))) (by show 1 ≤ s.toks + 1; omega) (I.tok _) ⟨R, S, e, _, st, h2, fun v rv => ⟨Sx x, rv, ?_, rfl, ?_⟩⟩) fun u s2 ⟨v, H2, I2, r2, e3, e4⟩ => ?_
      · rw [Sx_len, Sx_len]; exact hl.1
      · have e5 := PySem.StrLaws.replace_list (x := Sx x) (y := Sx y) (z := Sx z) (by rw [Sx_len]; exact h1)
        have e6 : Txt.replace (Sx x) (Sx y) (Sx z) = Sx (PySem.StrLaws.replL y z x) := by
          rw [← Sx_tl (Txt.replace (Sx x) (Sx y) (Sx z)), e5]
        rw [e6]
      · subst e3 e4
        refine o_addP pins s2 σ _ (.str (Sx c)) _ _ u Q I2 ⟨_, rfl⟩ r2 (.inr ⟨_, _, rfl, rfl, by rw [Sx_len, Sx_len, sizeLine_eq]; exact hl.2, ?_⟩)
        rw [Sx_cat]
        exact q _ rfl
    · cases hf
  | _ => cases hf
/-! methods that change -/
theorem x_app (i : Nat) {x : Str} {opos : Pos} (ha : PE X a (tD (gx X W0) da)) (hN : X.N[i]? = some x := by rfl) (hv : Vis X.env.scope x := by first | exact Or.inl rfl | exact Or.inr (Or.inl rfl) | exact Or.inr (Or.inr rfl)) (hd : (x == ("__debug__" : Str)) = false := by decide) (hcd : (x == ("__classdict__" : Str)) = false := by decide)
    (hbase : attributeBase (.Name x opos) "append" X.env (eval (.Name x opos) X.env) = eval (.Name x opos) X.env := by rfl)
    (hfew : ((backTo pos (starEach [a] X.env)).all (fun x => !x.1) && (backToKw pos (keywordEach [] X.env)).all (fun x => x.1.isSome) && decide (([a] : List Expr).length + ([] : List Keyword).length + (if ([] : List Keyword).isEmpty then 0 else 1) < 30)) = true := by rfl)
    (hline : (apos.endLine == pos.line) = true := by rfl) (hs : starEach [a] X.env = (false, eval a X.env) :: starEach [] X.env := by rfl) (hpl : (backTo pos (starEach [] X.env)).any (·.1) = false := by rfl) :
    PE X (.Call (.Attribute (.Name x opos) "append" apos) [a] [] pos) (tD (gx X W0) (mapp i da)) :=
  PE.imp (pe_bm PySem.F.plainAttrs_list PySem.F.slot_list_append PySem.F.type_list_append mt_append (pv i hN hv hd hcd) (pa_cons ha pa_nil hs) hbase hfew hline hs hpl) (m_app (G := gx X W0))
theorem x_popAt (i : Nat) {x : Str} {opos : Pos} (ha : PE X a (tD (gx X W0) da)) (hN : X.N[i]? = some x := by rfl) (hv : Vis X.env.scope x := by first | exact Or.inl rfl | exact Or.inr (Or.inl rfl) | exact Or.inr (Or.inr rfl)) (hd : (x == ("__debug__" : Str)) = false := by decide) (hcd : (x == ("__classdict__" : Str)) = false := by decide)
    (hbase : attributeBase (.Name x opos) "pop" X.env (eval (.Name x opos) X.env) = eval (.Name x opos) X.env := by rfl)
    (hfew : ((backTo pos (starEach [a] X.env)).all (fun x => !x.1) && (backToKw pos (keywordEach [] X.env)).all (fun x => x.1.isSome) && decide (([a] : List Expr).length + ([] : List Keyword).length + (if ([] : List Keyword).isEmpty then 0 else 1) < 30)) = true := by rfl)
    (hline : (apos.endLine == pos.line) = true := by rfl) (hs : starEach [a] X.env = (false, eval a X.env) :: starEach [] X.env := by rfl) (hpl : (backTo pos (starEach [] X.env)).any (·.1) = false := by rfl) :
    PE X (.Call (.Attribute (.Name x opos) "pop" apos) [a] [] pos) (tD (gx X W0) (mpopAt i da)) :=
  PE.imp (pe_bm PySem.F.plainAttrs_list PySem.F.slot_list_pop PySem.F.type_list_pop mt_popAt (pv i hN hv hd hcd) (pa_cons ha pa_nil hs) hbase hfew hline hs hpl) (m_popAt (G := gx X W0))
theorem x_pop (i : Nat) {x : Str} {opos : Pos} (hN : X.N[i]? = some x := by rfl) (hv : Vis X.env.scope x := by first | exact Or.inl rfl | exact Or.inr (Or.inl rfl) | exact Or.inr (Or.inr rfl)) (hd : (x == ("__debug__" : Str)) = false := by decide) (hcd : (x == ("__classdict__" : Str)) = false := by decide)
    (hbase : attributeBase (.Name x opos) "pop" X.env (eval (.Name x opos) X.env) = eval (.Name x opos) X.env := by rfl) (hline : (apos.endLine == pos.line) = true := by rfl) : PE X (.Call (.Attribute (.Name x opos) "pop" apos) [] [] pos) (tD (gx X W0) (mpop i)) :=
  PE.imp (pe_bm0 PySem.F.plainAttrs_list PySem.F.slot_list_pop PySem.F.type_list_pop mt_pop (pv i hN hv hd hcd) hbase hline) (m_pop (G := gx X W0))
theorem x_dclear (i : Nat) {x : Str} {opos : Pos} (hN : X.N[i]? = some x := by rfl) (hv : Vis X.env.scope x := by first | exact Or.inl rfl | exact Or.inr (Or.inl rfl) | exact Or.inr (Or.inr rfl)) (hd : (x == ("__debug__" : Str)) = false := by decide) (hcd : (x == ("__classdict__" : Str)) = false := by decide)
    (hbase : attributeBase (.Name x opos) "clear" X.env (eval (.Name x opos) X.env) = eval (.Name x opos) X.env := by rfl) (hline : (apos.endLine == pos.line) = true := by rfl) : PE X (.Call (.Attribute (.Name x opos) "clear" apos) [] [] pos) (tD (gx X W0) (mdclear i)) :=
  PE.imp (pe_bm0 PySem.F.plainAttrs_dict PySem.F.slot_dict_clear PySem.F.type_dict_clear mtd_clear (pv i hN hv hd hcd) hbase hline) (m_dclear (G := gx X W0))
/-- x[j].pop(), x[j].append(f): x a name -/
theorem x_popP (i j : Nat) {jz : Int} {x : Str} {k : Nat} {opos ipos spos : Pos} (hu : X.A.units + 1 < cLine) (hj : jz = (j : Int) := by rfl) (hN : X.N[i]? = some x := by rfl) (hv : Vis X.env.scope x := by first | exact Or.inl rfl | exact Or.inr (Or.inl rfl) | exact Or.inr (Or.inr rfl)) (hd : (x == ("__debug__" : Str)) = false := by decide) (hcd : (x == ("__classdict__" : Str)) = false := by decide)
    (hbase : attributeBase (.Subscript (.Name x opos) (.Constant (.int jz) k ipos) spos) "pop" X.env (eval (.Subscript (.Name x opos) (.Constant (.int jz) k ipos) spos) X.env) = eval (.Subscript (.Name x opos) (.Constant (.int jz) k ipos) spos) X.env := by rfl) (hline : (apos.endLine == pos.line) = true := by rfl) :
    PE X (.Call (.Attribute (.Subscript (.Name x opos) (.Constant (.int jz) k ipos) spos) "pop" apos) [] [] pos) (tD (gx X W0) (mpopP i j)) := by
  subst hj
  exact PE.imp (pe_bm0 PySem.F.plainAttrs_list PySem.F.slot_list_pop PySem.F.type_list_pop mt_pop (pe_ix (o_ix hu) (pv i hN hv hd hcd) pe_int fun _ _ => rfl) hbase hline) (m_popP (G := gx X W0))
theorem x_appP (i j : Nat) {jz : Int} {x : Str} {k : Nat} {opos ipos spos : Pos} (hu : X.A.units + 1 < cLine) (ha : PE X a (tP X.K fa)) (hj : jz = (j : Int) := by rfl) (hN : X.N[i]? = some x := by rfl) (hv : Vis X.env.scope x := by first | exact Or.inl rfl | exact Or.inr (Or.inl rfl) | exact Or.inr (Or.inr rfl)) (hd : (x == ("__debug__" : Str)) = false := by decide) (hcd : (x == ("__classdict__" : Str)) = false := by decide)
    (hbase : attributeBase (.Subscript (.Name x opos) (.Constant (.int jz) k ipos) spos) "append" X.env (eval (.Subscript (.Name x opos) (.Constant (.int jz) k ipos) spos) X.env) = eval (.Subscript (.Name x opos) (.Constant (.int jz) k ipos) spos) X.env := by rfl)
    (hfew : ((backTo pos (starEach [a] X.env)).all (fun x => !x.1) && (backToKw pos (keywordEach [] X.env)).all (fun x => x.1.isSome) && decide (([a] : List Expr).length + ([] : List Keyword).length + (if ([] : List Keyword).isEmpty then 0 else 1) < 30)) = true := by rfl)
    (hline : (apos.endLine == pos.line) = true := by rfl) (hs : starEach [a] X.env = (false, eval a X.env) :: starEach [] X.env := by rfl) (hpl : (backTo pos (starEach [] X.env)).any (·.1) = false := by rfl) :
    PE X (.Call (.Attribute (.Subscript (.Name x opos) (.Constant (.int jz) k ipos) spos) "append" apos) [a] [] pos) (tD (gx X W0) (mappP i j fa)) := by
  subst hj
  exact PE.imp (pe_bm PySem.F.plainAttrs_list PySem.F.slot_list_append PySem.F.type_list_append mt_append (pe_ix (o_ix hu) (pv i hN hv hd hcd) pe_int fun _ _ => rfl) (pa_cons ha pa_nil hs) hbase hfew hline hs hpl) (m_appP (G := gx X W0))
end
end DL

namespace DL
open PySem PySem.Spec PyProof.Rows L2
/-! ### what is own goes on -/
section
variable {X : Cx} {G : Cfg} {ex : Expr} {pn : List Nat} {K : PySem.W.Frag} {H : Hp} {W : AS}
/-- a name read for the last time: what is own goes with it -/
def emv (i : Nat) : DF := fun e => match e[i]? with
  | some (some d) => .ok (d, e.set i none)
  | _ => .bad
theorem pD_mv {i : Nat} (h : PE X ex (tVar i)) : PE X ex (tD G (emv i)) := PE.imp h fun σ H Q ⟨R, S, e, st, q⟩ => by
  unfold emv at q
  split at q
  · rename_i d hd
    obtain ⟨v, S1, S2, hv, h1, h2, h3, h4, h5⟩ := st.er.get hd
    have hw : ∀ a, (S1 a ∨ S2 a ∨ R a) → S a ∨ R a := fun a z => z.elim (fun y => .inl (h1 a y)) fun y => y.elim (fun w => .inl (h2 a w)) .inr
    exact ⟨v, hv, q v H S1 S2 ⟨fun _ _ h _ => h, fun a z => .inl (z.elim (h1 a) (h2 a))⟩ ⟨h3, fun a z => st.dis a (z.elim (h1 a) (h2 a)), fun a z => st.trk a (hw a z), h4.mono hw fun _ z => z, h5.mono hw fun _ z => z⟩⟩
  · exact q.elim
/-- a tuple whose parts stay own -/
def dtupO (fs : DFs) : DF := fun e => (fs e).bind fun (ds, e1) => if ds.length ≤ 1000 then .ok (.otu ds, e1) else .bad
theorem d_tupO {fs : DFs} : ∀ σ H Q, tD G (dtupO fs) σ H Q → tTup (tDs G fs) σ H Q := fun σ H Q ⟨R, S, e, st, q⟩ => by
  refine ⟨R, S, e, st, ?_⟩
  unfold dtupO at q
  cases ha : fs e with
  | bad => rw [ha] at q; exact q.elim
  | err x e1 => rw [ha] at q; exact q
  | ok p =>
    obtain ⟨ds, e1⟩ := p
    rw [ha] at q
    intro vs H1 S1 S2 f1 n1
    dsimp only [Res.bind] at q
    split at q
    · rename_i hl
      have hlen : vs.length = ds.length := n1.rp.length
      refine ⟨by rw [hlen]; exact Nat.le_trans hl (by decide), fun p hp => ?_⟩
      have np : ∀ a, (S1 a ∨ S2 a ∨ R a) → a ≠ p := fun a z y => n1.trk a z (by rw [y]; exact hp)
      have k : Kp H1 (upd H1 p (.tup vs)) (fun a => S1 a ∨ S2 a ∨ R a) (fun a => S1 a ∨ S2 a ∨ R a) noS := ⟨fun a o h _ => by
        rw [upd_ne (ne_of_none h hp)]; exact h, fun _ z => z.elim, fun a z => .inl z⟩
      refine q (.ref p) _ S1 S2 ⟨fun a o h hs => k.keep a o (f1.keep a o h hs) (fun z => z), f1.new⟩ ⟨n1.d12, n1.dis, fun a z => ?_, ?_, ?_⟩
      · rw [upd_ne (np a z)]
        exact n1.trk a z
      · refine ⟨p, vs, rfl, ⟨.inl upd_same, fun z => np p z rfl⟩, ?_⟩
        exact Rps.keep k ds S1 _ vs (fun b z => z) (fun _ _ z => z) n1.rp
      · exact Er.keep k e1 S2 S2 σ (fun _ z => z) (fun _ _ z => z) n1.er
    · exact q.elim
/-- from here on nobody changes the value, or what it holds -/
def dfrz (fa : DF) : DF := fun e => (fa e).bind fun (d, e1) => .ok (frz d, e1)
theorem d_frz {fa : DF} : ∀ σ H Q, tD G (dfrz fa) σ H Q → tD G fa σ H Q := fun σ H Q ⟨R, S, e, st, q⟩ => by
  refine ⟨R, S, e, st, ?_⟩
  unfold dfrz at q
  cases ha : fa e with
  | bad => rw [ha] at q; exact q.elim
  | err x e1 => rw [ha] at q; exact q
  | ok p =>
    obtain ⟨d, e1⟩ := p
    rw [ha] at q
    intro v H1 S1 S2 f1 n1
    have hw : ∀ a, (noS a ∨ S2 a ∨ R a) → (S1 a ∨ S2 a ∨ R a) ∧ ¬ S1 a := fun a z => by
      rcases z with z | z | z
      · exact z.elim
      · exact ⟨.inr (.inl z), fun y => n1.d12 a y z⟩
      · exact ⟨.inr (.inr z), fun y => n1.dis a (.inl y) z⟩
    exact q v H1 noS S2 (f1.less fun a z => z.elim (fun y => y.elim) .inr) ⟨fun _ z => z.elim, fun a z => z.elim (fun y => y.elim) fun y => n1.dis a (.inr y), fun a z => n1.trk a (hw a z).1, Rp.frz d S1 v n1.rp hw, n1.er.mono (fun a z => (hw a z).1) fun _ z => z⟩
theorem g_namesO : ∀ (is : List Nat), (∀ i ∈ is, i ∉ pn) → ∀ (S1 S2 : AS) (e : Env) (σ : L2.St) (ds : List D) (us : List V) (e1 : Env) (Q : L2.St → Hp → Prop), Er K H W e S2 σ → Rps K H W ds S1 us → (∀ b, S1 b → ¬ S2 b) → bnames is ds e = some e1 →
    (∀ σ1, Er K H W e1 (fun a => S1 a ∨ S2 a) σ1 → Pin pn σ σ1 → Q σ1 H) → gNames is us σ H Q
  | [], _, S1, S2, e, σ, ds, us, e1, Q, er, r, dj, hb, k => by
    cases ds with
    | nil =>
      obtain rfl := Option.some.inj hb
      have : us = [] := r
      exact ⟨this, k σ (er.mono (fun _ z => z) fun _ z => .inr z) Pin.refl⟩
    | cons d ds => cases hb
  | i :: is, hs, S1, S2, e, σ, ds, us, e1, Q, er, r, dj, hb, k => by
    cases ds with
    | nil => cases hb
    | cons d ds =>
      obtain ⟨v, vr, T1, T2, ev, h1, h2, h3, h4, h5⟩ := r
      have hi := hs i List.mem_cons_self
      refine ⟨v, vr, ev, ?_⟩
      refine g_namesO is (fun j hj => hs j (List.mem_cons_of_mem _ hj)) T2 (fun a => T1 a ∨ S2 a) _ _ ds vr e1 Q (Er.putA er h4 (fun _ z => .inl z) (fun _ z => .inr z) fun b z => dj b (h1 b z)) h5 (fun b z y => y.elim (fun w => h3 b w z) (dj b (h2 b z))) hb fun σ1 er1 p1 => ?_
      exact k σ1 (er1.mono (fun _ z => z) fun b z => z.elim (fun y => .inl (h2 b y)) fun y => y.elim (fun w => .inl (h1 b w)) .inr) ((Pin.set hi).trans p1)
theorem bnames_len : ∀ {is : List Nat} {ds : List D} {e e1 : Env}, bnames is ds e = some e1 → ds.length = is.length := by
  intro is
  induction is with
  | nil => intro ds e e1 h; cases ds with
    | nil => rfl
    | cons _ _ => cases h
  | cons i is ih => intro ds e e1 h; cases ds with
    | nil => cases h
    | cons d ds => rw [List.length_cons, List.length_cons, ih h]
/-- a, b = e, own parts stay own -/
def sunpO (is : List Nat) (f : DF) : SF := fun e => match f e with
  | .ok (.otu ds, e1) => (match bnames is ds e1 with
    | some e2 => .next e2
    | none => .bad)
  | .ok (.tup ds, e1) => (match bnames is ds e1 with
    | some e2 => .next e2
    | none => .bad)
  | .ok _ => .bad
  | .err x e1 => .err x e1
  | .bad => .bad
theorem s_unpO {is : List Nat} {n : Nat} {f : DF} (hn : is.length = n) (hs : ∀ i ∈ is, i ∉ pn) : ∀ D σ H, tS G pn (sunpO is f) D σ H → tAsg (tD G f) (gTup G.K n (gNames is)) D σ H := fun D σ H ⟨R, S, e, st, q⟩ => by
  refine ⟨R, S, e, st, ?_⟩
  unfold sunpO at q
  cases hf : f e with
  | bad => rw [hf] at q; exact q.elim
  | err x e1 => rw [hf] at q; exact ErrP.of q
  | ok p =>
    obtain ⟨d, e1⟩ := p
    rw [hf] at q
    intro u H1 S3 S4 f1 n1
    cases d with
    | otu ds =>
      dsimp only at q
      obtain ⟨a, us, ev, ⟨ht, hw⟩, hr⟩ := n1.rp
      cases hb : bnames is ds e1 with
      | none => rw [hb] at q; exact q.elim
      | some e2 =>
        rw [hb] at q
        refine ⟨a, us, ev, .inl ht, by rw [hr.length, bnames_len hb, hn], g_namesO is hs S3 S4 e1 σ ds us e2 _ n1.er hr n1.d12 hb fun σ1 er p1 => ?_⟩
        refine q σ1 H1 _ p1 f1 ⟨n1.dis, fun a z => n1.trk a (z.elim (fun y => y.elim .inl fun w => .inr (.inl w)) fun y => .inr (.inr y)), er.mono (fun a z => ?_) fun _ z => z⟩
        exact z.elim (fun y => y.elim .inl fun w => .inr (.inl w)) fun y => .inr (.inr y)
    | tup ds =>
      dsimp only at q
      obtain ⟨a, us, ev, ht, hr⟩ := n1.rp
      cases hb : bnames is ds e1 with
      | none => rw [hb] at q; exact q.elim
      | some e2 =>
        rw [hb] at q
        have hr' : Rps G.K H1 (fun a => S3 a ∨ S4 a ∨ R a) ds S3 us := hr.mono (fun _ z => z) fun _ z => z.elim
        refine ⟨a, us, ev, ?_, by rw [hr.length, bnames_len hb, hn], g_namesO is hs S3 S4 e1 σ ds us e2 _ n1.er hr' n1.d12 hb fun σ1 er p1 => ?_⟩
        · rcases ht with ⟨h1, h2⟩ | h1
          · exact .inl h1
          · exact .inr h1
        refine q σ1 H1 _ p1 f1 ⟨n1.dis, fun a z => n1.trk a (z.elim (fun y => y.elim .inl fun w => .inr (.inl w)) fun y => .inr (.inr y)), er.mono (fun a z => ?_) fun _ z => z⟩
        exact z.elim (fun y => y.elim .inl fun w => .inr (.inl w)) fun y => .inr (.inr y)
    | _ => exact q.elim
end
end DL

namespace DL
open PySem PySem.Spec PyProof.Rows L2
/-! ### dict displays -/
section
variable {X : Cx} {G : Cfg} {K : PySem.W.Frag} {H H1 : Hp} {R S S1 S2 : AS} {σ : L2.St} {e : Env}
/-- a new dict at p -/
theorem new_dic {p : Addr} {kvs : List (Key × V)} {ks : List (List Nat)} {ds : List D} (st : Sta K H R S e σ) (hp : H p = none) (hk : kvs.map (·.1) = ks.map kx) (hn : ks.Nodup) (hr : Rps K H (fun a => S a ∨ R a) ds noS (kvs.map (·.2))) :
    Fr H (upd H p (.dK kvs)) S (fun a => a = p ∨ S a) ∧ Ens K (upd H p (.dK kvs)) R (fun a => a = p) S (.dic true ks ds) (.ref p) e σ := by
  have np : ∀ a, (S a ∨ R a) → a ≠ p := fun a z y => st.trk a z (by rw [y]; exact hp)
  have k : Kp H (upd H p (.dK kvs)) (fun a => S a ∨ R a) (fun a => a = p ∨ S a ∨ R a) noS := ⟨fun a o h _ => by
    rw [upd_ne (ne_of_none h hp)]; exact h, fun _ z => z.elim, fun a z => by
    rcases z with z | z
    · exact .inr (by rw [z]; exact hp)
    · exact .inl z⟩
  refine ⟨⟨fun a o h hs => k.keep a o h (fun z => z), fun a z => z.elim (fun y => .inr (by rw [y]; exact hp)) .inl⟩, ⟨fun a z y => np a (.inl y) z, fun a z y => ?_, fun a z => ?_, ?_, ?_⟩⟩
  · exact z.elim (fun w => np a (.inr y) w) fun w => st.dis a w y
  · by_cases h : a = p
    · rw [h, upd_same]; exact fun z => by cases z
    · rw [upd_ne h]
      exact st.trk a (z.elim (fun w => absurd w h) id)
  · exact ⟨p, kvs, rfl, ⟨upd_same, rfl⟩, hk, hn, Rps.keep k ds noS _ _ (fun _ z => z.elim) (fun _ z => z.elim) hr⟩
  · exact Er.keep k e S S σ (fun _ z => z) (fun _ _ z => z) st.er
def ddic0 : DF := fun e => .ok (.dic true [] [], e)
theorem d_dnew : ∀ σ H Q, tD G ddic0 σ H Q → tDNewK σ H Q := fun σ H Q ⟨R, S, e, st, q⟩ p hp => by
  obtain ⟨f, n⟩ := new_dic (kvs := []) (ks := []) (ds := []) st hp rfl List.nodup_nil rfl
  exact q (.ref p) _ _ S f n
def evps : List (PF × PF) → Env → Option (List (List Nat) × List D)
  | [], _ => some ([], [])
  | (fk, fv) :: r, e => match fk e, fv e with
    | some (.str k), some d => if isFrz d = true then (evps r e).map fun (ks, ds) => (k :: ks, d :: ds) else none
    | _, _ => none
def ddisp (ps : List (PF × PF)) : DF := fun e => match evps ps e with
  | some (ks, ds) => if ks.Nodup ∧ ks.length ≤ 15 then .ok (.dic true ks ds, e) else .bad
  | none => .bad
def tPP (K : PySem.W.Frag) (ps : List (PF × PF)) : List (TE × TE) := ps.map fun p => (tP K p.1, tP K p.2)
theorem pairs_ev : ∀ (ps : List (PF × PF)) (ks : List (List Nat)) (ds : List D) (Q : List (V × V) → Hp → Prop), Sta K H R S e σ → evps ps e = some (ks, ds) →
    (∀ kvs : List (Key × V), kvs.map (·.1) = ks.map kx → Rps K H (fun a => S a ∨ R a) ds noS (kvs.map (·.2)) → Q (kvs.map fun kv => (kV kv.1, kv.2)) H) → tPairs (tPP K ps) σ H Q
  | [], ks, ds, Q, st, he, k => by
    simp only [evps, Option.some.injEq, Prod.mk.injEq] at he
    obtain ⟨rfl, rfl⟩ := he
    exact k [] rfl rfl
  | (fk, fv) :: r, ks, ds, Q, st, he, k => by
    unfold evps at he
    split at he
    · rename_i k0 d0 h1 h2
      split at he
      · rename_i hz
        obtain ⟨⟨ks', ds'⟩, h3, h4⟩ := Option.map_eq_some_iff.mp he
        simp only [Prod.mk.injEq] at h4
        obtain ⟨rfl, rfl⟩ := h4
        refine ⟨R, S, e, _, st, h1, fun v rv => ⟨R, S, e, _, st, h2, fun v2 rv2 => ?_⟩⟩
        refine pairs_ev r ks' ds' _ st h3 fun kvs hk hr => ?_
        have rv' : v = .str (Sx k0) := rv
        subst rv'
        refine k ((kx k0, v2) :: kvs) (by rw [List.map_cons, List.map_cons, hk]) ?_
        exact ⟨v2, kvs.map (·.2), noS, noS, rfl, fun _ z => z, fun _ z => z, fun _ z => z.elim, Rp.nown d0 _ v2 hz rv2, hr⟩
      · cases he
    · cases he
theorem mergeK_new : ∀ (more kvs : List (Key × V)), ((kvs ++ more).map (·.1)).Nodup → mergeK kvs more = kvs ++ more
  | [], kvs, _ => (List.append_nil kvs).symm
  | p :: r, kvs, h => by
    show mergeK (putK kvs p.1 p.2) r = _
    have e : putK kvs p.1 p.2 = kvs ++ [p] := by
      unfold putK
      rw [if_neg]
      intro hh
      obtain ⟨q, hq, hd⟩ := List.any_eq_true.mp hh
      have hd' : q.1 = p.1 := of_decide_eq_true hd
      rw [List.map_append, List.nodup_append] at h
      exact h.2.2 _ (List.mem_map_of_mem hq) _ (List.mem_map_of_mem List.mem_cons_self) hd'
    rw [e, mergeK_new r _ (by rw [List.append_assoc]; exact h), List.append_assoc]
    rfl
theorem d_disp {ps : List (PF × PF)} : ∀ σ H Q, tD G (ddisp ps) σ H Q → tDisp (tPP G.K ps) σ H Q := fun σ H Q ⟨R, S, e, st, q⟩ p hp => by
  unfold ddisp at q
  split at q
  · rename_i ks ds he
    split at q
    · rename_i hc
      obtain ⟨hn, hl⟩ := hc
      have np : ∀ a, (S a ∨ R a) → a ≠ p := fun a z y => st.trk a z (by rw [y]; exact hp)
      have k0 : Kp H (upd H p (.dK [])) (fun a => S a ∨ R a) (fun a => S a ∨ R a ∨ a = p) noS := ⟨fun a o h _ => by
        rw [upd_ne (ne_of_none h hp)]; exact h, fun _ z => z.elim, fun a z => by
        rcases z with z | z | z
        · exact .inl (.inl z)
        · exact .inl (.inr z)
        · exact .inr (by rw [z]; exact hp)⟩
      have st1 : Sta G.K (upd H p (.dK [])) (fun a => R a ∨ a = p) S e σ := ⟨fun a z y => y.elim (st.dis a z) (np a (.inl z)), fun a z => by
        by_cases h : a = p
        · rw [h, upd_same]; exact fun z => by cases z
        · rw [upd_ne h]
          exact st.trk a (z.imp id fun y => y.elim id fun w => absurd w h), Er.keep k0 e S S σ (fun _ z => z) (fun _ _ z => z) st.er⟩
      refine pairs_ev ps ks ds _ st1 he fun kvs hk hr => ⟨upd_same, kvs, rfl, ?_, ?_⟩
      · have := congrArg List.length hk
        rw [List.length_map, List.length_map] at this
        rw [this]; exact hl
      · have em : mergeK [] kvs = kvs := by
          have hnd : (kvs.map (·.1)).Nodup := by
            rw [hk]
            exact List.Pairwise.map kx (fun a b h z => h (by simpa [kx, Sx] using z)) hn
          exact mergeK_new kvs [] (by simpa using hnd)
        have eu : upd (upd H p (.dK [])) p (.dK kvs) = upd H p (.dK kvs) := by
          funext a
          by_cases h : a = p
          · subst h; rw [upd_same, upd_same]
          · rw [upd_ne h, upd_ne h, upd_ne h]
        rw [em, eu]
        have k : Kp (upd H p (.dK [])) (upd H p (.dK kvs)) (fun a => S a ∨ R a ∨ a = p) (fun a => a = p ∨ S a ∨ R a) (fun a => a = p) := ⟨fun a o h n => by
          rw [upd_ne n] at h ⊢; exact h, fun a z => .inr (.inr z), fun a z => .inl (by
            rcases z with z | z | z
            · exact .inr (.inr z)
            · exact .inl z
            · exact .inr (.inl z))⟩
        refine q (.ref p) _ (fun a => a = p) S ⟨fun a o h hs => by rw [upd_ne (ne_of_none h hp)]; exact h, fun a z => z.elim (fun y => .inr (by rw [y]; exact hp)) .inl⟩ ⟨fun a z y => np a (.inl y) z, fun a z y => ?_, fun a z => ?_, ?_, ?_⟩
        · exact z.elim (fun w => np a (.inr y) w) fun w => st.dis a w y
        · by_cases h : a = p
          · rw [h, upd_same]; exact fun z => by cases z
          · rw [upd_ne h]
            exact st.trk a (z.elim (fun w => absurd w h) id)
        · exact ⟨p, kvs, rfl, ⟨upd_same, rfl⟩, hk, hn, Rps.keep k ds noS _ _ (fun _ z => z.elim) (fun _ z => z.elim) hr⟩
        · exact Er.keep k e S S σ (fun _ z => z) (fun a z => np a (.inl z)) st1.er
    · exact q.elim
  · exact q.elim
end
end DL

namespace DL
open PySem PySem.Spec PyProof.Rows L2
theorem takes_no {X : Cx} : Takes X (fun _ _ _ _ => False) := fun u s' ⟨_, _, _, _, _, _, _, _, _, _, _, _, _, _, _, _, w⟩ => w.elim
section
variable {X : Cx} {W0 : WX} {pn : List Nat} {a b c ex o : Expr} {es : List Expr} {st : Stmt} {rest sts : List Stmt} {pos apos : Pos} {fa fb : PF} {da db : DF} {f g : SF} {tf tg : TF}
/-! ### more expressions -/
theorem xmv (i : Nat) {x : Str} (hN : X.N[i]? = some x := by rfl) (hv : Vis X.env.scope x := by first | exact Or.inl rfl | exact Or.inr (Or.inl rfl) | exact Or.inr (Or.inr rfl)) (hd : (x == ("__debug__" : Str)) = false := by decide) (hcd : (x == ("__classdict__" : Str)) = false := by decide) : PE X (.Name x pos) (tD (gx X W0) (emv i)) := pD_mv (pv i hN hv hd hcd)
theorem x_frz (h : PE X ex (tD (gx X W0) da)) : PE X ex (tD (gx X W0) (dfrz da)) := PE.imp h (d_frz (G := gx X W0))
theorem x_tupO {k} {fs : DFs} (h : PA X es (tDs (gx X W0) fs)) : PE X (.Tuple es k pos) (tD (gx X W0) (dtupO fs)) := PE.imp (pe_tup h) (d_tupO (G := gx X W0))
theorem x_dic0 : PE X (.Dict [] [] pos) (tD (gx X W0) ddic0) := PE.imp pe_dnewK (d_dnew (G := gx X W0))
theorem x_disp {ks : List (Option Expr)} {vs : List Expr} {ps : List (PF × PF)} (h : PPs X pos ks vs (tPP X.K ps)) (hall : ks.all (·.isSome) = true := by rfl) (hl : ks.length = vs.length := by rfl) (h0 : ks ≠ [] := by exact List.cons_ne_nil _ _) (h15 : ks.length ≤ 15 := by decide) :
    PE X (.Dict ks vs pos) (tD (gx X W0) (ddisp ps)) := PE.imp (pe_disp h hall hl h0 h15) (d_disp (G := gx X W0))
theorem pp_nil : PPs X pos [] [] (tPP X.K []) := pps_nil
theorem pp_cons {ks : List (Option Expr)} {vs : List Expr} {ps : List (PF × PF)} (ha : PE X a (tP X.K fa)) (hb : PE X b (tP X.K fb)) (hr : PPs X pos ks vs (tPP X.K ps)) : PPs X pos (some a :: ks) (b :: vs) (tPP X.K ((fa, fb) :: ps)) := pps_cons ha hb hr
/-- a name of the module, a constant -/
theorem x_con {x : Str} {d : D} {u : Value} {v : V} (hm : X.mg x = some u) (r : RelV v u) (q : ∀ (H : Hp) (W : AS), Rp X.K H W d noS v) (hg : Gl X x := by rfl) (hd : (x == ("__debug__" : Str)) = false := by decide) : PE X (.Name x pos) (tP X.K (pcst d)) := PE.imp (pe_glob hg hm r hd) fun σ H Q ⟨R, S, e, d', st, hf, qq⟩ => by
  obtain rfl : d = d' := Option.some.inj hf
  exact qq v ((q H _).mono (fun _ z => z) fun _ z => z.elim)
structure Con (X : Cx) (x : Str) (d : D) : Prop where
  ex : ∃ (u : Value) (v : V), X.mg x = some u ∧ RelV v u ∧ ∀ (H : Hp) (W : AS), Rp X.K H W d noS v
theorem x_c {x : Str} {d : D} (h : Con X x d) (hg : Gl X x := by rfl) (hd : (x == ("__debug__" : Str)) = false := by decide) : PE X (.Name x pos) (tP X.K (pcst d)) := by
  obtain ⟨u, v, h1, h2, h3⟩ := h.ex
  exact x_con h1 h2 h3 hg hd
theorem x_nopP (ha : PE X a (tP X.K fa)) : PE X (.UnaryOp .Not a pos) (tP X.K (pnot fa)) := PE.imp (pe_not ha) p_not
theorem x_not (ha : PE X a (tD (gx X W0) da)) : PE X (.UnaryOp .Not a pos) (tD (gx X W0) (dnot da)) := PE.imp (pe_not ha) (d_not (G := gx X W0))
theorem x_one {op} {t : TE} (ha : PE X a t) : PE X (.BoolOp op [a] pos) t := pe_one ha
theorem x_and {es : List Expr} (ha : PE X a (tD (gx X W0) da)) (hb : PE X (.BoolOp .And (b :: es) pos) (tD (gx X W0) db)) : PE X (.BoolOp .And (a :: b :: es) pos) (tD (gx X W0) (dand da db)) := PE.imp (pe_and ha hb) (d_and (G := gx X W0))
theorem x_or {es : List Expr} (ha : PE X a (tD (gx X W0) da)) (hb : PE X (.BoolOp .Or (b :: es) pos) (tD (gx X W0) db)) : PE X (.BoolOp .Or (a :: b :: es) pos) (tD (gx X W0) (dor da db)) := PE.imp (pe_or ha hb) (d_or (G := gx X W0))
theorem x_if (hc : PT X c (tT (gx X W0) tf)) (ha : PE X a (tD (gx X W0) da)) (hb : PE X b (tD (gx X W0) db)) : PE X (.IfExp c a b pos) (tD (gx X W0) (dif tf da db)) := PE.imp (pe_ifExp hc ha hb) (d_if (G := gx X W0))
/-! ### tests -/
theorem q_P (h : PE X ex (tP X.K fa)) (he : ∀ whole, isTrue ex X.env whole = (do let v ← whole; standAt ex.pos; holding [v] (truthy v)) := by intro _; rfl) : PT X ex (tT (gx X W0) (tfP fa)) := PT.imp (pt_val h he) (t_P (G := gx X W0))
theorem q_D (h : PE X ex (tD (gx X W0) da)) (he : ∀ whole, isTrue ex X.env whole = (do let v ← whole; standAt ex.pos; holding [v] (truthy v)) := by intro _; rfl) : PT X ex (tT (gx X W0) (tfD da)) := PT.imp (pt_val h he) (t_D (G := gx X W0))
theorem tTest_tB {t : TE} : ∀ σ H Q, tB t σ H Q → tTest t σ H Q := fun _ _ _ h => h
theorem q_cmp {op : CmpOp} {r g} (ho : OpR X (compareOp op) r) (h : OpP X.K r g) (ha : PE X a (tP X.K fa)) (hb : PE X b (tP X.K fb)) (hm : behindInMarks op b = false) : PT X (.Compare a [op] [b] pos) (tT (gx X W0) (tfP (p2 g fa fb))) :=
  PT.imp (pt_cmpR ho ha hb hm) fun σ H Q q => by
    obtain ⟨R, S, e, d, st, hf, k⟩ := t_P (G := gx X W0) σ H Q q
    exact p_op h σ H _ ⟨R, S, e, d, st, hf, k⟩
theorem q_cmpD {op : CmpOp} {r g} (ho : OpR X (compareOp op) r) (h : OpA X.K r g) (ha : PE X a (tD (gx X W0) da)) (hb : PE X b (tD (gx X W0) db)) (hm : behindInMarks op b = false) : PT X (.Compare a [op] [b] pos) (tT (gx X W0) (tfD (d2 g da db))) :=
  PT.imp (pt_cmpR ho ha hb hm) fun σ H Q q => d_op (G := gx X W0) h σ H _ (t_D (G := gx X W0) σ H Q q)
theorem q_eqNil {p2} (hu : X.A.units + 64 < cLine) (ha : PE X a (tP X.K fa)) : PT X (.Compare a [.Eq] [.List [] p2] pos) (tT (gx X W0) (tfD (eqNil false fa))) :=
  PT.imp (pt_cmpR (o_eq hu) ha (pe_lst pa_nil) (nomark _)) fun σ H Q q => e_eqNil (G := gx X W0) σ H _ (t_D (G := gx X W0) σ H Q q)
theorem q_neNil {p2} (hu : X.A.units + 64 < cLine) (ha : PE X a (tP X.K fa)) : PT X (.Compare a [.NotEq] [.List [] p2] pos) (tT (gx X W0) (tfD (eqNil true fa))) :=
  PT.imp (pt_cmpR (o_ne hu) ha (pe_lst pa_nil) (nomark _)) fun σ H Q q => e_neNil (G := gx X W0) σ H _ (t_D (G := gx X W0) σ H Q q)
theorem q_not (h : PT X a (tT (gx X W0) tf)) : PT X (.UnaryOp .Not a pos) (tT (gx X W0) (tfnot tf)) := PT.imp (pt_not h) (t_not (G := gx X W0))
theorem PW.imp {t t' : TT} (h : PW X ex t) (k : ∀ σ H Q, t' σ H Q → t σ H Q) : PW X ex t' := ⟨fun wh pins s σ H Q I q => h.run wh pins s σ H Q I (k σ H Q q)⟩
theorem w_and1 (h : PT X a (tT (gx X W0) tf)) : PW X (.BoolOp .And [a] pos) (tT (gx X W0) tf) := pw_and1 h
theorem w_or1 (h : PT X a (tT (gx X W0) tf)) : PW X (.BoolOp .Or [a] pos) (tT (gx X W0) tf) := pw_or1 h
theorem w_and {es : List Expr} (h : PT X a (tT (gx X W0) tf)) (hb : PW X (.BoolOp .And (b :: es) pos) (tT (gx X W0) tg)) : PW X (.BoolOp .And (a :: b :: es) pos) (tT (gx X W0) (tfand tf tg)) := PW.imp (pw_and h hb) (t_and (G := gx X W0))
theorem w_or {es : List Expr} (h : PT X a (tT (gx X W0) tf)) (hb : PW X (.BoolOp .Or (b :: es) pos) (tT (gx X W0) tg)) : PW X (.BoolOp .Or (a :: b :: es) pos) (tT (gx X W0) (tfor tf tg)) := PW.imp (pw_or h hb) (t_or (G := gx X W0))
theorem q_w (h : PW X ex (tT (gx X W0) tf)) : PT X ex (tT (gx X W0) tf) := h.pt
/-! ### sources of loops -/
variable {tgx : Expr} {fs : DFs}
theorem j_list (h : PE X a (tD (gx X W0) da)) : PI X tgx a (tI (gx X W0) (srcL da)) := PI.imp (pi_list h) (i_list (G := gx X W0))
theorem j_tup (h : PE X a (tD (gx X W0) da)) : PI X tgx a (tI (gx X W0) (srcT da)) := PI.imp (pi_tup h) (i_tup (G := gx X W0))
theorem j_str (h : PE X a (tP X.K fa)) : PI X tgx a (tI (gx X W0) (srcS fa)) := PI.imp (pi_str h) (i_str (G := gx X W0))
theorem j_r1 {p pos : Pos} (hm : X.mg "range" = none) (h : PA X [a] (tDs (gx X W0) fs)) (hg : Gl X "range" := by rfl) (hs : starEach [a] X.env = [(false, eval a X.env)] := by rfl) : PI X tgx (.Call (.Name "range" p) [a] [] pos) (tI (gx X W0) (srcR1d fs)) := PI.imp (pi_range1 hg hm h hs) (i_rng1d (G := gx X W0))
theorem j_r2 {p pos : Pos} {fs : PFs} (hm : X.mg "range" = none) (h : PA X [a, b] (tPs X.K fs)) (hg : Gl X "range" := by rfl) (hs : starEach [a, b] X.env = [(false, eval a X.env), (false, eval b X.env)] := by rfl) (hs2 : starEach [b] X.env = [(false, eval b X.env)] := by rfl) : PI X tgx (.Call (.Name "range" p) [a, b] [] pos) (tI (gx X W0) (srcR2 fs)) := PI.imp (pi_range2 hg hm h hs hs2) (i_rng2 (G := gx X W0))
theorem j_enum {p pos tpos : Pos} {elts : List Expr} {kk : Nat} (hm : X.mg "enumerate" = none) (h : PA X [a] (tDs (gx X W0) fs)) (hg : Gl X "enumerate" := by rfl) (hs : starEach [a] X.env = [(false, eval a X.env)] := by rfl) : PI X (.Tuple elts kk tpos) (.Call (.Name "enumerate" p) [a] [] pos) (tI (gx X W0) (srcE fs)) := PI.imp (pi_enum hg hm h hs) (i_enum (G := gx X W0))
theorem j_zip {p pos tpos : Pos} {elts : List Expr} {kk : Nat} (hm : X.mg "zip" = none) (h : PA X [a, b] (tDs (gx X W0) fs)) (hg : Gl X "zip" := by rfl) (hs : starEach [a, b] X.env = (false, eval a X.env) :: starEach [b] X.env := by rfl) (hpl : (backTo pos (starEach [b] X.env)).any (·.1) = false := by rfl) : PI X (.Tuple elts kk tpos) (.Call (.Name "zip" p) [a, b] [] pos) (tI (gx X W0) (srcZ fs)) := PI.imp (pi_zip hg hm h hs hpl) (i_zip (G := gx X W0))
/-! ### comprehensions -/
theorem x_lc {elt tg iter : Expr} {ifs : List Expr} {scope : Scope} {src : SrcF} {bf : BF} {tst : TF} {ef : DF} {gt : TG} (own : List (Str × Nat)) (hc : X.calm = true) (hN : X.N.Nodup) (ok : blkC X.N X.env.scope scope own = true) (ht : TgR X.K [] (own.map (·.2)) gt bf) (hi : PI X tg iter (tI (gx X W0) src))
    (hg : ∀ (s : Shared) (H : Hp) (C : Addr) (cl : List (Str × Addr)) (fp : List Addr), PG (X.blk s H scope (compEnvC scope cl C X.env) fp) tg gt) (hts : ∀ (s : Shared) (H : Hp) (C : Addr) (cl : List (Str × Addr)) (fp : List Addr), PTs (X.blk s H scope (compEnvC scope cl C X.env) fp) ifs (tT (g0 X) tst))
    (he : ∀ (s : Shared) (H : Hp) (C : Addr) (cl : List (Str × Addr)) (fp : List Addr), PE (X.blk s H scope (compEnvC scope cl C X.env) fp) elt (tD (g0 X) ef)) (hs : ∀ x, foldedSetIterable iter X.env x = pure x := by intro _; rfl) :
    PE X (.ListComp elt [⟨tg, iter, ifs, 0⟩] scope pos) (tD (gx X W0) (dcomp src bf tst ef (own.map (·.2)))) :=
  PE.imp (pe_lc hc hN hi (blkOk_by ok) hg hts he hs) (d_comp (G := gx X W0) (G0 := g0 X) rfl ht)
theorem x_lcD {elt tg iter : Expr} {ifs : List Expr} {scope : Scope} {i : Nat} {bf : BF} {tst : TF} {ef : DF} {gt : TG} (w : DW) (own : List (Str × Nat)) (hc : X.calm = true) (hN : X.N.Nodup) (ok : blkC X.N X.env.scope scope own = true) (ht : TgR X.K [] (own.map (·.2)) gt bf) (hi : PI X tg iter (dwI w (tVar i)))
    (hg : ∀ (s : Shared) (H : Hp) (C : Addr) (cl : List (Str × Addr)) (fp : List Addr), PG (X.blk s H scope (compEnvC scope cl C X.env) fp) tg gt) (hts : ∀ (s : Shared) (H : Hp) (C : Addr) (cl : List (Str × Addr)) (fp : List Addr), PTs (X.blk s H scope (compEnvC scope cl C X.env) fp) ifs (tT (g0 X) tst))
    (he : ∀ (s : Shared) (H : Hp) (C : Addr) (cl : List (Str × Addr)) (fp : List Addr), PE (X.blk s H scope (compEnvC scope cl C X.env) fp) elt (tD (g0 X) ef)) (hs : ∀ x, foldedSetIterable iter X.env x = pure x := by intro _; rfl) :
    PE X (.ListComp elt [⟨tg, iter, ifs, 0⟩] scope pos) (tD (gx X W0) (dcomp (srcD w i) bf tst ef (own.map (·.2)))) :=
  PE.imp (PE.or (pe_lock (pe_lc hc hN hi (blkOk_by ok) hg hts he hs)) (pe_lc hc hN hi (blkOk_by ok) hg hts he hs)) (d_compD (G := gx X W0) (G0 := g0 X) rfl ht)
def tyes : TF := fun e => .ok (true, e)
theorem t_yes {G : Cfg} : ∀ σ H Q, tT G tyes σ H Q → tYes σ H Q := fun σ H Q ⟨R, S, e, st, q⟩ => q H S Fr.refl st
theorem r_nil {G : Cfg} : PTs X [] (tT G tyes) := ⟨fun pins s σ H Q I q => pts_nil.run pins s σ H Q I (t_yes σ H Q q)⟩
theorem r_one (h : PT X c (tT (gx X W0) tf)) : PTs X [c] (tT (gx X W0) tf) := pts_one h
/-! ### statements -/
abbrev sbad : SF := fun _ => .bad
theorem b_never : PSs X sts (tS (gx X W0) pn sbad) := PSs.imp pss_never fun D σ H ⟨R, S, e, st, q⟩ => q.elim
theorem b_nil : PSs X [] (tS (gx X W0) pn spass) := PSs.imp pss_nil (s_pass (G := gx X W0))
theorem b_one (h : PS X st (tS (gx X W0) pn f)) : PSs X [st] (tS (gx X W0) pn f) := pss_one h
theorem b_cons (h : PS X st (tS (gx X W0) pn f)) (hr : PSs X rest (tS (gx X W0) pn g)) : PSs X (st :: rest) (tS (gx X W0) pn (sseq f g)) := PSs.imp (pss_cons h hr) (s_seq (G := gx X W0))
theorem c_pass : PS X (.Pass pos) (tS (gx X W0) pn spass) := PS.imp ps_pass (s_pass (G := gx X W0))
theorem c_brk : PS X (.Break pos) (tS (gx X W0) pn sbrk) := PS.imp ps_break (s_brk (G := gx X W0))
theorem c_cont : PS X (.Continue pos) (tS (gx X W0) pn scont) := PS.imp ps_continue (s_cont (G := gx X W0))
theorem c_set (i : Nat) {x : Str} {p2 : Pos} (hN : X.N.Nodup) (he : PE X ex (tD (gx X W0) da)) (hp : i ∉ pn := by decide) (hi : X.N[i]? = some x := by rfl) (hx : Loc X.env.scope x := by first | exact .inl rfl | exact .inr rfl) (hs : swapsWith ex (some (.Name x p2)) pos.line X.env = pure false := by rfl) (hf : X.fn x = true ∨ X.env.scope.names.lookup x = some .local := by first | exact .inr rfl | exact .inl rfl) :
    PS X (.Assign [.Name x p2] ex pos) (tS (gx X W0) pn (sset i da)) := PS.imp (ps_set hN hi hx he hs hf) (s_set (G := gx X W0) hp)
theorem c_setLc (i : Nat) {x : Str} {p2 : Pos} {elt tg iter : Expr} {ifs : List Expr} {scope : Scope} {src : SrcF} {bf : BF} {tst : TF} {ef : DF} {gt : TG} {spos : Pos} (own : List (Str × Nat)) (hc : X.calm = true) (hN : X.N.Nodup) (ok : blkC X.N X.env.scope scope own = true) (ht : TgR X.K [] (own.map (·.2)) gt bf) (hi : PI X tg iter (tI (gx X W0) src))
    (hg : ∀ (s : Shared) (H : Hp) (C : Addr) (cl : List (Str × Addr)) (fp : List Addr), PG (X.blk s H scope (compEnvC scope cl C X.env) fp) tg gt) (hts : ∀ (s : Shared) (H : Hp) (C : Addr) (cl : List (Str × Addr)) (fp : List Addr), PTs (X.blk s H scope (compEnvC scope cl C X.env) fp) ifs (tT (g0 X) tst))
    (he : ∀ (s : Shared) (H : Hp) (C : Addr) (cl : List (Str × Addr)) (fp : List Addr), PE (X.blk s H scope (compEnvC scope cl C X.env) fp) elt (tD (g0 X) ef)) (hk : X.env.scope.kind = .function) (hp : i ∉ pn := by decide) (hiN : X.N[i]? = some x := by rfl) (hx : X.env.scope.names.lookup x = some .local := by rfl)
    (hl : (p2.line == pos.line) = true := by rfl) (ha : (scope.names.any fun (n, k) => n == x && (k == .local || k == .cell)) = false := by decide) (hs : ∀ x, foldedSetIterable iter X.env x = pure x := by intro _; rfl) :
    PS X (.Assign [.Name x p2] (.ListComp elt [⟨tg, iter, ifs, 0⟩] scope pos) spos) (tS (gx X W0) pn (sset i (dcomp src bf tst ef (own.map (·.2))))) :=
  PS.imp (ps_setLc hc hN hiN hx (sw_true hk hx hl ha) hi (blkOk_by ok) hg hts he hs) fun D σ H q => d_comp (G := gx X W0) (G0 := g0 X) rfl ht σ H _ (s_set (G := gx X W0) hp D σ H q)
theorem c_expr (he : PE X ex (tD (gx X W0) da)) (hs : swapsWith ex none pos.line X.env = pure false := by rfl) : PS X (.Expr ex pos) (tS (gx X W0) pn (sdrop da)) := PS.imp (ps_expr he hs) (s_drop (G := gx X W0))
theorem c_ret (he : PE X ex (tD (gx X W0) da)) : PS X (.Return (some ex) pos) (tS (gx X W0) pn (sret da)) := PS.imp (ps_ret he) (s_ret (G := gx X W0))
theorem c_retv (i : Nat) {x : Str} {p2 : Pos} (hN : X.N[i]? = some x := by rfl) (hv : Vis X.env.scope x := by first | exact Or.inl rfl | exact Or.inr (Or.inl rfl) | exact Or.inr (Or.inr rfl)) (hd : (x == ("__debug__" : Str)) = false := by decide) (hcd : (x == ("__classdict__" : Str)) = false := by decide) : PS X (.Return (some (.Name x p2)) pos) (tS (gx X W0) pn (sretv i)) := PS.imp (ps_ret (pv i hN hv hd hcd)) (s_retv (G := gx X W0))
theorem c_retn : PS X (.Return none pos) (tS (gx X W0) pn sretn) := PS.imp ps_retN (s_retn (G := gx X W0))
theorem c_if {t u : List Stmt} (hc : PT X c (tT (gx X W0) tf)) (ha : PSs X t (tS (gx X W0) pn f)) (hb : PSs X u (tS (gx X W0) pn g)) : PS X (.If c t u pos) (tS (gx X W0) pn (sif tf f g)) := PS.imp (ps_if hc ha hb) (s_if (G := gx X W0))
theorem c_while {t : List Stmt} (hp : PassesOwn (model X.prog X.w) X.A X.env X.xe) (hc : PT X c (tT (gx X W0) tf)) (ha : PSs X t (tS (gx X W0) pn f)) : PS X (.While c t [] pos) (tS (gx X W0) pn (swh tf f)) := PS.imp (ps_while hp hc ha) (s_wh (G := gx X W0))
theorem c_for {t : List Stmt} {tg iter : Expr} {src : SrcF} {bf : BF} {gt : TG} {vs : List Nat} (hp : PassesOwn (model X.prog X.w) X.A X.env X.xe) (hc : X.calm = true) (ht : TgR X.K pn vs gt bf) (hi : PI X tg iter (tI (gx X W0) src)) (hg : PG X tg gt) (hb : PSs X t (tS (gx X W0) pn f)) (hs : ∀ x, foldedSetIterable iter X.env x = pure x := by intro _; rfl) :
    PS X (.For tg iter t [] pos) (tS (gx X W0) pn (sfor src bf f)) := PS.imp (ps_for hp hc hi hg hb hs) (s_for (G := gx X W0) ht)
theorem c_unp {tg : Expr} {bf : BF} {gt : TG} {vs : List Nat} (ht : TgR X.K pn vs gt bf) (hg : PG X tg gt) (he : PE X ex (tD (gx X W0) da)) (hs : swapsWithSole [tg] ex pos.line X.env = pure false := by rfl) (hw : swappedStores [tg] ex X.env = pure none := by rfl) (h1 : (assignEach [tg] X.env).map (·.2) = [assign tg X.env] := by rfl) :
    PS X (.Assign [tg] ex pos) (tS (gx X W0) pn (sunp bf da)) := PS.imp (ps_asg he hg hs hw h1) (s_unp (G := gx X W0) ht)
theorem c_unpO {tg : Expr} {n : Nat} (is : List Nat) (hn : is.length = n) (hp : ∀ i ∈ is, i ∉ pn) (hg : PG X tg (gTup X.K n (gNames is))) (he : PE X ex (tD (gx X W0) da)) (hs : swapsWithSole [tg] ex pos.line X.env = pure false := by rfl) (hw : swappedStores [tg] ex X.env = pure none := by rfl) (h1 : (assignEach [tg] X.env).map (·.2) = [assign tg X.env] := by rfl) :
    PS X (.Assign [tg] ex pos) (tS (gx X W0) pn (sunpO is da)) := PS.imp (ps_asg he hg hs hw h1) (s_unpO (G := gx X W0) hn hp)
theorem c_aug (i : Nat) {x : Str} {p2 : Pos} {op : Operator} {gg : D → D → Option D} {r : V → V → Hp → VK → Prop} (hN : X.N.Nodup) (ho : OpR X (inplaceOp op) r) (h : OpP X.K r gg) (he : PE X ex (tD (gx X W0) da)) (hp : i ∉ pn := by decide) (hi : X.N[i]? = some x := by rfl) (hx : Loc X.env.scope x := by first | exact .inl rfl | exact .inr rfl) (hf : X.fn x = true ∨ X.env.scope.names.lookup x = some .local := by first | exact .inr rfl | exact .inl rfl) :
    PS X (.AugAssign (.Name x p2) op ex pos) (tS (gx X W0) pn (saug i gg da)) := PS.imp (ps_aug hN hi hx he (fun pins s σ H x y v u Q I rx ry q => ho pins s σ H x y v u Q I rx ry q) hf) (s_aug (G := gx X W0) h hp)
theorem c_dput (i : Nat) {x : Str} {p2 pos' : Pos} (hu : X.A.units + 1 < cLine) (hk : PE X a (tP X.K fa)) (he : PE X ex (tD (gx X W0) da)) (hN : X.N[i]? = some x := by rfl) (hv : Vis X.env.scope x := by first | exact Or.inl rfl | exact Or.inr (Or.inl rfl) | exact Or.inr (Or.inr rfl)) (hd : (x == ("__debug__" : Str)) = false := by decide) (hcd : (x == ("__classdict__" : Str)) = false := by decide)
    (hs : swapsWith ex (some (.Subscript (.Name x p2) a pos')) pos.line X.env = pure false := by rfl) : PS X (.Assign [.Subscript (.Name x p2) a pos'] ex pos) (tS (gx X W0) pn (sdput i fa da)) := PS.imp (ps_dput hu (pv i hN hv hd hcd) hk he hs) (s_dput (G := gx X W0))
/-! ### targets -/
theorem u_name (i : Nat) {x : Str} (hN : X.N.Nodup) (hi : X.N[i]? = some x := by rfl) (hx : Loc X.env.scope x := by first | exact .inl rfl | exact .inr rfl) (hf : X.fn x = true ∨ X.env.scope.names.lookup x = some .local := by first | exact .inr rfl | exact .inl rfl) : PG X (.Name x pos) (gName i) := pg_name hN hi hx hf
theorem u_nil : PGs X [] (gNames []) := pgs_nil
theorem u_cons {i : Nat} {is : List Nat} (h : PG X a (gName i)) (hr : PGs X es (gNames is)) (hs : (assignEach (a :: es) X.env).map (·.2) = assign a X.env :: (assignEach es X.env).map (·.2) := by rfl) : PGs X (a :: es) (gNames (i :: is)) := pgs_cons h hr hs
theorem u_tup {k n : Nat} {is : List Nat} (hc : X.calm = true) (h : PGs X es (gNames is)) (hn : (assignEach es X.env).length = n := by rfl) (hst : (assignEach es X.env).findIdx? (·.1) = none := by rfl) : PG X (.Tuple es k pos) (gTup X.K n (gNames is)) := pg_tup hc h hn hst
end
/-! ### a def by FunD -/
section
variable {P : Program} {w : World} {K : PySem.W.Frag} {mg : Str → Option Value} {base : Heap}
theorem fn_wrapD {x qual : Str} {params : Arguments} {bodyS : List Stmt} {scope : Scope} {f : Addr} {fd : FuncData} {N ps : List Str} {k m : Nat} {bs : List Bool} {fb : SF} (F : FunD K x qual params bodyS scope [] [] f fd) (sc : FnScope N ps scope) (hb : bs.length = ps.length) (hN : N.length = ps.length + m)
    (body : ∀ (cdv : Value) (A : Around) (outer : List PySem.Env) (s : Shared) (H : Hp) (E : XK), Room k (A.deeper (PyProof.Rows.envOfC qual scope s.heap.objs.size f cdv)) →
      PSs (cxOf (L2.CX P w) P w K mg base N qual scope f cdv A outer s H E) bodyS (tS ⟨K, mg, fun c d _ H' => E c d H'⟩ (pinsOf bs) fb)) :
    FnOk P w K mg base (L2.CX P w) (k + 1) f fd ps (spD K mg bs.length (fnF m bs fb)) := by
  refine F.ok sc (fun vs H Q E h => by rw [h.1, hb]) fun cdv A outer s H vs Q E hr h => ?_
  exact ⟨_, body cdv A outer s H E hr, fn_body sc hb hN h⟩
end
end DL

namespace DL
open PySem PySem.Spec PyProof.Rows L2
theorem kit_all (T : String) (hT : T = "bool" ∨ T = "int" ∨ T = "str" ∨ T = "tuple" ∨ T = "list" ∨ T = "dict") (K : PySem.W.Frag) : ∀ n ∈ tyNs, PySem.W.kitOne K (.type n) (.type T) = some (isaT T n) := by
  intro n hn
  simp only [tyNs, List.mem_cons, List.not_mem_nil, or_false] at hn
  rcases hT with rfl | rfl | rfl | rfl | rfl | rfl <;> rcases hn with rfl | rfl | rfl | rfl | rfl | rfl | rfl <;> rfl
def kit_bool (K : PySem.W.Frag) := kit_all "bool" (by simp) K
def kit_int (K : PySem.W.Frag) := kit_all "int" (by simp) K
def kit_str (K : PySem.W.Frag) := kit_all "str" (by simp) K
def kit_tuple (K : PySem.W.Frag) := kit_all "tuple" (by simp) K
def kit_list (K : PySem.W.Frag) := kit_all "list" (by simp) K
def kit_dict (K : PySem.W.Frag) := kit_all "dict" (by simp) K
section
variable {K : PySem.W.Frag}
theorem pCmp_frz {c : Int → Int → Bool} : ∀ x y d, pCmp c x y = some d → isFrz d = true := fun x y d h => by
  unfold pCmp at h
  split at h
  · cases h; rfl
  · cases h
theorem l_subA : OpA K (rI0 fun i j => .int (i - j)) pSub := OpA.of l_sub pI2_frz
theorem l_mulA : OpA K (rI CMulW fun i j => .int (i * j)) pMul := OpA.of l_mul pI2_frz
theorem l_divA : OpA K (rI CDivW fun i j => .int (i / j)) pDiv := OpA.of l_div pI2_frz
theorem l_modA : OpA K (rI (fun _ j => 0 < j) fun i j => .int (i % j)) pMod := OpA.of l_mod pI2_frz
theorem l_powA : OpA K (rI CPow fun i j => .int (i ^ j.toNat)) pPow := OpA.of l_pow pI2_frz
theorem l_cmpA {c : Int → Int → Bool} : OpA K (rI0 fun i j => .bl (c i j)) (pCmp c) := OpA.of l_cmp pCmp_frz
theorem bLen_frz : ∀ x d, bLen x = some d → isFrz d = true := fun x d h => by
  unfold bLen at h
  split at h <;> (try split at h) <;> cases h <;> rfl
theorem bSum_frz : ∀ x d, bSum x = some d → isFrz d = true := fun x d h => by
  unfold bSum at h
  split at h
  · obtain ⟨_, _, rfl⟩ := Option.map_eq_some_iff.mp h; rfl
  · cases h
theorem bAll_frz : ∀ x d, bAll x = some d → isFrz d = true := fun x d h => by
  unfold bAll at h
  split at h
  · obtain ⟨_, _, rfl⟩ := Option.map_eq_some_iff.mp h; rfl
  · cases h
theorem bMax2_frz : ∀ x d, bMax2 x = some d → isFrz d = true := fun x d h => by
  unfold bMax2 at h
  split at h <;> cases h <;> rfl
theorem bMin2_frz : ∀ x d, bMin2 x = some d → isFrz d = true := fun x d h => by
  unfold bMin2 at h
  split at h <;> cases h <;> rfl
theorem bAbs_frz : ∀ x d, bAbs x = some d → isFrz d = true := fun x d h => by
  unfold bAbs at h
  split at h <;> cases h <;> rfl
theorem bStr_frz : ∀ x d, bStr x = some d → isFrz d = true := fun x d h => by
  unfold bStr at h
  split at h
  · split at h <;> cases h <;> rfl
  · cases h; rfl
  · cases h
theorem bInt_frz : ∀ x d, bInt x = some d → isFrz d = true := fun x d h => by
  unfold bInt at h
  split at h
  · cases h; rfl
  · cases h; rfl
  · split at h
    · obtain ⟨_, _, rfl⟩ := Option.map_eq_some_iff.mp h; rfl
    · cases h
  · cases h
theorem l_lenA : ArA K (rLen K) bLen := ArA.of l_len bLen_frz
theorem l_sumA : ArA K (rSum K) bSum := ArA.of l_sum bSum_frz
theorem l_allA : ArA K (rAll K) bAll := ArA.of l_all bAll_frz
theorem l_max2A : ArA K (fun xs H Q => ∃ i j, xs = [.int i, .int j] ∧ Q (.int (if j > i then j else i)) H) bMax2 := ArA.of l_max2 bMax2_frz
theorem l_min2A : ArA K (fun xs H Q => ∃ i j, xs = [.int i, .int j] ∧ Q (.int (if j < i then j else i)) H) bMin2 := ArA.of l_min2 bMin2_frz
theorem l_absA : ArA K (fun xs H Q => ∃ i, xs = [.int i] ∧ Q (.int (if i < 0 then -i else i)) H) bAbs := ArA.of l_abs bAbs_frz
theorem l_strA : ArA K (fun xs H Q => (∃ i, xs = [.int i] ∧ i.natAbs.log2 < 1920 ∧ Q (.str (toString i)) H) ∨ ∃ a, xs = [.str a] ∧ Q (.str a) H) bStr := ArA.of l_str bStr_frz
theorem l_intA : ArA K (fun xs H Q => ((∃ i, xs = [.int i] ∧ Q (.int i) H) ∨ ∃ k, xs = [.bl k] ∧ Q (.int (if k then 1 else 0)) H) ∨ ∃ a n, xs = [.str a] ∧ PySem.intText? a = some n ∧ a.length ≤ 640 ∧ Q (.int n) H) bInt := ArA.of l_int bInt_frz
end
section
variable {X : Cx} {W0 : WX} {pn : List Nat} {a ex : Expr} {fa : PF} {da : DF} {pos : Pos}
theorem c_store (i : Nat) {x : Str} {p2 pos' : Pos} (hk : PE X a (tP X.K fa)) (he : PE X ex (tD (gx X W0) da)) (hN : X.N[i]? = some x := by rfl) (hv : Vis X.env.scope x := by first | exact Or.inl rfl | exact Or.inr (Or.inl rfl) | exact Or.inr (Or.inr rfl)) (hd : (x == ("__debug__" : Str)) = false := by decide) (hcd : (x == ("__classdict__" : Str)) = false := by decide)
    (ha : ∀ v, assign (.Subscript (.Name x p2) a pos') X.env v = (do
      let ov ← holding [v] (eval (.Name x p2) X.env)
      let iv ← holding [v, ov] (eval a X.env)
      standAt pos'
      holding [v, ov, iv] (setItem ov iv v)
      release [v, ov, iv] []) := by intro _; rfl)
    (hs : swapsWithSole [.Subscript (.Name x p2) a pos'] ex pos.line X.env = pure false := by rfl) (hw : swappedStores [.Subscript (.Name x p2) a pos'] ex X.env = pure none := by rfl) (h1 : (assignEach [.Subscript (.Name x p2) a pos'] X.env).map (·.2) = [assign (.Subscript (.Name x p2) a pos') X.env] := by rfl) :
    PS X (.Assign [.Subscript (.Name x p2) a pos'] ex pos) (tS (gx X W0) pn (sstore i fa da)) := PS.imp (ps_asg he (pg_sub (pv i hN hv hd hcd) hk set_list ha) hs hw h1) (s_store (G := gx X W0))
end
/-- a constant of the module -/
structure ConK (K : PySem.W.Frag) (mg : Str → Option Value) (x : Str) (d : D) : Prop where
  ex : ∃ (u : Value) (v : V), mg x = some u ∧ RelV v u ∧ ∀ (H : Hp) (W : AS), Rp K H W d noS v
theorem x_k {X : Cx} {x : Str} {d : D} {pos : Pos} (h : ConK X.K X.mg x d) (hg : Gl X x := by rfl) (hd : (x == ("__debug__" : Str)) = false := by decide) : PE X (.Name x pos) (tP X.K (pcst d)) := by
  obtain ⟨u, v, h1, h2, h3⟩ := h.ex
  exact x_con h1 h2 h3 hg hd
end DL

namespace DL
open PySem PySem.Spec PyProof.Rows L2
section
variable {X : Cx}
theorem o_iaddP : OpR X (inplaceOp .Add) rAddP := OpR.or iop_add iop_add_str
end
/-- a def of the text, by its statement -/
structure DefK (K : PySem.W.Frag) (mg : Str → Option Value) (x : Str) (st : Stmt) : Prop where
  ex : ∃ (f : Addr) (fd : FuncData), FunD K x x (defArgs st) (defBody st) (defScope st) [] [] f fd ∧ mg x = some (.ref f)
section
variable {P : Program} {w : World} {K : PySem.W.Frag} {mg : Str → Option Value} {base : Heap} {x : Str} {st : Stmt} {N ps : List Str} {m k : Nat} {bs : List Bool} {fb : SF}
theorem DefK.wrap (D : DefK K mg x st) (sc : FnScope N ps (defScope st)) (hb : bs.length = ps.length) (hN : N.length = ps.length + m)
    (bind : ∀ (kV doc pm : Value) (an : Option Addr) (cdv ct : Value) (us : List Value), us.length = ps.length → bindArgs (PySem.W.fnOf x x (defArgs st) (defBody st) (defScope st) .none kV doc pm an cdv ct) ⟨us, []⟩ = pure (ps.zip us))
    (body : ∀ (f : Addr) (cdv : Value) (A : Around) (outer : List PySem.Env) (s : Shared) (H : Hp) (E : XK), Room k (A.deeper (PyProof.Rows.envOfC x (defScope st) s.heap.objs.size f cdv)) →
      PSs (cxOf (L2.CX P w) P w K mg base N x (defScope st) f cdv A outer s H E) (defBody st) (tS (gx (cxOf (L2.CX P w) P w K mg base N x (defScope st) f cdv A outer s H E) (fun c d _ H' => E c d H')) (pinsOf bs) fb)) :
    Fnn P w K mg base (k + 1) x bs (fnF m bs fb) := by
  obtain ⟨f, fd, F, g⟩ := D.ex
  exact ⟨f, fd, ps, fn_wrapD F sc hb hN fun cdv A outer s H E hr => body f cdv A outer s H E hr, g, F.kp, F.bindsN bind⟩
theorem DefK.bad (D : DefK K mg x st) (hb : bs.length = ps.length) (sc : FnScope N ps (defScope st))
    (bind : ∀ (kV doc pm : Value) (an : Option Addr) (cdv ct : Value) (us : List Value), us.length = ps.length → bindArgs (PySem.W.fnOf x x (defArgs st) (defBody st) (defScope st) .none kV doc pm an cdv ct) ⟨us, []⟩ = pure (ps.zip us)) :
    Fnn P w K mg base k x bs (fun _ => .bad) := by
  obtain ⟨f, fd, F, g⟩ := D.ex
  refine ⟨f, fd, ps, ⟨fun vs H Q E h => by rw [h.1, hb], fun A outer s H args us vs Q E hr e b r h => ?_⟩, g, F.kp, F.bindsN bind⟩
  obtain ⟨_, R, S, ds, st0, q⟩ := h
  exact q.elim
theorem Fnn.mono {j k : Nat} {F : FF} (h : Fnn P w K mg base j x bs F) (hk : j ≤ k) : Fnn P w K mg base k x bs F := by
  obtain ⟨f, fd, ps, h1, h2, h3, h4⟩ := h.ex
  exact ⟨f, fd, ps, ⟨h1.len, fun A outer s H args us vs Q E hr e b r q => h1.run A outer s H args us vs Q E (hr.mono hk) e b r q⟩, h2, h3, h4⟩
end
end DL

namespace DL
open PySem PySem.Spec PyProof.Rows L2
/-- nothing is let out -/
def CXn : CXT := fun _ _ _ _ _ _ => False
theorem fnok_no {P : Program} {w : World} {K : PySem.W.Frag} {mg : Str → Option Value} {base : Heap} {k : Nat} {f : Addr} {fd : FuncData} {ps : List Str} {sp : Sp} (F : FnOk P w K mg base (L2.CX P w) k f fd ps sp) :
    FnOk P w K mg base CXn k f fd ps (fun vs H Q _ => sp vs H Q fun _ _ _ => False) :=
  ⟨fun vs H Q E h => F.len vs H Q _ h, fun A outer s H args us vs Q E hr e b r h => codeAny_mono (F.run A outer s H args us vs Q _ hr e b r h) fun res s' z => by
    cases res with
    | error x =>
      obtain ⟨_, _, _, _, _, _, _, _, _, _, _, _, q⟩ := z
      exact q
    | ok fl => cases fl <;> exact z⟩
/-- the script at a, and what a law's body makes of it -/
theorem law_sp {K : PySem.W.Frag} {mg : Str → Option Value} {F : FF} {e : DL.Env} {H : Hp} {a : Addr} {ns : List Int} (hF : F [.scr ns] = .ok (.bl true, e)) (hS : SqL K H a (ns.map V.int)) : spD K mg 1 F [.ref a] H (fun v _ => v = .bl true) (fun _ _ _ => False) := by
  refine ⟨rfl, noS, noS, [.scr ns], ⟨fun _ z => z.elim, fun a z => z.elim (fun y => y.elim) fun y => y.elim, ?_⟩, ?_⟩
  · exact ⟨.ref a, [], noS, noS, rfl, fun _ z => z, fun _ z => z, fun _ z => z.elim, ⟨a, rfl, hS.imp (fun z => ⟨z, fun y => y.elim (fun q => q.elim) fun q => q.elim⟩) id⟩, rfl⟩
  · rw [hF]
    intro v H' S1 S2 _ n
    exact n.rp
theorem defK {fa : List He.Fa} {cs : List (Str × D)} {fn : List He.DefD} {K : PySem.W.Frag} {h : Heap} {mg : Str → Option Value} (X : K.In h) (G : h.Ns mainGlobals mg) (c : SaysX fa cs fn K) {x : Str} {st : Stmt} (i j : Nat) (hi : fn[i]? = some ⟨(x, none), x, x, defArgs st, defBody st, defScope st, [], []⟩) (hj : fa[j]? = some (.glo x)) : DefK K mg x st := by
  obtain ⟨fd, F⟩ := c.def_ i hi
  exact ⟨_, fd, F, He.glo_ok X G (c.fact j hj)⟩
theorem conK {fa : List He.Fa} {cs : List (Str × D)} {fn : List He.DefD} {K : PySem.W.Frag} {h : Heap} {mg : Str → Option Value} (X : K.In h) (G : h.Ns mainGlobals mg) (c : SaysX fa cs fn K) {x : Str} {d : D} (i : Nat) (hi : cs[i]? = some (x, d)) : ConK K mg x d := by
  obtain ⟨u, v, h1, h2, h3⟩ := conB_ok X G (c.con i hi)
  exact ⟨u, v, h1, h2, h3⟩
theorem freeK {fa : List He.Fa} {cs : List (Str × D)} {fn : List He.DefD} {K : PySem.W.Frag} {h : Heap} {mg : Str → Option Value} (X : K.In h) (G : h.Ns mainGlobals mg) (c : SaysX fa cs fn K) {x : Str} (i : Nat) (hi : fa[i]? = some (.free x)) : mg x = none := He.free_ok X G (c.fact i hi)
end DL

namespace K79
open PySem PySem.Spec PyProof.Rows L2 DL
def top (i : Nat) : Stmt := PySem.Challenge.pw_leastform_k79_values_read.main.body.getD i (.Pass ⟨0, 0, 0, 0⟩)
def dd (x : Str) (i : Nat) : He.DefD := ⟨(x, none), x, x, defArgs (top i), defBody (top i), defScope (top i), [], []⟩
def fn : List He.DefD := [dd "is_text" 5, dd "is_value" 6, dd "quoted" 10, dd "show_value" 11, dd "place_behind" 12, dd "read_quoted" 13, dd "read_number" 14, dd "read_list" 15, dd "read_dict" 16, dd "read_at" 17, dd "read_value" 18,
  dd "_law_mixed" 20, dd "_law_deck" 21, dd "_law_take" 22, dd "_law_signs" 23, dd "_law_text" 24, dd "_law_unlike" 25, dd "_law_far" 26, dd "_law_world" 27, dd "_law_number" 28, dd "_law_leaf" 29, dd "_law_dict" 30, dd "_law_value" 31, dd "_law_samples" 32, dd "_law_same" 33, dd "_law_quoted" 34, dd "_law_written" 35, dd "_law_read_right" 36, dd "law" 37]
def fa : List He.Fa := [.free "all", .free "bool", .free "dict", .free "int", .free "isinstance", .free "len", .free "list", .free "max", .free "range", .free "sorted", .free "str", .free "sum", .free "tuple", .free "zip", .exc "NoText"] ++ fn.map fun d => .glo d.name
def cSIGNS : D := .str [32, 33, 34, 35, 36, 38, 39, 40, 41, 42, 43, 44, 45, 46, 47, 48, 49, 50, 51, 52, 53, 54, 55, 56, 57, 58, 59, 60, 61, 62, 63, 64, 65, 66, 67, 68, 69, 70, 71, 72, 73, 74, 75, 76, 77, 78, 79, 80, 81, 82, 83, 84, 85, 86, 87, 88, 89, 90, 91, 92, 93, 94, 95, 96, 97, 98, 99, 100, 101, 102, 103, 104, 105, 106, 107, 108, 109, 110, 111, 112, 113, 114, 115, 116, 117, 118, 119, 120, 121, 122, 123, 124, 125, 126]
def cFIGURES : D := .str [48, 49, 50, 51, 52, 53, 54, 55, 56, 57]
def cWORDS : D := .tup [.tup [.str [110, 111, 116, 104, 105, 110, 103], .non], .tup [.str [110, 111], .bl false], .tup [.str [121, 101, 115], .bl true]]
def cs : List (Str × D) := [("WORDS", cWORDS), ("FIGURES", cFIGURES), ("SIGNS", cSIGNS)]
abbrev R : PySem.W.OpenRow := PySem.W.OpenLaw.row PySem.Challenge.rw_leastform_k79_values_read
def loose : List Str := (["FormError", "NoText", "SIGNS", "is_text", "is_value", "FIGURES", "WORDS", "quoted", "show_value", "place_behind", "read_quoted", "read_number", "read_list", "read_dict", "read_at", "read_value"] : List Str) ++ (["_law_mixed", "_law_deck", "_law_take", "_law_signs", "_law_text", "_law_unlike", "_law_far", "_law_world", "_law_number", "_law_leaf", "_law_dict", "_law_value", "_law_samples", "_law_same", "_law_quoted", "_law_written"] : List Str) ++ (["_law_read_right"] : List Str)
abbrev hk : PySem.W.Hook := hookX 5 fa cs fn
def ob (s : PySem.W.SharedT) : He.AlD := obsXG 5 fa cs fn (HandSHeadRun.getT s)
theorem ob_eq (s : PySem.W.SharedT) : ob s = hk.obs s.abs := obsXG_eq (HandSHeadRun.getT_eq s)
theorem run (w : World) : HandSHeadRun.RunEq R (PySem.W.view R.prog [37]) hk ob 6000 loose w := by
  intro os
  kernel_rfl
end K79

namespace K79
open PySem PySem.Spec PyProof.Rows L2 DL
noncomputable section
/-! ### what the defs do -/
def b_p_is_text_1 : DF := toD (p2 pIn (pvar 1) (pcst cSIGNS))
def b_p_is_text : SF := sret (dand (toD (pIsa "str" (pvar 0))) (dcall bAll (dcons (dcomp (srcS (pvar 0)) (bname 1) (tyes) (b_p_is_text_1) [1]) (dnil))))
def F_p_is_text : FF := fnF 1 [false] (b_p_is_text)
def b_p_is_value_1 (c_p_is_value : FF) : DF := ecall c_p_is_value [false] (aslot 1 (anil))
def b_p_is_value_2 (c_p_is_text : FF) (c_p_is_value : FF) : DF := dand (ecall c_p_is_text [false] (aslot 2 (anil))) (ecall c_p_is_value [false] (aslot 3 (anil)))
def b_p_is_value (c_p_is_value : FF) (c_p_is_text : FF) : SF := sseq (sif (tfor (tfP (p2 pIsN (pvar 0) (pcst .non))) (tfP (pIsa "int" (pvar 0)))) (sret (toD (pcst (.bl true)))) (spass)) (
  sseq (sif (tfP (pIsa "list" (pvar 0))) (sret (dcall bAll (dcons (dcomp (srcL (evar 0)) (bname 1) (tyes) (b_p_is_value_1 c_p_is_value) [1]) (dnil)))) (spass)) (
  sseq (sif (tfP (pIsa "dict" (pvar 0))) (sret (dcall bAll (dcons (dcomp (srcD .items 0) (btup [2, 3]) (tyes) (b_p_is_value_2 c_p_is_text c_p_is_value) [2, 3]) (dnil)))) (spass)) (
  sret (ecall c_p_is_text [false] (aslot 0 (anil))))))
def F_p_is_value : Nat → FF
  | 0 => fun _ => .bad
  | n + 1 => fnF 3 [false] (b_p_is_value (F_p_is_value n) F_p_is_text)
def b_p_quoted : SF := sret (toD (p2 pAdd (prepl [34] [34] [34, 34] (pvar 0)) (pcst (.str [34]))))
def F_p_quoted : FF := fnF 0 [false] (b_p_quoted)
def b_p_show_value_1 (c_p_show_value : FF) : DF := ecall c_p_show_value [false] (aslot 1 (anil))
def b_p_show_value_2 (c_p_quoted : FF) (c_p_show_value : FF) : DF := d2 dAdd (d2 dAdd (ecall c_p_quoted [false] (aslot 2 (anil))) (toD (pcst (.str [58, 32])))) (ecall c_p_show_value [false] (aval (toD (p2 pIx (pvar 0) (pvar 2))) (anil)))
def b_p_show_value (c_p_quoted : FF) (c_p_show_value : FF) : SF := sseq (sif (tfP (pIsa "str" (pvar 0))) (sret (ecall c_p_quoted [false] (aslot 0 (anil)))) (spass)) (
  sseq (sif (tfP (pIsa "list" (pvar 0))) (sret (d2 dAdd (d2 dAdd (toD (pcst (.str [91]))) (djoin (pcst (.str [44, 32])) (dcomp (srcL (evar 0)) (bname 1) (tyes) (b_p_show_value_1 c_p_show_value) [1]))) (toD (pcst (.str [93]))))) (spass)) (
  sseq (sif (tfP (pIsa "dict" (pvar 0))) (sret (d2 dAdd (d2 dAdd (toD (pcst (.str [123]))) (djoin (pcst (.str [44, 32])) (dcomp (srcL (dcall bSorted (dcons (evar 0) (dnil)))) (bname 2) (tyes) (b_p_show_value_2 c_p_quoted c_p_show_value) [2]))) (toD (pcst (.str [125]))))) (spass)) (
  sseq (sif (tfP (p2 pIsN (pvar 0) (pcst .non))) (sret (toD (pcst (.str [110, 111, 116, 104, 105, 110, 103])))) (spass)) (
  sseq (sif (tfP (pIsa "bool" (pvar 0))) (sret (d2 dIx (dlst (dcons (toD (pcst (.str [110, 111]))) (dcons (toD (pcst (.str [121, 101, 115]))) (dnil)))) (toD (pcall bInt (pcons (pvar 0) (pnil)))))) (spass)) (
  sret (toD (pcall bStr (pcons (pvar 0) (pnil)))))))))
def F_p_show_value : Nat → FF
  | 0 => fun _ => .bad
  | n + 1 => fnF 2 [false] (b_p_show_value F_p_quoted (F_p_show_value n))
def b_p_place_behind : SF := sseq (sif (tfP (p2 pNe (psl (pvar 0) (oSome (pvar 1)) (oSome (p2 pAdd (pvar 1) (pcall bLen (pcons (pvar 2) (pnil)))))) (pvar 2))) (sbad) (spass)) (
  sret (toD (p2 pAdd (pvar 1) (pcall bLen (pcons (pvar 2) (pnil))))))
def F_p_place_behind : FF := fnF 0 [false, false, false] (b_p_place_behind)
def b_p_read_quoted_1 : TF := tfP (p2 pLt (pvar 1) (pcall bLen (pcons (pvar 0) (pnil))))
def b_p_read_quoted_2 : SF := sif (tfP (p2 pEq (psl (pvar 0) (oSome (pvar 1)) (oSome (p2 pAdd (pvar 1) (pcst (.int 2))))) (pcst (.str [34, 34])))) (sseq (saug 2 pAdd (toD (pcst (.str [34])))) (
  saug 1 pAdd (toD (pcst (.int 2))))) (sif (tfP (p2 pEq (p2 pIx (pvar 0) (pvar 1)) (pcst (.str [34])))) (sret (dtupO (dcons (emv 2) (dcons (toD (p2 pAdd (pvar 1) (pcst (.int 1)))) (dnil))))) (sseq (saug 2 pAdd (toD (p2 pIx (pvar 0) (pvar 1)))) (
  saug 1 pAdd (toD (pcst (.int 1))))))
def b_p_read_quoted (c_p_place_behind : FF) : SF := sseq (sset 1 (ecall c_p_place_behind [false, false, false] (aslot 0 (aslot 1 (aval (toD (pcst (.str [34]))) (anil)))))) (
  sseq (sset 2 (toD (pcst (.str [])))) (
  sseq (swh (b_p_read_quoted_1) (b_p_read_quoted_2)) (
  sbad)))
def F_p_read_quoted : FF := fnF 1 [false, false] (b_p_read_quoted F_p_place_behind)
def b_p_read_number_1 : TF := tfand (tfP (p2 pLt (pvar 3) (pcall bLen (pcons (pvar 0) (pnil))))) (tfP (p2 pIn (p2 pIx (pvar 0) (pvar 3)) (pcst cFIGURES)))
def b_p_read_number_2 : SF := saug 3 pAdd (toD (pcst (.int 1)))
def b_p_read_number : SF := sseq (sset 2 (evar 1)) (
  sseq (sif (tfP (p2 pEq (psl (pvar 0) (oSome (pvar 1)) (oSome (p2 pAdd (pvar 1) (pcst (.int 1))))) (pcst (.str [45])))) (sset 2 (toD (p2 pAdd (pvar 1) (pcst (.int 1))))) (spass)) (
  sseq (sset 3 (evar 2)) (
  sseq (swh (b_p_read_number_1) (b_p_read_number_2)) (
  sseq (sif (tfP (p2 pEq (pvar 3) (pvar 2))) (sbad) (spass)) (
  sret (dtupO (dcons (toD (pcall bInt (pcons (psl (pvar 0) (oSome (pvar 1)) (oSome (pvar 3))) (pnil)))) (dcons (emv 3) (dnil)))))))))
def F_p_read_number : FF := fnF 2 [false, false] (b_p_read_number)
def b_p_read_list_1 : TF := tfP (pcst (.bl true))
def b_p_read_list_2 (c_p_place_behind : FF) (c_p_read_at : FF) : SF := sseq (sunpO [3, 1] (ecall c_p_read_at [false, false] (aslot 0 (aslot 1 (anil))))) (
  sseq (sdrop (mapp 2 (evar 3))) (
  sseq (sif (tfP (p2 pEq (psl (pvar 0) (oSome (pvar 1)) (oSome (p2 pAdd (pvar 1) (pcst (.int 1))))) (pcst (.str [93])))) (sret (dtupO (dcons (emv 2) (dcons (toD (p2 pAdd (pvar 1) (pcst (.int 1)))) (dnil))))) (spass)) (
  sset 1 (ecall c_p_place_behind [false, false, false] (aslot 0 (aslot 1 (aval (toD (pcst (.str [44, 32]))) (anil))))))))
def b_p_read_list (c_p_place_behind : FF) (c_p_read_at : FF) : SF := sseq (sset 1 (ecall c_p_place_behind [false, false, false] (aslot 0 (aslot 1 (aval (toD (pcst (.str [91]))) (anil)))))) (
  sseq (sset 2 (dlst (dnil))) (
  sseq (sif (tfP (p2 pEq (psl (pvar 0) (oSome (pvar 1)) (oSome (p2 pAdd (pvar 1) (pcst (.int 1))))) (pcst (.str [93])))) (sret (dtupO (dcons (emv 2) (dcons (toD (p2 pAdd (pvar 1) (pcst (.int 1)))) (dnil))))) (spass)) (
  swh (b_p_read_list_1) (b_p_read_list_2 c_p_place_behind c_p_read_at))))
def b_p_read_dict_1 : TF := tfP (pcst (.bl true))
def b_p_read_dict_2 (c_p_place_behind : FF) (c_p_read_at : FF) (c_p_read_quoted : FF) : SF := sseq (sunpO [3, 1] (ecall c_p_read_quoted [false, false] (aslot 0 (aslot 1 (anil))))) (
  sseq (sset 1 (ecall c_p_place_behind [false, false, false] (aslot 0 (aslot 1 (aval (toD (pcst (.str [58, 32]))) (anil)))))) (
  sseq (sunpO [4, 1] (ecall c_p_read_at [false, false] (aslot 0 (aslot 1 (anil))))) (
  sseq (sdput 2 (pvar 3) (evar 4)) (
  sseq (sif (tfP (p2 pEq (psl (pvar 0) (oSome (pvar 1)) (oSome (p2 pAdd (pvar 1) (pcst (.int 1))))) (pcst (.str [125])))) (sret (dtupO (dcons (emv 2) (dcons (toD (p2 pAdd (pvar 1) (pcst (.int 1)))) (dnil))))) (spass)) (
  sset 1 (ecall c_p_place_behind [false, false, false] (aslot 0 (aslot 1 (aval (toD (pcst (.str [44, 32]))) (anil))))))))))
def b_p_read_dict (c_p_place_behind : FF) (c_p_read_quoted : FF) (c_p_read_at : FF) : SF := sseq (sset 1 (ecall c_p_place_behind [false, false, false] (aslot 0 (aslot 1 (aval (toD (pcst (.str [123]))) (anil)))))) (
  sseq (sset 2 (ddic0)) (
  sseq (sif (tfP (p2 pEq (psl (pvar 0) (oSome (pvar 1)) (oSome (p2 pAdd (pvar 1) (pcst (.int 1))))) (pcst (.str [125])))) (sret (dtupO (dcons (emv 2) (dcons (toD (p2 pAdd (pvar 1) (pcst (.int 1)))) (dnil))))) (spass)) (
  swh (b_p_read_dict_1) (b_p_read_dict_2 c_p_place_behind c_p_read_at c_p_read_quoted))))
def b_p_read_at_1 : SF := sif (tfP (p2 pEq (psl (pvar 0) (oSome (pvar 1)) (oSome (p2 pAdd (pvar 1) (pcall bLen (pcons (pvar 3) (pnil)))))) (pvar 3))) (sret (dtupO (dcons (emv 4) (dcons (toD (p2 pAdd (pvar 1) (pcall bLen (pcons (pvar 3) (pnil))))) (dnil))))) (spass)
def b_p_read_at (c_p_read_quoted : FF) (c_p_read_list : FF) (c_p_read_dict : FF) (c_p_read_number : FF) : SF := sseq (sset 2 (toD (psl (pvar 0) (oSome (pvar 1)) (oSome (p2 pAdd (pvar 1) (pcst (.int 1))))))) (
  sseq (sif (tfP (p2 pEq (pvar 2) (pcst (.str [34])))) (sret (ecall c_p_read_quoted [false, false] (aslot 0 (aslot 1 (anil))))) (spass)) (
  sseq (sif (tfP (p2 pEq (pvar 2) (pcst (.str [91])))) (sret (ecall c_p_read_list [false, false] (aslot 0 (aslot 1 (anil))))) (spass)) (
  sseq (sif (tfP (p2 pEq (pvar 2) (pcst (.str [123])))) (sret (ecall c_p_read_dict [false, false] (aslot 0 (aslot 1 (anil))))) (spass)) (
  sseq (sfor (srcT (toD (pcst cWORDS))) (btup [3, 4]) (b_p_read_at_1)) (
  sret (ecall c_p_read_number [false, false] (aslot 0 (aslot 1 (anil)))))))))
mutual
def F_p_read_list : Nat → FF
  | 0 => fun _ => .bad
  | n + 1 => fnF 2 [false, false] (b_p_read_list F_p_place_behind (F_p_read_at n))
def F_p_read_dict : Nat → FF
  | 0 => fun _ => .bad
  | n + 1 => fnF 3 [false, false] (b_p_read_dict F_p_place_behind F_p_read_quoted (F_p_read_at n))
def F_p_read_at : Nat → FF
  | 0 => fun _ => .bad
  | n + 1 => fnF 3 [false, false] (b_p_read_at F_p_read_quoted (F_p_read_list n) (F_p_read_dict n) F_p_read_number)
end
def b_p_read_value (c_p_read_at : FF) (c_p_is_value : FF) (c_p_show_value : FF) : SF := sseq (sif (tfnot (tfP (pIsa "str" (pvar 0)))) (sbad) (spass)) (
  sseq (sunpO [1, 2] (ecall c_p_read_at [false, false] (aslot 0 (aval (toD (pcst (.int 0))) (anil))))) (
  sseq (sif (tfor (tfnot (tfD (ecall c_p_is_value [false] (aslot 1 (anil))))) (tfD (d2 pNe (ecall c_p_show_value [false] (aslot 1 (anil))) (evar 0)))) (sbad) (spass)) (
  sretv 1)))
def F_p_read_value (n : Nat) : FF := fnF 2 [false] (b_p_read_value (F_p_read_at n) (F_p_is_value n) (F_p_show_value n))
def b_l_mixed : SF := sseq (sset 0 (toD (p2 pMod (p2 pMul (p2 pAdd (p2 pAdd (p2 pMod (pvar 0) (pcst (.int 2147483629))) (p2 pMul (pcst (.int 7919)) (pvar 1))) (pcst (.int 1))) (pcst (.int 48271))) (pcst (.int 2147483647))))) (
  sseq (sset 0 (toD (p2 pMod (p2 pAdd (p2 pAdd (p2 pMul (pvar 0) (pvar 0)) (p2 pMul (pcst (.int 69621)) (pvar 1))) (pcst (.int 7))) (pcst (.int 2147483587))))) (
  sret (toD (p2 pDiv (p2 pMod (p2 pMul (p2 pAdd (p2 pMul (p2 pMod (pvar 0) (pcst (.int 65536))) (pcst (.int 32749))) (p2 pDiv (pvar 0) (pcst (.int 65536)))) (pcst (.int 39373))) (pcst (.int 2147483563))) (pcst (.int 8))))))
def F_l_mixed : FF := fnF 0 [false, false] (b_l_mixed)
def b_l_deck : SF := sseq (sset 1 (dcall bList (dcons (dsl (evar 0) (oNone) (oSome (pcst (.int 63)))) (dnil)))) (
  sret (dlst (dcons (drev (evar 1)) (dcons (toD (p2 pAdd (pcall bSum (pcons (pvar 1) (pnil))) (p2 pMul (pcst (.int 7)) (pcall bLen (pcons (pvar 1) (pnil)))))) (dcons (toD (pcst (.int 0))) (dnil))))))
def F_l_deck : FF := fnF 1 [false] (b_l_deck)
def b_l_take (c_l_mixed : FF) : SF := sseq (sstore 0 (pcst (.int 2)) (toD (p2 pAdd (p2 pIx (pvar 0) (pcst (.int 2))) (pcst (.int 1))))) (
  sseq (sif (tfD (eqNil false (p2 pIx (pvar 0) (pcst (.int 0))))) (sret (d2 pMod (ecall c_l_mixed [false, false] (aval (toD (p2 pIx (pvar 0) (pcst (.int 1)))) (aval (toD (p2 pIx (pvar 0) (pcst (.int 2)))) (anil)))) (evar 1))) (spass)) (
  sseq (sset 2 (mpopP 0 0)) (
  sseq (sif (tfP (p2 pLt (pvar 2) (p2 pPow (pcst (.int 10)) (pcst (.int 18))))) (sret (d2 pMod (ecall c_l_mixed [false, false] (aslot 2 (aval (toD (p2 pIx (pvar 0) (pcst (.int 2)))) (anil)))) (evar 1))) (spass)) (
  sseq (sdrop (mappP 0 0 (p2 pDiv (pvar 2) (pvar 1)))) (
  sret (toD (p2 pMod (pvar 2) (pvar 1))))))))
def F_l_take : FF := fnF 1 [true, false] (b_l_take F_l_mixed)
def b_l_signs : SF := sseq (sset 0 (toD (pcst (.str [32, 33, 34, 35, 36, 38, 39, 40, 41, 42, 43, 44, 45, 46, 47, 48, 49, 50, 51, 52, 53, 54, 55, 56, 57, 58, 59, 60, 61, 62, 63, 64, 65, 66, 67, 68, 69, 70, 71, 72, 73, 74, 75, 76, 77, 78, 79, 80, 81, 82, 83, 84, 85, 86, 87, 88, 89, 90, 91, 92, 93, 94, 95, 96])))) (
  sret (toD (p2 pAdd (pvar 0) (pcst (.str [97, 98, 99, 100, 101, 102, 103, 104, 105, 106, 107, 108, 109, 110, 111, 112, 113, 114, 115, 116, 117, 118, 119, 120, 121, 122, 123, 124, 125, 126])))))
def F_l_signs : FF := fnF 1 [] (b_l_signs)
def b_l_text_1 (c_l_take : FF) : SF := sset 4 (d2 dAdd (evar 4) (d2 dIx (evar 3) (ecall c_l_take [true, false] (aslot 0 (aval (toD (pcall bLen (pcons (pvar 3) (pnil)))) (anil))))))
def b_l_text (c_l_signs : FF) (c_l_take : FF) : SF := sseq (sset 2 (ecall c_l_signs [] (anil))) (
  sseq (sset 3 (d2 dIx (dlst (dcons (evar 2) (dcons (evar 2) (dcons (toD (pcst (.str [48, 49, 50, 51, 52, 53, 54, 55, 56, 57]))) (dcons (toD (pcst (.str [97, 98, 99]))) (dcons (toD (pcst (.str [88, 89, 90]))) (dcons (toD (pcst (.str [97, 49]))) (dnil)))))))) (ecall c_l_take [true, false] (aslot 0 (aval (toD (pcst (.int 6))) (anil)))))) (
  sseq (sset 4 (toD (pcst (.str [])))) (
  sseq (sfor (srcR1d (dcons (ecall c_l_take [true, false] (aslot 0 (aval (toD (p2 pAdd (pvar 1) (pcst (.int 1)))) (anil)))) (dnil))) (bname 5) (b_l_text_1 c_l_take)) (
  sretv 4))))
def F_l_text : FF := fnF 4 [true, false] (b_l_text F_l_signs F_l_take)
def b_l_unlike_1 : TF := tfP (p2 pIn (pvar 6) (pvar 4))
def b_l_unlike_2 : SF := sseq (sset 7 (toD (p2 pMod (p2 pAdd (pvar 7) (pcst (.int 1))) (pcall bLen (pcons (pvar 3) (pnil)))))) (
  sset 6 (toD (p2 pAdd (p2 pIx (pvar 3) (pvar 7)) (psl (pvar 6) (oSome (pcst (.int 1))) (oNone)))))
def b_l_unlike_3 (c_l_text : FF) : SF := sseq (sset 6 (ecall c_l_text [true, false] (aslot 0 (aslot 2 (anil))))) (
  sseq (sset 7 (toD (pm1 mFind (pvar 3) (psl (pvar 6) (oNone) (oSome (pcst (.int 1))))))) (
  sseq (swh (b_l_unlike_1) (b_l_unlike_2)) (
  sdrop (mapp 4 (evar 6)))))
def b_l_unlike (c_l_signs : FF) (c_l_text : FF) : SF := sseq (sset 3 (ecall c_l_signs [] (anil))) (
  sseq (sset 4 (dlst (dnil))) (
  sseq (sfor (srcR1d (dcons (evar 1) (dnil))) (bname 5) (b_l_unlike_3 c_l_text)) (
  sretv 4)))
def F_l_unlike : FF := fnF 5 [true, false, false] (b_l_unlike F_l_signs F_l_text)
def b_l_far_1 (c_l_take : FF) : SF := sset 1 (d2 dAdd (toD (p2 pMul (pvar 1) (p2 pPow (pcst (.int 10)) (pcst (.int 8))))) (ecall c_l_take [true, false] (aslot 0 (aval (toD (p2 pPow (pcst (.int 10)) (pcst (.int 8)))) (anil)))))
def b_l_far (c_l_take : FF) : SF := sseq (sset 1 (toD (pcst (.int 0)))) (
  sseq (sfor (srcR1d (dcons (toD (pcst (.int 8))) (dnil))) (bname 2) (b_l_far_1 c_l_take)) (
  sret (toD (p2 pAdd (p2 pSub (p2 pMod (pvar 1) (p2 pSub (p2 pMul (pcst (.int 2)) (p2 pPow (pcst (.int 10)) (pcst (.int 60)))) (pcst (.int 1)))) (p2 pPow (pcst (.int 10)) (pcst (.int 60)))) (pcst (.int 1))))))
def F_l_far : FF := fnF 2 [true] (b_l_far F_l_take)
def b_l_world_1 : DF := toD (p2 pAdd (pvar 3) (pvar 6))
def b_l_world (c_l_take : FF) (c_l_unlike : FF) (c_l_text : FF) (c_l_far : FF) : SF := sseq (sset 1 (d2 dIx (dlst (dcons (toD (pcst (.int 4))) (dcons (toD (pcst (.int 3))) (dcons (toD (pcst (.int 5))) (dcons (toD (pcst (.int 1))) (dcons (toD (pcst (.int 4))) (dcons (toD (pcst (.int 3))) (dcons (toD (pcst (.int 6))) (dcons (toD (pcst (.int 40))) (dnil)))))))))) (ecall c_l_take [true, false] (aslot 0 (aval (toD (pcst (.int 8))) (anil)))))) (
  sseq (sset 2 (ecall c_l_unlike [true, false, false] (aslot 0 (aval (toD (pcst (.int 11))) (aslot 1 (anil)))))) (
  sseq (sset 3 (ecall c_l_text [true, false] (aslot 0 (aval (d2 pMul (toD (pcst (.int 3))) (ecall c_l_take [true, false] (aslot 0 (aval (toD (pcst (.int 2))) (anil))))) (anil))))) (
  sseq (sset 4 (dcomp (srcL (ecall c_l_unlike [true, false, false] (aslot 0 (aval (toD (pcst (.int 9))) (aslot 1 (anil)))))) (bname 6) (tyes) (b_l_world_1) [6])) (
  sseq (sset 5 (d2 dIx (dlst (dcons (toD (pcst (.int 0))) (dcons (toD (pcst (.int 7))) (dcons (toD (p1 pNeg (pcst (.int 40)))) (dcons (d2 pDiv (ecall c_l_far [true] (aslot 0 (anil))) (toD (pcst (.int 1000)))) (dnil)))))) (ecall c_l_take [true, false] (aslot 0 (aval (toD (pcst (.int 4))) (anil)))))) (
  sret (dlst (dcons (evar 2) (dcons (evar 4) (dcons (evar 5) (dcons (d2 dAdd (toD (pcst (.int 1))) (ecall c_l_take [true, false] (aslot 0 (aval (d2 dIx (dlst (dcons (toD (pcst (.int 6))) (dcons (toD (p2 pPow (pcst (.int 10)) (pcst (.int 20)))) (dnil)))) (ecall c_l_take [true, false] (aslot 0 (aval (toD (pcst (.int 2))) (anil))))) (anil))))) (dnil)))))))))))
def F_l_world : FF := fnF 6 [true] (b_l_world F_l_take F_l_unlike F_l_text F_l_far)
def b_l_number (c_l_take : FF) (c_l_far : FF) : SF := sseq (sset 2 (ecall c_l_take [true, false] (aslot 0 (aval (toD (pcst (.int 6))) (anil))))) (
  sseq (sif (tfP (p2 pEq (pvar 2) (pcst (.int 0)))) (sret (d2 pSub (ecall c_l_take [true, false] (aslot 0 (aval (toD (pcst (.int 9))) (anil)))) (toD (pcst (.int 3))))) (spass)) (
  sseq (sif (tfP (p2 pEq (pvar 2) (pcst (.int 1)))) (sret (ecall c_l_far [true] (aslot 0 (anil)))) (spass)) (
  sret (d2 dAdd (toD (p2 pIx (pvar 1) (pcst (.int 2)))) (d2 pMul (toD (p2 pIx (pvar 1) (pcst (.int 3)))) (d2 pSub (ecall c_l_take [true, false] (aslot 0 (aval (toD (pcst (.int 12))) (anil)))) (toD (pcst (.int 4)))))))))
def F_l_number : FF := fnF 1 [true, false] (b_l_number F_l_take F_l_far)
def b_l_leaf (c_l_take : FF) (c_l_number : FF) : SF := sseq (sset 2 (ecall c_l_take [true, false] (aslot 0 (aval (toD (pcst (.int 8))) (anil))))) (
  sseq (sif (tfP (p2 pEq (pvar 2) (pcst (.int 0)))) (sret (toD (pcst .non))) (spass)) (
  sseq (sif (tfP (p2 pEq (pvar 2) (pcst (.int 1)))) (sret (d2 pEq (ecall c_l_take [true, false] (aslot 0 (aval (toD (pcst (.int 2))) (anil)))) (toD (pcst (.int 1))))) (spass)) (
  sseq (sif (tfP (p2 pLt (pvar 2) (pcst (.int 5)))) (sret (ecall c_l_number [true, false] (aslot 0 (aslot 1 (anil))))) (spass)) (
  sret (d2 dIx (toD (p2 pIx (pvar 1) (pcst (.int 1)))) (ecall c_l_take [true, false] (aslot 0 (aval (toD (pcall bLen (pcons (p2 pIx (pvar 1) (pcst (.int 1))) (pnil)))) (anil)))))))))
def F_l_leaf : FF := fnF 1 [true, false] (b_l_leaf F_l_take F_l_number)
def b_l_dict_1 (c_l_take : FF) (c_l_value : FF) : SF := sseq (sset 7 (mpopAt 4 (ecall c_l_take [true, false] (aslot 0 (aval (toD (pcall bLen (pcons (pvar 4) (pnil)))) (anil)))))) (
  sdput 5 (pvar 7) (ecall c_l_value [true, false, false, false] (aslot 0 (aslot 1 (aval (toD (pcall bMax2 (pcons (pcst (.int 0)) (pcons (p2 pSub (p2 pSub (pvar 2) (pcst (.int 1))) (p2 pDiv (pvar 3) (pcst (.int 7)))) (pnil))))) (aval (toD (pcst (.int 9))) (anil)))))))
def b_l_dict (c_l_take : FF) (c_l_value : FF) : SF := sseq (sset 4 (dcall bList (dcons (toD (p2 pIx (pvar 1) (pcst (.int 0)))) (dnil)))) (
  sseq (sset 5 (ddic0)) (
  sseq (sfor (srcR1d (dcons (evar 3) (dnil))) (bname 6) (b_l_dict_1 c_l_take c_l_value)) (
  sretv 5)))
def b_l_value_1 (c_l_value : FF) : DF := ecall c_l_value [true, false, false, false] (aslot 0 (aslot 1 (aval (toD (p2 pSub (pvar 2) (pcst (.int 1)))) (aval (toD (pcst (.int 9))) (anil)))))
def b_l_value (c_l_take : FF) (c_l_leaf : FF) (c_l_value : FF) (c_l_dict : FF) : SF := sseq (sif (tfP (p2 pEq (pvar 3) (pcst (.int 9)))) (sset 3 (ecall c_l_take [true, false] (aslot 0 (aval (toD (pcst (.int 9))) (anil))))) (spass)) (
  sseq (sif (tfor (tfP (p2 pEq (pvar 2) (pcst (.int 0)))) (tfP (p2 pLt (pvar 3) (pcst (.int 4))))) (sret (ecall c_l_leaf [true, false] (aslot 0 (aslot 1 (anil))))) (spass)) (
  sseq (sset 4 (d2 dIx (dlst (dcons (toD (pcst (.int 0))) (dcons (toD (pcst (.int 1))) (dcons (toD (pcst (.int 2))) (dcons (toD (pcst (.int 3))) (dcons (toD (pcst (.int 2))) (dcons (toD (pcst (.int 1))) (dcons (toD (pcst (.int 4))) (dcons (toD (pcst (.int 6))) (dnil)))))))))) (ecall c_l_take [true, false] (aslot 0 (aval (toD (pcst (.int 8))) (anil)))))) (
  sseq (sif (tfP (p2 pLt (pvar 3) (pcst (.int 6)))) (sret (dcomp (srcR1d (dcons (evar 4) (dnil))) (bname 5) (tyes) (b_l_value_1 c_l_value) [5])) (spass)) (
  sseq (sif (tfD (d2 pEq (ecall c_l_take [true, false] (aslot 0 (aval (toD (pcst (.int 6))) (anil)))) (toD (pcst (.int 5))))) (sset 4 (d2 dAdd (toD (pcst (.int 8))) (ecall c_l_take [true, false] (aslot 0 (aval (toD (pcst (.int 4))) (anil)))))) (spass)) (
  sret (ecall c_l_dict [true, false, false, false] (aslot 0 (aslot 1 (aslot 2 (aslot 4 (anil)))))))))))
mutual
def F_l_dict : Nat → FF
  | 0 => fun _ => .bad
  | n + 1 => fnF 4 [true, false, false, false] (b_l_dict F_l_take (F_l_value n))
def F_l_value : Nat → FF
  | 0 => fun _ => .bad
  | n + 1 => fnF 2 [true, false, false, false] (b_l_value F_l_take F_l_leaf (F_l_value n) (F_l_dict n))
end
def b_l_samples_1 (c_l_value : FF) : DF := ecall c_l_value [true, false, false, false] (aslot 0 (aslot 1 (aslot 4 (aslot 3 (anil)))))
def b_l_samples (c_l_take : FF) (c_l_value : FF) : SF := sseq (sset 3 (d2 dIx (dlst (dcons (toD (pcst (.int 9))) (dcons (toD (pcst (.int 9))) (dcons (toD (pcst (.int 1))) (dcons (toD (pcst (.int 5))) (dcons (toD (pcst (.int 7))) (dcons (toD (pcst (.int 8))) (dnil)))))))) (ecall c_l_take [true, false] (aslot 0 (aval (toD (pcst (.int 6))) (anil)))))) (
  sseq (sset 4 (d2 dIx (dlst (dcons (toD (pcst (.int 2))) (dcons (toD (pcst (.int 2))) (dcons (toD (pcst (.int 1))) (dcons (toD (pcst (.int 3))) (dnil)))))) (ecall c_l_take [true, false] (aslot 0 (aval (toD (pcst (.int 4))) (anil)))))) (
  sret (dcomp (srcR1d (dcons (evar 2) (dnil))) (bname 5) (tyes) (b_l_samples_1 c_l_value) [5])))
def F_l_samples (n : Nat) : FF := fnF 3 [true, false, false] (b_l_samples F_l_take (F_l_value n))
def b_l_same_1 (c_l_same : FF) : DF := ecall c_l_same [false, false] (aval (toD (p2 pIx (pvar 0) (pvar 2))) (aval (toD (p2 pIx (pvar 1) (pvar 2))) (anil)))
def b_l_same_2 (c_l_same : FF) : DF := ecall c_l_same [false, false] (aslot 3 (aslot 4 (anil)))
def b_l_same (c_l_same : FF) : SF := sseq (sif (tfor (tfP (pIsa "bool" (pvar 0))) (tfP (pIsa "bool" (pvar 1)))) (sret (dand (toD (pIsa "bool" (pvar 0))) (dand (toD (pIsa "bool" (pvar 1))) (toD (p2 pEq (pvar 0) (pvar 1)))))) (spass)) (
  sseq (sif (tfor (tfP (pIsa "int" (pvar 0))) (tfP (pIsa "int" (pvar 1)))) (sret (dand (toD (pIsa "int" (pvar 0))) (dand (toD (pIsa "int" (pvar 1))) (toD (p2 pEq (pvar 0) (pvar 1)))))) (spass)) (
  sseq (sif (tfor (tfP (pIsa "str" (pvar 0))) (tfP (pIsa "str" (pvar 1)))) (sret (dand (toD (pIsa "str" (pvar 0))) (dand (toD (pIsa "str" (pvar 1))) (toD (p2 pEq (pvar 0) (pvar 1)))))) (spass)) (
  sseq (sif (tfor (tfP (p2 pIsN (pvar 0) (pcst .non))) (tfP (p2 pIsN (pvar 1) (pcst .non)))) (sret (dand (toD (p2 pIsN (pvar 0) (pcst .non))) (toD (p2 pIsN (pvar 1) (pcst .non))))) (spass)) (
  sseq (sif (tfor (tfP (pIsa "dict" (pvar 0))) (tfP (pIsa "dict" (pvar 1)))) (sseq (sif (tfor (tfnot (tfP (pIsa "dict" (pvar 0)))) (tfor (tfnot (tfP (pIsa "dict" (pvar 1)))) (tfD (d2 pNe (dcall bSorted (dcons (evar 0) (dnil))) (dcall bSorted (dcons (evar 1) (dnil))))))) (sret (toD (pcst (.bl false)))) (spass)) (
  sret (d2 pNotIn (toD (pcst (.bl false))) (dcomp (srcD .keys 0) (bname 2) (tyes) (b_l_same_1 c_l_same) [2])))) (spass)) (
  sseq (sif (tfor (tfP (p2 pNe (pIsa "list" (pvar 0)) (pIsa "list" (pvar 1)))) (tfP (p2 pNe (pIsa "tuple" (pvar 0)) (pIsa "tuple" (pvar 1))))) (sret (toD (pcst (.bl false)))) (spass)) (
  sret (dand (toD (p2 pEq (pcall bLen (pcons (pvar 0) (pnil))) (pcall bLen (pcons (pvar 1) (pnil))))) (d2 pNotIn (toD (pcst (.bl false))) (dcomp (srcZ (dcons (evar 0) (dcons (evar 1) (dnil)))) (btup [3, 4]) (tyes) (b_l_same_2 c_l_same) [3, 4])))))))))
def F_l_same : Nat → FF
  | 0 => fun _ => .bad
  | n + 1 => fnF 3 [false, false] (b_l_same (F_l_same n))
def b_l_quoted_1 : SF := sseq (sset 1 (toD (p2 pAdd (pvar 1) (pvar 2)))) (
  sif (tfP (p2 pEq (pvar 2) (pcst (.str [34])))) (sset 1 (toD (p2 pAdd (pvar 1) (pvar 2)))) (spass))
def b_l_quoted : SF := sseq (sset 1 (toD (pcst (.str [34])))) (
  sseq (sfor (srcS (pvar 0)) (bname 2) (b_l_quoted_1)) (
  sret (toD (p2 pAdd (pvar 1) (pcst (.str [34]))))))
def F_l_quoted : FF := fnF 2 [false] (b_l_quoted)
def b_l_written_1 (c_l_written : FF) : DF := ecall c_l_written [false] (aslot 3 (anil))
def b_l_written_2 (c_l_quoted : FF) (c_l_written : FF) : DF := d2 dAdd (d2 dAdd (ecall c_l_quoted [false] (aslot 2 (anil))) (toD (pcst (.str [58, 32])))) (ecall c_l_written [false] (aval (toD (p2 pIx (pvar 0) (pvar 2))) (anil)))
def b_l_written (c_l_quoted : FF) (c_l_written : FF) : SF := sseq (sif (tfP (p2 pIsN (pvar 0) (pcst .non))) (sret (toD (pcst (.str [110, 111, 116, 104, 105, 110, 103])))) (spass)) (
  sseq (sif (tfP (pIsa "bool" (pvar 0))) (sret (d2 dIx (dlst (dcons (toD (pcst (.str [110, 111]))) (dcons (toD (pcst (.str [121, 101, 115]))) (dnil)))) (toD (pcall bInt (pcons (pvar 0) (pnil)))))) (spass)) (
  sseq (sif (tfP (pIsa "int" (pvar 0))) (sret (toD (pcall bStr (pcons (pvar 0) (pnil))))) (spass)) (
  sseq (sif (tfP (pIsa "str" (pvar 0))) (sret (ecall c_l_quoted [false] (aslot 0 (anil)))) (spass)) (
  sseq (sif (tfP (pIsa "list" (pvar 0))) (sret (d2 dAdd (d2 dAdd (toD (pcst (.str [91]))) (djoin (pcst (.str [44, 32])) (dcomp (srcL (evar 0)) (bname 3) (tyes) (b_l_written_1 c_l_written) [3]))) (toD (pcst (.str [93]))))) (spass)) (
  sseq (sset 1 (dcomp (srcL (dcall bSorted (dcons (dcall bList (dcons (evar 0) (dnil))) (dnil)))) (bname 2) (tyes) (b_l_written_2 c_l_quoted c_l_written) [2])) (
  sret (d2 dAdd (d2 dAdd (toD (pcst (.str [123]))) (djoin (pcst (.str [44, 32])) (evar 1))) (toD (pcst (.str [125]))))))))))
def F_l_written : Nat → FF
  | 0 => fun _ => .bad
  | n + 1 => fnF 3 [false] (b_l_written F_l_quoted (F_l_written n))
def b_l_read_right_1 (c_l_same : FF) (c_p_read_value : FF) : SF := sseq (sset 3 (ecall c_p_read_value [false] (aslot 1 (anil)))) (
  sseq (sif (tfnot (tfD (ecall c_l_same [false, false] (aslot 3 (aslot 0 (anil)))))) (sret (toD (pcst (.bl false)))) (spass)) (
  sseq (sif (tfP (pIsa "list" (pvar 3))) (sdrop (mapp 3 (toD (pcst (.str [97, 32, 116, 101, 120, 116, 32, 109, 111, 114, 101]))))) (spass)) (
  sif (tfP (pIsa "dict" (pvar 3))) (sdrop (mdclear 3)) (spass))))
def b_l_read_right (c_l_written : FF) (c_p_read_value : FF) (c_l_same : FF) : SF := sseq (sset 1 (ecall c_l_written [false] (aslot 0 (anil)))) (
  sseq (sif (tfP (p2 pGt (pcall bLen (pcons (pvar 1) (pnil))) (pcst (.int 4000)))) (sret (toD (pcst (.bl true)))) (spass)) (
  sseq (sfor (srcR1d (dcons (toD (pcst (.int 2))) (dnil))) (bname 2) (b_l_read_right_1 c_l_same c_p_read_value)) (
  sret (toD (pcst (.bl true))))))
def F_l_read_right (n : Nat) : FF := fnF 3 [false] (b_l_read_right (F_l_written n) (F_p_read_value n) (F_l_same n))
def b_p_law_1 (c_l_read_right : FF) : SF := sif (tfnot (tfD (ecall c_l_read_right [false] (aslot 6 (anil))))) (sret (toD (pcst (.bl false)))) (spass)
def b_p_law_2 (c_l_read_right : FF) : SF := sseq (sset 5 (ddisp [(p2 pIx (p2 pIx (pvar 2) (pcst (.int 0))) (pcst (.int 0)), p2 pIx (pvar 3) (pvar 4)), (p2 pIx (p2 pIx (pvar 2) (pcst (.int 0))) (pcst (.int 1)), p2 pIx (pvar 3) (p2 pSub (pvar 4) (pcst (.int 1))))])) (
  sfor (srcL (dlst (dcons (toD (p2 pIx (pvar 3) (pvar 4))) (dcons (dlst (dcons (toD (p2 pIx (pvar 3) (pvar 4))) (dcons (toD (p2 pIx (pvar 3) (p2 pSub (pvar 4) (pcst (.int 1))))) (dnil)))) (dcons (evar 5) (dnil)))))) (bname 6) (b_p_law_1 c_l_read_right))
def b_p_law (c_l_deck : FF) (c_l_world : FF) (c_l_samples : FF) (c_l_read_right : FF) : SF := sseq (sset 1 (ecall c_l_deck [false] (aslot 0 (anil)))) (
  sseq (sset 2 (ecall c_l_world [true] (aslot 1 (anil)))) (
  sseq (sset 3 (d2 dAdd (ecall c_l_samples [true, false, false] (aslot 1 (aslot 2 (aval (toD (pcst (.int 6))) (anil))))) (dfrz (dlst (dcons (toD (pcst (.str []))) (dcons (dlst (dnil)) (dcons (ddic0) (dcons (toD (p1 pNeg (pcst (.int 1)))) (dcons (toD (pcst (.int 0))) (dnil)))))))))) (
  sseq (sfor (srcR1d (dcons (toD (pcall bLen (pcons (pvar 3) (pnil)))) (dnil))) (bname 4) (b_p_law_2 c_l_read_right)) (
  sret (toD (pcst (.bl true)))))))
def F_p_law (n : Nat) : FF := fnF 6 [false] (b_p_law F_l_deck F_l_world (F_l_samples n) (F_l_read_right n))
/-! ### .. and that they do it -/
structure Evd (K : PySem.W.Frag) (mg : Str → Option Value) : Prop where
  f_all : mg "all" = none
  f_bool : mg "bool" = none
  f_dict : mg "dict" = none
  f_int : mg "int" = none
  f_isinstance : mg "isinstance" = none
  f_len : mg "len" = none
  f_list : mg "list" = none
  f_max : mg "max" = none
  f_range : mg "range" = none
  f_sorted : mg "sorted" = none
  f_str : mg "str" = none
  f_sum : mg "sum" = none
  f_tuple : mg "tuple" = none
  f_zip : mg "zip" = none
  k_FIGURES : ConK K mg "FIGURES" cFIGURES
  k_SIGNS : ConK K mg "SIGNS" cSIGNS
  k_WORDS : ConK K mg "WORDS" cWORDS
  d_p_is_text : DefK K mg "is_text" (top 5)
  d_p_is_value : DefK K mg "is_value" (top 6)
  d_p_quoted : DefK K mg "quoted" (top 10)
  d_p_show_value : DefK K mg "show_value" (top 11)
  d_p_place_behind : DefK K mg "place_behind" (top 12)
  d_p_read_quoted : DefK K mg "read_quoted" (top 13)
  d_p_read_number : DefK K mg "read_number" (top 14)
  d_p_read_list : DefK K mg "read_list" (top 15)
  d_p_read_dict : DefK K mg "read_dict" (top 16)
  d_p_read_at : DefK K mg "read_at" (top 17)
  d_p_read_value : DefK K mg "read_value" (top 18)
  d_l_mixed : DefK K mg "_law_mixed" (top 20)
  d_l_deck : DefK K mg "_law_deck" (top 21)
  d_l_take : DefK K mg "_law_take" (top 22)
  d_l_signs : DefK K mg "_law_signs" (top 23)
  d_l_text : DefK K mg "_law_text" (top 24)
  d_l_unlike : DefK K mg "_law_unlike" (top 25)
  d_l_far : DefK K mg "_law_far" (top 26)
  d_l_world : DefK K mg "_law_world" (top 27)
  d_l_number : DefK K mg "_law_number" (top 28)
  d_l_leaf : DefK K mg "_law_leaf" (top 29)
  d_l_dict : DefK K mg "_law_dict" (top 30)
  d_l_value : DefK K mg "_law_value" (top 31)
  d_l_samples : DefK K mg "_law_samples" (top 32)
  d_l_same : DefK K mg "_law_same" (top 33)
  d_l_quoted : DefK K mg "_law_quoted" (top 34)
  d_l_written : DefK K mg "_law_written" (top 35)
  d_l_read_right : DefK K mg "_law_read_right" (top 36)
  d_p_law : DefK K mg "law" (top 37)
section
variable {P : Program} {w : World} {K : PySem.W.Frag} {mg : Str → Option Value} {base : Heap}
theorem sc_p_is_text : FnScope ["thing", "sign"] ["thing"] (defScope (top 5)) := ⟨rfl, rfl, rfl, by decide +kernel, rfl, by decide +kernel, by decide +kernel⟩
theorem body_p_is_text (Ev : Evd K mg) {k : Nat} (f : Addr) (cdv : Value) (A : Around) (outer : List PySem.Env) (s : Shared) (H : Hp) (E : XK) (hr : Room k (A.deeper (PyProof.Rows.envOfC "is_text" (defScope (top 5)) s.heap.objs.size f cdv))) : PSs (cxOf (L2.CX P w) P w K mg base ["thing", "sign"] "is_text" (defScope (top 5)) f cdv A outer s H E) (defBody (top 5)) (tS (gx (cxOf (L2.CX P w) P w K mg base ["thing", "sign"] "is_text" (defScope (top 5)) f cdv A outer s H E) (fun c d _ H => E c d H)) (pinsOf [false]) (b_p_is_text)) := by
  have sc := sc_p_is_text
  have hu64 := hr.units
  have hu1 : (A.deeper (PyProof.Rows.envOfC "is_text" (defScope (top 5)) s.heap.objs.size f cdv)).units + 1 < cLine := by have := hr.units; omega
  have tk : Takes (cxOf (L2.CX P w) P w K mg base ["thing", "sign"] "is_text" (defScope (top 5)) f cdv A outer s H E) (fun c d _ H => E c d H) := takes_of rfl rfl rfl rfl
  exact (b_one (c_ret (x_and (xd (x_isa Ev.f_isinstance Ev.f_str boot_str (kit_str _) (xv 0) boot_isinstance)) (x_one (x_bD (cr_all rfl) l_allA Ev.f_all boot_all (y_cons (x_lc [("sign", 1)] rfl sc.nd (by kernel_rfl) (g_name (by decide) (by decide)) (j_str (xv 0)) (fun _ _ _ _ _ => (u_name 1 sc.nd)) (fun _ _ _ _ _ => r_nil) (fun _ _ _ _ _ => (xd (x_cmp (o_in hu1) l_in (xv 1) (x_k Ev.k_SIGNS) (by rfl))))) y_nil))))))
theorem ok_p_is_text (Ev : Evd K mg) {k : Nat} : Fnn P w K mg base (k + 1) "is_text" [false] (fnF 1 [false] (b_p_is_text)) :=
  Ev.d_p_is_text.wrap sc_p_is_text rfl rfl (fun _ _ _ _ _ _ us hl => match us, hl with | [_], _ => rfl) (body_p_is_text Ev)
theorem at_p_is_text (Ev : Evd K mg) : Fnn P w K mg base (1) "is_text" [false] (F_p_is_text) := (ok_p_is_text (k := 0) Ev).mono (show 0 + 1 ≤ 1 by omega)
theorem sc_p_is_value : FnScope ["thing", "item", "name", "inner"] ["thing"] (defScope (top 6)) := ⟨rfl, rfl, rfl, by decide +kernel, rfl, by decide +kernel, by decide +kernel⟩
theorem body_p_is_value (Ev : Evd K mg) {k : Nat} {cp_is_value : FF} {cp_is_text : FF} (c_p_is_value : Fnn P w K mg base k "is_value" [false] cp_is_value) (c_p_is_text : Fnn P w K mg base k "is_text" [false] cp_is_text) (f : Addr) (cdv : Value) (A : Around) (outer : List PySem.Env) (s : Shared) (H : Hp) (E : XK) (hr : Room k (A.deeper (PyProof.Rows.envOfC "is_value" (defScope (top 6)) s.heap.objs.size f cdv))) : PSs (cxOf (L2.CX P w) P w K mg base ["thing", "item", "name", "inner"] "is_value" (defScope (top 6)) f cdv A outer s H E) (defBody (top 6)) (tS (gx (cxOf (L2.CX P w) P w K mg base ["thing", "item", "name", "inner"] "is_value" (defScope (top 6)) f cdv A outer s H E) (fun c d _ H => E c d H)) (pinsOf [false]) (b_p_is_value cp_is_value cp_is_text)) := by
  have sc := sc_p_is_value
  have hu64 := hr.units
  have hu1 : (A.deeper (PyProof.Rows.envOfC "is_value" (defScope (top 6)) s.heap.objs.size f cdv)).units + 1 < cLine := by have := hr.units; omega
  have tk : Takes (cxOf (L2.CX P w) P w K mg base ["thing", "item", "name", "inner"] "is_value" (defScope (top 6)) f cdv A outer s H E) (fun c d _ H => E c d H) := takes_of rfl rfl rfl rfl
  exact (b_cons (c_if (q_w (w_or (q_cmp op_isN l_isN (xv 0) xn (nomark _)) (w_or1 (q_P (x_isa Ev.f_isinstance Ev.f_int boot_int (kit_int _) (xv 0) boot_isinstance))))) (b_one (c_ret (xd xb))) b_nil)
    (b_cons (c_if (q_P (x_isa Ev.f_isinstance Ev.f_list boot_list (kit_list _) (xv 0) boot_isinstance)) (b_one (c_ret (x_bD (cr_all rfl) l_allA Ev.f_all boot_all (y_cons (x_lc [("item", 1)] rfl sc.nd (by kernel_rfl) (g_name (by decide) (by decide)) (j_list (xdv 0)) (fun _ _ _ _ _ => (u_name 1 sc.nd)) (fun _ _ _ _ _ => r_nil) (fun _ _ _ _ _ => (x_call c_p_is_value hr (by omega) takes_no (w_slot 1 w_nil)))) y_nil)))) b_nil)
    (b_cons (c_if (q_P (x_isa Ev.f_isinstance Ev.f_dict boot_dict (kit_dict _) (xv 0) boot_isinstance)) (b_one (c_ret (x_bD (cr_all rfl) l_allA Ev.f_all boot_all (y_cons (x_lcD .items [("name", 2), ("inner", 3)] rfl sc.nd (by kernel_rfl) (g_tup (is := [2, 3]) rfl (by decide)) (pi_items (pv 0)) (fun _ _ _ _ _ => (u_tup rfl (u_cons (u_name 2 sc.nd) (u_cons (u_name 3 sc.nd) u_nil)))) (fun _ _ _ _ _ => r_nil) (fun _ _ _ _ _ => (x_and (x_call c_p_is_text hr (by omega) takes_no (w_slot 2 w_nil)) (x_one (x_call c_p_is_value hr (by omega) takes_no (w_slot 3 w_nil)))))) y_nil)))) b_nil)
    (b_one (c_ret (x_call c_p_is_text hr (by omega) tk (w_slot 0 w_nil)))))))
theorem ok_p_is_value (Ev : Evd K mg) {k : Nat} {cp_is_value : FF} {cp_is_text : FF} (c_p_is_value : Fnn P w K mg base k "is_value" [false] cp_is_value) (c_p_is_text : Fnn P w K mg base k "is_text" [false] cp_is_text) : Fnn P w K mg base (k + 1) "is_value" [false] (fnF 3 [false] (b_p_is_value cp_is_value cp_is_text)) :=
  Ev.d_p_is_value.wrap sc_p_is_value rfl rfl (fun _ _ _ _ _ _ us hl => match us, hl with | [_], _ => rfl) (body_p_is_value Ev c_p_is_value c_p_is_text)
theorem at_p_is_value (Ev : Evd K mg) : ∀ n, Fnn P w K mg base (1 + n) "is_value" [false] (F_p_is_value n)
  | 0 => Ev.d_p_is_value.bad rfl sc_p_is_value (fun _ _ _ _ _ _ us hl => match us, hl with | [_], _ => rfl)
  | n + 1 => by
    have a_p_is_value := (at_p_is_value Ev n)
    have a_p_is_text := (at_p_is_text (P := P) (w := w) (base := base) Ev).mono (show 1 ≤ 1 + n by omega)
    exact ok_p_is_value Ev a_p_is_value a_p_is_text
theorem sc_p_quoted : FnScope ["text"] ["text"] (defScope (top 10)) := ⟨rfl, rfl, rfl, by decide +kernel, rfl, by decide +kernel, by decide +kernel⟩
theorem body_p_quoted (Ev : Evd K mg) {k : Nat} (f : Addr) (cdv : Value) (A : Around) (outer : List PySem.Env) (s : Shared) (H : Hp) (E : XK) (hr : Room k (A.deeper (PyProof.Rows.envOfC "quoted" (defScope (top 10)) s.heap.objs.size f cdv))) : PSs (cxOf (L2.CX P w) P w K mg base ["text"] "quoted" (defScope (top 10)) f cdv A outer s H E) (defBody (top 10)) (tS (gx (cxOf (L2.CX P w) P w K mg base ["text"] "quoted" (defScope (top 10)) f cdv A outer s H E) (fun c d _ H => E c d H)) (pinsOf [false]) (b_p_quoted)) := by
  have sc := sc_p_quoted
  have hu64 := hr.units
  have hu1 : (A.deeper (PyProof.Rows.envOfC "quoted" (defScope (top 10)) s.heap.objs.size f cdv)).units + 1 < cLine := by have := hr.units; omega
  have tk : Takes (cxOf (L2.CX P w) P w K mg base ["text"] "quoted" (defScope (top 10)) f cdv A outer s H E) (fun c d _ H => E c d H) := takes_of rfl rfl rfl rfl
  exact (b_one (c_ret (xd (x_op o_addP l_addP (x_repl [34] [34] [34, 34] (xv 0)) (xs [34])))))
theorem ok_p_quoted (Ev : Evd K mg) {k : Nat} : Fnn P w K mg base (k + 1) "quoted" [false] (fnF 0 [false] (b_p_quoted)) :=
  Ev.d_p_quoted.wrap sc_p_quoted rfl rfl (fun _ _ _ _ _ _ us hl => match us, hl with | [_], _ => rfl) (body_p_quoted Ev)
theorem at_p_quoted (Ev : Evd K mg) : Fnn P w K mg base (1) "quoted" [false] (F_p_quoted) := (ok_p_quoted (k := 0) Ev).mono (show 0 + 1 ≤ 1 by omega)
theorem sc_p_show_value : FnScope ["value", "item", "name"] ["value"] (defScope (top 11)) := ⟨rfl, rfl, rfl, by decide +kernel, rfl, by decide +kernel, by decide +kernel⟩
theorem body_p_show_value (Ev : Evd K mg) {k : Nat} {cp_quoted : FF} {cp_show_value : FF} (c_p_quoted : Fnn P w K mg base k "quoted" [false] cp_quoted) (c_p_show_value : Fnn P w K mg base k "show_value" [false] cp_show_value) (f : Addr) (cdv : Value) (A : Around) (outer : List PySem.Env) (s : Shared) (H : Hp) (E : XK) (hr : Room k (A.deeper (PyProof.Rows.envOfC "show_value" (defScope (top 11)) s.heap.objs.size f cdv))) : PSs (cxOf (L2.CX P w) P w K mg base ["value", "item", "name"] "show_value" (defScope (top 11)) f cdv A outer s H E) (defBody (top 11)) (tS (gx (cxOf (L2.CX P w) P w K mg base ["value", "item", "name"] "show_value" (defScope (top 11)) f cdv A outer s H E) (fun c d _ H => E c d H)) (pinsOf [false]) (b_p_show_value cp_quoted cp_show_value)) := by
  have sc := sc_p_show_value
  have hu64 := hr.units
  have hu1 : (A.deeper (PyProof.Rows.envOfC "show_value" (defScope (top 11)) s.heap.objs.size f cdv)).units + 1 < cLine := by have := hr.units; omega
  have tk : Takes (cxOf (L2.CX P w) P w K mg base ["value", "item", "name"] "show_value" (defScope (top 11)) f cdv A outer s H E) (fun c d _ H => E c d H) := takes_of rfl rfl rfl rfl
  exact (b_cons (c_if (q_P (x_isa Ev.f_isinstance Ev.f_str boot_str (kit_str _) (xv 0) boot_isinstance)) (b_one (c_ret (x_call c_p_quoted hr (by omega) tk (w_slot 0 w_nil)))) b_nil)
    (b_cons (c_if (q_P (x_isa Ev.f_isinstance Ev.f_list boot_list (kit_list _) (xv 0) boot_isinstance)) (b_one (c_ret (x_opD o_add l_add (x_opD o_add l_add (xd (xs [91])) (x_join (xs [44, 32]) (x_lc [("item", 1)] rfl sc.nd (by kernel_rfl) (g_name (by decide) (by decide)) (j_list (xdv 0)) (fun _ _ _ _ _ => (u_name 1 sc.nd)) (fun _ _ _ _ _ => r_nil) (fun _ _ _ _ _ => (x_call c_p_show_value hr (by omega) takes_no (w_slot 1 w_nil)))))) (xd (xs [93]))))) b_nil)
    (b_cons (c_if (q_P (x_isa Ev.f_isinstance Ev.f_dict boot_dict (kit_dict _) (xv 0) boot_isinstance)) (b_one (c_ret (x_opD o_add l_add (x_opD o_add l_add (xd (xs [123])) (x_join (xs [44, 32]) (x_lc [("name", 2)] rfl sc.nd (by kernel_rfl) (g_name (by decide) (by decide)) (j_list (x_bD (o_sorted rfl) l_sorted Ev.f_sorted boot_sorted (y_cons (xdv 0) y_nil))) (fun _ _ _ _ _ => (u_name 2 sc.nd)) (fun _ _ _ _ _ => r_nil) (fun _ _ _ _ _ => (x_opD o_add l_add (x_opD o_add l_add (x_call c_p_quoted hr (by omega) takes_no (w_slot 2 w_nil)) (xd (xs [58, 32]))) (x_call c_p_show_value hr (by omega) takes_no (w_val (xd (x_ix hu1 (xv 0) (xv 2) fun _ _ => rfl)) w_nil))))))) (xd (xs [125]))))) b_nil)
    (b_cons (c_if (q_cmp op_isN l_isN (xv 0) xn (nomark _)) (b_one (c_ret (xd (xs [110, 111, 116, 104, 105, 110, 103])))) b_nil)
    (b_cons (c_if (q_P (x_isa Ev.f_isinstance Ev.f_bool boot_bool (kit_bool _) (xv 0) boot_isinstance)) (b_one (c_ret (x_ixD hu1 (x_lst (y_cons (xd (xs [110, 111])) (y_cons (xd (xs [121, 101, 115])) y_nil))) (xd (x_tyP o_int l_int Ev.f_int boot_int (z_cons (xv 0) z_nil))) fun _ _ => rfl))) b_nil)
    (b_one (c_ret (xd (x_tyP o_str l_str Ev.f_str boot_str (z_cons (xv 0) z_nil))))))))))
theorem ok_p_show_value (Ev : Evd K mg) {k : Nat} {cp_quoted : FF} {cp_show_value : FF} (c_p_quoted : Fnn P w K mg base k "quoted" [false] cp_quoted) (c_p_show_value : Fnn P w K mg base k "show_value" [false] cp_show_value) : Fnn P w K mg base (k + 1) "show_value" [false] (fnF 2 [false] (b_p_show_value cp_quoted cp_show_value)) :=
  Ev.d_p_show_value.wrap sc_p_show_value rfl rfl (fun _ _ _ _ _ _ us hl => match us, hl with | [_], _ => rfl) (body_p_show_value Ev c_p_quoted c_p_show_value)
theorem at_p_show_value (Ev : Evd K mg) : ∀ n, Fnn P w K mg base (1 + n) "show_value" [false] (F_p_show_value n)
  | 0 => Ev.d_p_show_value.bad rfl sc_p_show_value (fun _ _ _ _ _ _ us hl => match us, hl with | [_], _ => rfl)
  | n + 1 => by
    have a_p_show_value := (at_p_show_value Ev n)
    have a_p_quoted := (at_p_quoted (P := P) (w := w) (base := base) Ev).mono (show 1 ≤ 1 + n by omega)
    exact ok_p_show_value Ev a_p_quoted a_p_show_value
theorem sc_p_place_behind : FnScope ["text", "at", "word"] ["text", "at", "word"] (defScope (top 12)) := ⟨rfl, rfl, rfl, by decide +kernel, rfl, by decide +kernel, by decide +kernel⟩
theorem body_p_place_behind (Ev : Evd K mg) {k : Nat} (f : Addr) (cdv : Value) (A : Around) (outer : List PySem.Env) (s : Shared) (H : Hp) (E : XK) (hr : Room k (A.deeper (PyProof.Rows.envOfC "place_behind" (defScope (top 12)) s.heap.objs.size f cdv))) : PSs (cxOf (L2.CX P w) P w K mg base ["text", "at", "word"] "place_behind" (defScope (top 12)) f cdv A outer s H E) (defBody (top 12)) (tS (gx (cxOf (L2.CX P w) P w K mg base ["text", "at", "word"] "place_behind" (defScope (top 12)) f cdv A outer s H E) (fun c d _ H => E c d H)) (pinsOf [false, false, false]) (b_p_place_behind)) := by
  have sc := sc_p_place_behind
  have hu64 := hr.units
  have hu1 : (A.deeper (PyProof.Rows.envOfC "place_behind" (defScope (top 12)) s.heap.objs.size f cdv)).units + 1 < cLine := by have := hr.units; omega
  have tk : Takes (cxOf (L2.CX P w) P w K mg base ["text", "at", "word"] "place_behind" (defScope (top 12)) f cdv A outer s H E) (fun c d _ H => E c d H) := takes_of rfl rfl rfl rfl
  exact (b_cons (c_if (q_cmp (o_ne hu64) l_ne (x_sl (xv 0) (po_s (xv 1)) (po_s (x_op o_addP l_addP (xv 1) (x_bP o_len l_len Ev.f_len boot_len (z_cons (xv 2) z_nil))))) (xv 2) (nomark _)) b_never b_nil)
    (b_one (c_ret (xd (x_op o_addP l_addP (xv 1) (x_bP o_len l_len Ev.f_len boot_len (z_cons (xv 2) z_nil)))))))
theorem ok_p_place_behind (Ev : Evd K mg) {k : Nat} : Fnn P w K mg base (k + 1) "place_behind" [false, false, false] (fnF 0 [false, false, false] (b_p_place_behind)) :=
  Ev.d_p_place_behind.wrap sc_p_place_behind rfl rfl (fun _ _ _ _ _ _ us hl => match us, hl with | [_, _, _], _ => rfl) (body_p_place_behind Ev)
theorem at_p_place_behind (Ev : Evd K mg) : Fnn P w K mg base (1) "place_behind" [false, false, false] (F_p_place_behind) := (ok_p_place_behind (k := 0) Ev).mono (show 0 + 1 ≤ 1 by omega)
theorem sc_p_read_quoted : FnScope ["text", "at", "found"] ["text", "at"] (defScope (top 13)) := ⟨rfl, rfl, rfl, by decide +kernel, rfl, by decide +kernel, by decide +kernel⟩
theorem body_p_read_quoted (Ev : Evd K mg) {k : Nat} {cp_place_behind : FF} (c_p_place_behind : Fnn P w K mg base k "place_behind" [false, false, false] cp_place_behind) (f : Addr) (cdv : Value) (A : Around) (outer : List PySem.Env) (s : Shared) (H : Hp) (E : XK) (hr : Room k (A.deeper (PyProof.Rows.envOfC "read_quoted" (defScope (top 13)) s.heap.objs.size f cdv))) : PSs (cxOf (L2.CX P w) P w K mg base ["text", "at", "found"] "read_quoted" (defScope (top 13)) f cdv A outer s H E) (defBody (top 13)) (tS (gx (cxOf (L2.CX P w) P w K mg base ["text", "at", "found"] "read_quoted" (defScope (top 13)) f cdv A outer s H E) (fun c d _ H => E c d H)) (pinsOf [false, false]) (b_p_read_quoted cp_place_behind)) := by
  have sc := sc_p_read_quoted
  have hu64 := hr.units
  have hu1 : (A.deeper (PyProof.Rows.envOfC "read_quoted" (defScope (top 13)) s.heap.objs.size f cdv)).units + 1 < cLine := by have := hr.units; omega
  have tk : Takes (cxOf (L2.CX P w) P w K mg base ["text", "at", "found"] "read_quoted" (defScope (top 13)) f cdv A outer s H E) (fun c d _ H => E c d H) := takes_of rfl rfl rfl rfl
  exact (b_cons (c_set 1 sc.nd (x_call c_p_place_behind hr (by omega) tk (w_slot 0 (w_slot 1 (w_val (xd (xs [34])) w_nil)))))
    (b_cons (c_set 2 sc.nd (xd (xs [])))
    (b_cons (c_while (passes_of rfl) (q_cmp op_lt l_cmp (xv 1) (x_bP o_len l_len Ev.f_len boot_len (z_cons (xv 0) z_nil)) (nomark _)) (b_one (c_if (q_cmp (o_eq hu64) l_eq (x_sl (xv 0) (po_s (xv 1)) (po_s (x_op o_addP l_addP (xv 1) xi))) (xs [34, 34]) (nomark _)) (b_cons (c_aug 2 sc.nd o_iaddP l_addP (xd (xs [34])))
    (b_one (c_aug 1 sc.nd o_iaddP l_addP (xd xi)))) (b_one (c_if (q_cmp (o_eq hu64) l_eq (x_ix hu1 (xv 0) (xv 1) fun _ _ => rfl) (xs [34]) (nomark _)) (b_one (c_ret (x_tupO (y_cons (xmv 2) (y_cons (xd (x_op o_addP l_addP (xv 1) xi)) y_nil))))) (b_cons (c_aug 2 sc.nd o_iaddP l_addP (xd (x_ix hu1 (xv 0) (xv 1) fun _ _ => rfl)))
    (b_one (c_aug 1 sc.nd o_iaddP l_addP (xd xi)))))))))
    b_never)))
theorem ok_p_read_quoted (Ev : Evd K mg) {k : Nat} {cp_place_behind : FF} (c_p_place_behind : Fnn P w K mg base k "place_behind" [false, false, false] cp_place_behind) : Fnn P w K mg base (k + 1) "read_quoted" [false, false] (fnF 1 [false, false] (b_p_read_quoted cp_place_behind)) :=
  Ev.d_p_read_quoted.wrap sc_p_read_quoted rfl rfl (fun _ _ _ _ _ _ us hl => match us, hl with | [_, _], _ => rfl) (body_p_read_quoted Ev c_p_place_behind)
theorem at_p_read_quoted (Ev : Evd K mg) : Fnn P w K mg base (2) "read_quoted" [false, false] (F_p_read_quoted) := (ok_p_read_quoted (k := 1) Ev ((at_p_place_behind (P := P) (w := w) (base := base) Ev).mono (show 1 ≤ 1 by omega))).mono (show 1 + 1 ≤ 2 by omega)
theorem sc_p_read_number : FnScope ["text", "at", "first", "end"] ["text", "at"] (defScope (top 14)) := ⟨rfl, rfl, rfl, by decide +kernel, rfl, by decide +kernel, by decide +kernel⟩
theorem body_p_read_number (Ev : Evd K mg) {k : Nat} (f : Addr) (cdv : Value) (A : Around) (outer : List PySem.Env) (s : Shared) (H : Hp) (E : XK) (hr : Room k (A.deeper (PyProof.Rows.envOfC "read_number" (defScope (top 14)) s.heap.objs.size f cdv))) : PSs (cxOf (L2.CX P w) P w K mg base ["text", "at", "first", "end"] "read_number" (defScope (top 14)) f cdv A outer s H E) (defBody (top 14)) (tS (gx (cxOf (L2.CX P w) P w K mg base ["text", "at", "first", "end"] "read_number" (defScope (top 14)) f cdv A outer s H E) (fun c d _ H => E c d H)) (pinsOf [false, false]) (b_p_read_number)) := by
  have sc := sc_p_read_number
  have hu64 := hr.units
  have hu1 : (A.deeper (PyProof.Rows.envOfC "read_number" (defScope (top 14)) s.heap.objs.size f cdv)).units + 1 < cLine := by have := hr.units; omega
  have tk : Takes (cxOf (L2.CX P w) P w K mg base ["text", "at", "first", "end"] "read_number" (defScope (top 14)) f cdv A outer s H E) (fun c d _ H => E c d H) := takes_of rfl rfl rfl rfl
  exact (b_cons (c_set 2 sc.nd (xdv 1))
    (b_cons (c_if (q_cmp (o_eq hu64) l_eq (x_sl (xv 0) (po_s (xv 1)) (po_s (x_op o_addP l_addP (xv 1) xi))) (xs [45]) (nomark _)) (b_one (c_set 2 sc.nd (xd (x_op o_addP l_addP (xv 1) xi)))) b_nil)
    (b_cons (c_set 3 sc.nd (xdv 2))
    (b_cons (c_while (passes_of rfl) (q_w (w_and (q_cmp op_lt l_cmp (xv 3) (x_bP o_len l_len Ev.f_len boot_len (z_cons (xv 0) z_nil)) (nomark _)) (w_and1 (q_cmp (o_in hu1) l_in (x_ix hu1 (xv 0) (xv 3) fun _ _ => rfl) (x_k Ev.k_FIGURES) (by rfl))))) (b_one (c_aug 3 sc.nd o_iaddP l_addP (xd xi))))
    (b_cons (c_if (q_cmp (o_eq hu64) l_eq (xv 3) (xv 2) (nomark _)) b_never b_nil)
    (b_one (c_ret (x_tupO (y_cons (xd (x_tyP o_int l_int Ev.f_int boot_int (z_cons (x_sl (xv 0) (po_s (xv 1)) (po_s (xv 3))) z_nil))) (y_cons (xmv 3) y_nil))))))))))
theorem ok_p_read_number (Ev : Evd K mg) {k : Nat} : Fnn P w K mg base (k + 1) "read_number" [false, false] (fnF 2 [false, false] (b_p_read_number)) :=
  Ev.d_p_read_number.wrap sc_p_read_number rfl rfl (fun _ _ _ _ _ _ us hl => match us, hl with | [_, _], _ => rfl) (body_p_read_number Ev)
theorem at_p_read_number (Ev : Evd K mg) : Fnn P w K mg base (1) "read_number" [false, false] (F_p_read_number) := (ok_p_read_number (k := 0) Ev).mono (show 0 + 1 ≤ 1 by omega)
theorem sc_p_read_list : FnScope ["text", "at", "found", "item"] ["text", "at"] (defScope (top 15)) := ⟨rfl, rfl, rfl, by decide +kernel, rfl, by decide +kernel, by decide +kernel⟩
theorem body_p_read_list (Ev : Evd K mg) {k : Nat} {cp_place_behind : FF} {cp_read_at : FF} (c_p_place_behind : Fnn P w K mg base k "place_behind" [false, false, false] cp_place_behind) (c_p_read_at : Fnn P w K mg base k "read_at" [false, false] cp_read_at) (f : Addr) (cdv : Value) (A : Around) (outer : List PySem.Env) (s : Shared) (H : Hp) (E : XK) (hr : Room k (A.deeper (PyProof.Rows.envOfC "read_list" (defScope (top 15)) s.heap.objs.size f cdv))) : PSs (cxOf (L2.CX P w) P w K mg base ["text", "at", "found", "item"] "read_list" (defScope (top 15)) f cdv A outer s H E) (defBody (top 15)) (tS (gx (cxOf (L2.CX P w) P w K mg base ["text", "at", "found", "item"] "read_list" (defScope (top 15)) f cdv A outer s H E) (fun c d _ H => E c d H)) (pinsOf [false, false]) (b_p_read_list cp_place_behind cp_read_at)) := by
  have sc := sc_p_read_list
  have hu64 := hr.units
  have hu1 : (A.deeper (PyProof.Rows.envOfC "read_list" (defScope (top 15)) s.heap.objs.size f cdv)).units + 1 < cLine := by have := hr.units; omega
  have tk : Takes (cxOf (L2.CX P w) P w K mg base ["text", "at", "found", "item"] "read_list" (defScope (top 15)) f cdv A outer s H E) (fun c d _ H => E c d H) := takes_of rfl rfl rfl rfl
  exact (b_cons (c_set 1 sc.nd (x_call c_p_place_behind hr (by omega) tk (w_slot 0 (w_slot 1 (w_val (xd (xs [91])) w_nil)))))
    (b_cons (c_set 2 sc.nd (x_lst y_nil))
    (b_cons (c_if (q_cmp (o_eq hu64) l_eq (x_sl (xv 0) (po_s (xv 1)) (po_s (x_op o_addP l_addP (xv 1) xi))) (xs [93]) (nomark _)) (b_one (c_ret (x_tupO (y_cons (xmv 2) (y_cons (xd (x_op o_addP l_addP (xv 1) xi)) y_nil))))) b_nil)
    (b_one (c_while (passes_of rfl) (q_P xb) (b_cons (c_unpO [3, 1] rfl (by decide) (u_tup rfl (u_cons (u_name 3 sc.nd) (u_cons (u_name 1 sc.nd) u_nil))) (x_call c_p_read_at hr (by omega) tk (w_slot 0 (w_slot 1 w_nil))))
    (b_cons (c_expr (x_app 2 (xdv 3)))
    (b_cons (c_if (q_cmp (o_eq hu64) l_eq (x_sl (xv 0) (po_s (xv 1)) (po_s (x_op o_addP l_addP (xv 1) xi))) (xs [93]) (nomark _)) (b_one (c_ret (x_tupO (y_cons (xmv 2) (y_cons (xd (x_op o_addP l_addP (xv 1) xi)) y_nil))))) b_nil)
    (b_one (c_set 1 sc.nd (x_call c_p_place_behind hr (by omega) tk (w_slot 0 (w_slot 1 (w_val (xd (xs [44, 32])) w_nil))))))))))))))
theorem ok_p_read_list (Ev : Evd K mg) {k : Nat} {cp_place_behind : FF} {cp_read_at : FF} (c_p_place_behind : Fnn P w K mg base k "place_behind" [false, false, false] cp_place_behind) (c_p_read_at : Fnn P w K mg base k "read_at" [false, false] cp_read_at) : Fnn P w K mg base (k + 1) "read_list" [false, false] (fnF 2 [false, false] (b_p_read_list cp_place_behind cp_read_at)) :=
  Ev.d_p_read_list.wrap sc_p_read_list rfl rfl (fun _ _ _ _ _ _ us hl => match us, hl with | [_, _], _ => rfl) (body_p_read_list Ev c_p_place_behind c_p_read_at)
theorem sc_p_read_dict : FnScope ["text", "at", "found", "name", "value"] ["text", "at"] (defScope (top 16)) := ⟨rfl, rfl, rfl, by decide +kernel, rfl, by decide +kernel, by decide +kernel⟩
theorem body_p_read_dict (Ev : Evd K mg) {k : Nat} {cp_place_behind : FF} {cp_read_quoted : FF} {cp_read_at : FF} (c_p_place_behind : Fnn P w K mg base k "place_behind" [false, false, false] cp_place_behind) (c_p_read_quoted : Fnn P w K mg base k "read_quoted" [false, false] cp_read_quoted) (c_p_read_at : Fnn P w K mg base k "read_at" [false, false] cp_read_at) (f : Addr) (cdv : Value) (A : Around) (outer : List PySem.Env) (s : Shared) (H : Hp) (E : XK) (hr : Room k (A.deeper (PyProof.Rows.envOfC "read_dict" (defScope (top 16)) s.heap.objs.size f cdv))) : PSs (cxOf (L2.CX P w) P w K mg base ["text", "at", "found", "name", "value"] "read_dict" (defScope (top 16)) f cdv A outer s H E) (defBody (top 16)) (tS (gx (cxOf (L2.CX P w) P w K mg base ["text", "at", "found", "name", "value"] "read_dict" (defScope (top 16)) f cdv A outer s H E) (fun c d _ H => E c d H)) (pinsOf [false, false]) (b_p_read_dict cp_place_behind cp_read_quoted cp_read_at)) := by
  have sc := sc_p_read_dict
  have hu64 := hr.units
  have hu1 : (A.deeper (PyProof.Rows.envOfC "read_dict" (defScope (top 16)) s.heap.objs.size f cdv)).units + 1 < cLine := by have := hr.units; omega
  have tk : Takes (cxOf (L2.CX P w) P w K mg base ["text", "at", "found", "name", "value"] "read_dict" (defScope (top 16)) f cdv A outer s H E) (fun c d _ H => E c d H) := takes_of rfl rfl rfl rfl
  exact (b_cons (c_set 1 sc.nd (x_call c_p_place_behind hr (by omega) tk (w_slot 0 (w_slot 1 (w_val (xd (xs [123])) w_nil)))))
    (b_cons (c_set 2 sc.nd x_dic0)
    (b_cons (c_if (q_cmp (o_eq hu64) l_eq (x_sl (xv 0) (po_s (xv 1)) (po_s (x_op o_addP l_addP (xv 1) xi))) (xs [125]) (nomark _)) (b_one (c_ret (x_tupO (y_cons (xmv 2) (y_cons (xd (x_op o_addP l_addP (xv 1) xi)) y_nil))))) b_nil)
    (b_one (c_while (passes_of rfl) (q_P xb) (b_cons (c_unpO [3, 1] rfl (by decide) (u_tup rfl (u_cons (u_name 3 sc.nd) (u_cons (u_name 1 sc.nd) u_nil))) (x_call c_p_read_quoted hr (by omega) tk (w_slot 0 (w_slot 1 w_nil))))
    (b_cons (c_set 1 sc.nd (x_call c_p_place_behind hr (by omega) tk (w_slot 0 (w_slot 1 (w_val (xd (xs [58, 32])) w_nil)))))
    (b_cons (c_unpO [4, 1] rfl (by decide) (u_tup rfl (u_cons (u_name 4 sc.nd) (u_cons (u_name 1 sc.nd) u_nil))) (x_call c_p_read_at hr (by omega) tk (w_slot 0 (w_slot 1 w_nil))))
    (b_cons (c_dput 2 hu1 (xv 3) (xdv 4))
    (b_cons (c_if (q_cmp (o_eq hu64) l_eq (x_sl (xv 0) (po_s (xv 1)) (po_s (x_op o_addP l_addP (xv 1) xi))) (xs [125]) (nomark _)) (b_one (c_ret (x_tupO (y_cons (xmv 2) (y_cons (xd (x_op o_addP l_addP (xv 1) xi)) y_nil))))) b_nil)
    (b_one (c_set 1 sc.nd (x_call c_p_place_behind hr (by omega) tk (w_slot 0 (w_slot 1 (w_val (xd (xs [44, 32])) w_nil))))))))))))))))
theorem ok_p_read_dict (Ev : Evd K mg) {k : Nat} {cp_place_behind : FF} {cp_read_quoted : FF} {cp_read_at : FF} (c_p_place_behind : Fnn P w K mg base k "place_behind" [false, false, false] cp_place_behind) (c_p_read_quoted : Fnn P w K mg base k "read_quoted" [false, false] cp_read_quoted) (c_p_read_at : Fnn P w K mg base k "read_at" [false, false] cp_read_at) : Fnn P w K mg base (k + 1) "read_dict" [false, false] (fnF 3 [false, false] (b_p_read_dict cp_place_behind cp_read_quoted cp_read_at)) :=
  Ev.d_p_read_dict.wrap sc_p_read_dict rfl rfl (fun _ _ _ _ _ _ us hl => match us, hl with | [_, _], _ => rfl) (body_p_read_dict Ev c_p_place_behind c_p_read_quoted c_p_read_at)
theorem sc_p_read_at : FnScope ["text", "at", "sign", "word", "value"] ["text", "at"] (defScope (top 17)) := ⟨rfl, rfl, rfl, by decide +kernel, rfl, by decide +kernel, by decide +kernel⟩
theorem body_p_read_at (Ev : Evd K mg) {k : Nat} {cp_read_quoted : FF} {cp_read_list : FF} {cp_read_dict : FF} {cp_read_number : FF} (c_p_read_quoted : Fnn P w K mg base k "read_quoted" [false, false] cp_read_quoted) (c_p_read_list : Fnn P w K mg base k "read_list" [false, false] cp_read_list) (c_p_read_dict : Fnn P w K mg base k "read_dict" [false, false] cp_read_dict) (c_p_read_number : Fnn P w K mg base k "read_number" [false, false] cp_read_number) (f : Addr) (cdv : Value) (A : Around) (outer : List PySem.Env) (s : Shared) (H : Hp) (E : XK) (hr : Room k (A.deeper (PyProof.Rows.envOfC "read_at" (defScope (top 17)) s.heap.objs.size f cdv))) : PSs (cxOf (L2.CX P w) P w K mg base ["text", "at", "sign", "word", "value"] "read_at" (defScope (top 17)) f cdv A outer s H E) (defBody (top 17)) (tS (gx (cxOf (L2.CX P w) P w K mg base ["text", "at", "sign", "word", "value"] "read_at" (defScope (top 17)) f cdv A outer s H E) (fun c d _ H => E c d H)) (pinsOf [false, false]) (b_p_read_at cp_read_quoted cp_read_list cp_read_dict cp_read_number)) := by
  have sc := sc_p_read_at
  have hu64 := hr.units
  have hu1 : (A.deeper (PyProof.Rows.envOfC "read_at" (defScope (top 17)) s.heap.objs.size f cdv)).units + 1 < cLine := by have := hr.units; omega
  have tk : Takes (cxOf (L2.CX P w) P w K mg base ["text", "at", "sign", "word", "value"] "read_at" (defScope (top 17)) f cdv A outer s H E) (fun c d _ H => E c d H) := takes_of rfl rfl rfl rfl
  exact (b_cons (c_set 2 sc.nd (xd (x_sl (xv 0) (po_s (xv 1)) (po_s (x_op o_addP l_addP (xv 1) xi)))))
    (b_cons (c_if (q_cmp (o_eq hu64) l_eq (xv 2) (xs [34]) (nomark _)) (b_one (c_ret (x_call c_p_read_quoted hr (by omega) tk (w_slot 0 (w_slot 1 w_nil))))) b_nil)
    (b_cons (c_if (q_cmp (o_eq hu64) l_eq (xv 2) (xs [91]) (nomark _)) (b_one (c_ret (x_call c_p_read_list hr (by omega) tk (w_slot 0 (w_slot 1 w_nil))))) b_nil)
    (b_cons (c_if (q_cmp (o_eq hu64) l_eq (xv 2) (xs [123]) (nomark _)) (b_one (c_ret (x_call c_p_read_dict hr (by omega) tk (w_slot 0 (w_slot 1 w_nil))))) b_nil)
    (b_cons (c_for (passes_of rfl) rfl (g_tup (vs := [3, 4]) (is := [3, 4]) rfl (by decide)) (j_tup (xd (x_k Ev.k_WORDS))) (u_tup rfl (u_cons (u_name 3 sc.nd) (u_cons (u_name 4 sc.nd) u_nil))) (b_one (c_if (q_cmp (o_eq hu64) l_eq (x_sl (xv 0) (po_s (xv 1)) (po_s (x_op o_addP l_addP (xv 1) (x_bP o_len l_len Ev.f_len boot_len (z_cons (xv 3) z_nil))))) (xv 3) (nomark _)) (b_one (c_ret (x_tupO (y_cons (xmv 4) (y_cons (xd (x_op o_addP l_addP (xv 1) (x_bP o_len l_len Ev.f_len boot_len (z_cons (xv 3) z_nil)))) y_nil))))) b_nil)))
    (b_one (c_ret (x_call c_p_read_number hr (by omega) tk (w_slot 0 (w_slot 1 w_nil))))))))))
theorem ok_p_read_at (Ev : Evd K mg) {k : Nat} {cp_read_quoted : FF} {cp_read_list : FF} {cp_read_dict : FF} {cp_read_number : FF} (c_p_read_quoted : Fnn P w K mg base k "read_quoted" [false, false] cp_read_quoted) (c_p_read_list : Fnn P w K mg base k "read_list" [false, false] cp_read_list) (c_p_read_dict : Fnn P w K mg base k "read_dict" [false, false] cp_read_dict) (c_p_read_number : Fnn P w K mg base k "read_number" [false, false] cp_read_number) : Fnn P w K mg base (k + 1) "read_at" [false, false] (fnF 3 [false, false] (b_p_read_at cp_read_quoted cp_read_list cp_read_dict cp_read_number)) :=
  Ev.d_p_read_at.wrap sc_p_read_at rfl rfl (fun _ _ _ _ _ _ us hl => match us, hl with | [_, _], _ => rfl) (body_p_read_at Ev c_p_read_quoted c_p_read_list c_p_read_dict c_p_read_number)
theorem at_p_read_list (Ev : Evd K mg) : ∀ n, Fnn P w K mg base (2 + n) "read_list" [false, false] (F_p_read_list n) ∧ Fnn P w K mg base (2 + n) "read_dict" [false, false] (F_p_read_dict n) ∧ Fnn P w K mg base (2 + n) "read_at" [false, false] (F_p_read_at n)
  | 0 => ⟨Ev.d_p_read_list.bad rfl sc_p_read_list (fun _ _ _ _ _ _ us hl => match us, hl with | [_, _], _ => rfl), Ev.d_p_read_dict.bad rfl sc_p_read_dict (fun _ _ _ _ _ _ us hl => match us, hl with | [_, _], _ => rfl), Ev.d_p_read_at.bad rfl sc_p_read_at (fun _ _ _ _ _ _ us hl => match us, hl with | [_, _], _ => rfl)⟩
  | n + 1 => by
    have a_p_read_list := (at_p_read_list Ev n).1
    have a_p_read_dict := (at_p_read_list Ev n).2.1
    have a_p_read_at := (at_p_read_list Ev n).2.2
    have a_p_place_behind := (at_p_place_behind (P := P) (w := w) (base := base) Ev).mono (show 1 ≤ 2 + n by omega)
    have a_p_read_quoted := (at_p_read_quoted (P := P) (w := w) (base := base) Ev).mono (show 2 ≤ 2 + n by omega)
    have a_p_read_number := (at_p_read_number (P := P) (w := w) (base := base) Ev).mono (show 1 ≤ 2 + n by omega)
    exact ⟨ok_p_read_list Ev a_p_place_behind a_p_read_at, ok_p_read_dict Ev a_p_place_behind a_p_read_quoted a_p_read_at, ok_p_read_at Ev a_p_read_quoted a_p_read_list a_p_read_dict a_p_read_number⟩
theorem at1_p_read_list (Ev : Evd K mg) (n : Nat) : Fnn P w K mg base (2 + n) "read_list" [false, false] (F_p_read_list n) := (at_p_read_list Ev n).1
theorem at1_p_read_dict (Ev : Evd K mg) (n : Nat) : Fnn P w K mg base (2 + n) "read_dict" [false, false] (F_p_read_dict n) := (at_p_read_list Ev n).2.1
theorem at1_p_read_at (Ev : Evd K mg) (n : Nat) : Fnn P w K mg base (2 + n) "read_at" [false, false] (F_p_read_at n) := (at_p_read_list Ev n).2.2
theorem sc_p_read_value : FnScope ["text", "value", "at"] ["text"] (defScope (top 18)) := ⟨rfl, rfl, rfl, by decide +kernel, rfl, by decide +kernel, by decide +kernel⟩
theorem body_p_read_value (Ev : Evd K mg) {k : Nat} {cp_read_at : FF} {cp_is_value : FF} {cp_show_value : FF} (c_p_read_at : Fnn P w K mg base k "read_at" [false, false] cp_read_at) (c_p_is_value : Fnn P w K mg base k "is_value" [false] cp_is_value) (c_p_show_value : Fnn P w K mg base k "show_value" [false] cp_show_value) (f : Addr) (cdv : Value) (A : Around) (outer : List PySem.Env) (s : Shared) (H : Hp) (E : XK) (hr : Room k (A.deeper (PyProof.Rows.envOfC "read_value" (defScope (top 18)) s.heap.objs.size f cdv))) : PSs (cxOf (L2.CX P w) P w K mg base ["text", "value", "at"] "read_value" (defScope (top 18)) f cdv A outer s H E) (defBody (top 18)) (tS (gx (cxOf (L2.CX P w) P w K mg base ["text", "value", "at"] "read_value" (defScope (top 18)) f cdv A outer s H E) (fun c d _ H => E c d H)) (pinsOf [false]) (b_p_read_value cp_read_at cp_is_value cp_show_value)) := by
  have sc := sc_p_read_value
  have hu64 := hr.units
  have hu1 : (A.deeper (PyProof.Rows.envOfC "read_value" (defScope (top 18)) s.heap.objs.size f cdv)).units + 1 < cLine := by have := hr.units; omega
  have tk : Takes (cxOf (L2.CX P w) P w K mg base ["text", "value", "at"] "read_value" (defScope (top 18)) f cdv A outer s H E) (fun c d _ H => E c d H) := takes_of rfl rfl rfl rfl
  exact (b_cons (c_if (q_not (q_P (x_isa Ev.f_isinstance Ev.f_str boot_str (kit_str _) (xv 0) boot_isinstance))) b_never b_nil)
    (b_cons (c_unpO [1, 2] rfl (by decide) (u_tup rfl (u_cons (u_name 1 sc.nd) (u_cons (u_name 2 sc.nd) u_nil))) (x_call c_p_read_at hr (by omega) tk (w_slot 0 (w_val (xd xi) w_nil))))
    (b_cons (c_if (q_w (w_or (q_not (q_D (x_call c_p_is_value hr (by omega) tk (w_slot 1 w_nil)))) (w_or1 (q_cmpD (o_ne hu64) l_neA (x_call c_p_show_value hr (by omega) tk (w_slot 1 w_nil)) (xdv 0) (nomark _))))) b_never b_nil)
    (b_one (c_retv 1)))))
theorem ok_p_read_value (Ev : Evd K mg) {k : Nat} {cp_read_at : FF} {cp_is_value : FF} {cp_show_value : FF} (c_p_read_at : Fnn P w K mg base k "read_at" [false, false] cp_read_at) (c_p_is_value : Fnn P w K mg base k "is_value" [false] cp_is_value) (c_p_show_value : Fnn P w K mg base k "show_value" [false] cp_show_value) : Fnn P w K mg base (k + 1) "read_value" [false] (fnF 2 [false] (b_p_read_value cp_read_at cp_is_value cp_show_value)) :=
  Ev.d_p_read_value.wrap sc_p_read_value rfl rfl (fun _ _ _ _ _ _ us hl => match us, hl with | [_], _ => rfl) (body_p_read_value Ev c_p_read_at c_p_is_value c_p_show_value)
theorem at_p_read_value (Ev : Evd K mg) (n : Nat) : Fnn P w K mg base (3 + n) "read_value" [false] (F_p_read_value n) := (ok_p_read_value (k := 2 + n) Ev ((at1_p_read_at (P := P) (w := w) (base := base) Ev n).mono (show 2 + n ≤ 2 + n by omega)) ((at_p_is_value (P := P) (w := w) (base := base) Ev n).mono (show 1 + n ≤ 2 + n by omega)) ((at_p_show_value (P := P) (w := w) (base := base) Ev n).mono (show 1 + n ≤ 2 + n by omega))).mono (show 2 + n + 1 ≤ 3 + n by omega)
theorem sc_l_mixed : FnScope ["_law_number_here", "_law_k"] ["_law_number_here", "_law_k"] (defScope (top 20)) := ⟨rfl, rfl, rfl, by decide +kernel, rfl, by decide +kernel, by decide +kernel⟩
theorem body_l_mixed (Ev : Evd K mg) {k : Nat} (f : Addr) (cdv : Value) (A : Around) (outer : List PySem.Env) (s : Shared) (H : Hp) (E : XK) (hr : Room k (A.deeper (PyProof.Rows.envOfC "_law_mixed" (defScope (top 20)) s.heap.objs.size f cdv))) : PSs (cxOf (L2.CX P w) P w K mg base ["_law_number_here", "_law_k"] "_law_mixed" (defScope (top 20)) f cdv A outer s H E) (defBody (top 20)) (tS (gx (cxOf (L2.CX P w) P w K mg base ["_law_number_here", "_law_k"] "_law_mixed" (defScope (top 20)) f cdv A outer s H E) (fun c d _ H => E c d H)) (pinsOf [false, false]) (b_l_mixed)) := by
  have sc := sc_l_mixed
  have hu64 := hr.units
  have hu1 : (A.deeper (PyProof.Rows.envOfC "_law_mixed" (defScope (top 20)) s.heap.objs.size f cdv)).units + 1 < cLine := by have := hr.units; omega
  have tk : Takes (cxOf (L2.CX P w) P w K mg base ["_law_number_here", "_law_k"] "_law_mixed" (defScope (top 20)) f cdv A outer s H E) (fun c d _ H => E c d H) := takes_of rfl rfl rfl rfl
  exact (b_cons (c_set 0 sc.nd (xd (x_op op_mod l_mod (x_op op_mulW l_mul (x_op o_addP l_addP (x_op o_addP l_addP (x_op op_mod l_mod (xv 0) xi) (x_op op_mulW l_mul xi (xv 1))) xi) xi) xi)))
    (b_cons (c_set 0 sc.nd (xd (x_op op_mod l_mod (x_op o_addP l_addP (x_op o_addP l_addP (x_op op_mulW l_mul (xv 0) (xv 0)) (x_op op_mulW l_mul xi (xv 1))) xi) xi)))
    (b_one (c_ret (xd (x_op op_fdivW l_div (x_op op_mod l_mod (x_op op_mulW l_mul (x_op o_addP l_addP (x_op op_mulW l_mul (x_op op_mod l_mod (xv 0) xi) xi) (x_op op_fdivW l_div (xv 0) xi)) xi) xi) xi))))))
theorem ok_l_mixed (Ev : Evd K mg) {k : Nat} : Fnn P w K mg base (k + 1) "_law_mixed" [false, false] (fnF 0 [false, false] (b_l_mixed)) :=
  Ev.d_l_mixed.wrap sc_l_mixed rfl rfl (fun _ _ _ _ _ _ us hl => match us, hl with | [_, _], _ => rfl) (body_l_mixed Ev)
theorem at_l_mixed (Ev : Evd K mg) : Fnn P w K mg base (1) "_law_mixed" [false, false] (F_l_mixed) := (ok_l_mixed (k := 0) Ev).mono (show 0 + 1 ≤ 1 by omega)
theorem sc_l_deck : FnScope ["_law_script", "_law_cells"] ["_law_script"] (defScope (top 21)) := ⟨rfl, rfl, rfl, by decide +kernel, rfl, by decide +kernel, by decide +kernel⟩
theorem body_l_deck (Ev : Evd K mg) {k : Nat} (f : Addr) (cdv : Value) (A : Around) (outer : List PySem.Env) (s : Shared) (H : Hp) (E : XK) (hr : Room k (A.deeper (PyProof.Rows.envOfC "_law_deck" (defScope (top 21)) s.heap.objs.size f cdv))) : PSs (cxOf (L2.CX P w) P w K mg base ["_law_script", "_law_cells"] "_law_deck" (defScope (top 21)) f cdv A outer s H E) (defBody (top 21)) (tS (gx (cxOf (L2.CX P w) P w K mg base ["_law_script", "_law_cells"] "_law_deck" (defScope (top 21)) f cdv A outer s H E) (fun c d _ H => E c d H)) (pinsOf [false]) (b_l_deck)) := by
  have sc := sc_l_deck
  have hu64 := hr.units
  have hu1 : (A.deeper (PyProof.Rows.envOfC "_law_deck" (defScope (top 21)) s.heap.objs.size f cdv)).units + 1 < cLine := by have := hr.units; omega
  have tk : Takes (cxOf (L2.CX P w) P w K mg base ["_law_script", "_law_cells"] "_law_deck" (defScope (top 21)) f cdv A outer s H E) (fun c d _ H => E c d H) := takes_of rfl rfl rfl rfl
  exact (b_cons (c_set 1 sc.nd (x_tyD (o_list rfl) l_list Ev.f_list boot_list (y_cons (x_slD (xdv 0) po_n (po_s xi)) y_nil)))
    (b_one (c_ret (x_lst (y_cons (x_rev (xdv 1)) (y_cons (xd (x_op o_addP l_addP (x_bP (cr_sum rfl) l_sum Ev.f_sum boot_sum (z_cons (xv 1) z_nil)) (x_op op_mulW l_mul xi (x_bP o_len l_len Ev.f_len boot_len (z_cons (xv 1) z_nil))))) (y_cons (xd xi) y_nil)))))))
theorem ok_l_deck (Ev : Evd K mg) {k : Nat} : Fnn P w K mg base (k + 1) "_law_deck" [false] (fnF 1 [false] (b_l_deck)) :=
  Ev.d_l_deck.wrap sc_l_deck rfl rfl (fun _ _ _ _ _ _ us hl => match us, hl with | [_], _ => rfl) (body_l_deck Ev)
theorem at_l_deck (Ev : Evd K mg) : Fnn P w K mg base (1) "_law_deck" [false] (F_l_deck) := (ok_l_deck (k := 0) Ev).mono (show 0 + 1 ≤ 1 by omega)
theorem sc_l_take : FnScope ["_law_deck_here", "_law_most", "_law_cell"] ["_law_deck_here", "_law_most"] (defScope (top 22)) := ⟨rfl, rfl, rfl, by decide +kernel, rfl, by decide +kernel, by decide +kernel⟩
theorem body_l_take (Ev : Evd K mg) {k : Nat} {cl_mixed : FF} (c_l_mixed : Fnn P w K mg base k "_law_mixed" [false, false] cl_mixed) (f : Addr) (cdv : Value) (A : Around) (outer : List PySem.Env) (s : Shared) (H : Hp) (E : XK) (hr : Room k (A.deeper (PyProof.Rows.envOfC "_law_take" (defScope (top 22)) s.heap.objs.size f cdv))) : PSs (cxOf (L2.CX P w) P w K mg base ["_law_deck_here", "_law_most", "_law_cell"] "_law_take" (defScope (top 22)) f cdv A outer s H E) (defBody (top 22)) (tS (gx (cxOf (L2.CX P w) P w K mg base ["_law_deck_here", "_law_most", "_law_cell"] "_law_take" (defScope (top 22)) f cdv A outer s H E) (fun c d _ H => E c d H)) (pinsOf [true, false]) (b_l_take cl_mixed)) := by
  have sc := sc_l_take
  have hu64 := hr.units
  have hu1 : (A.deeper (PyProof.Rows.envOfC "_law_take" (defScope (top 22)) s.heap.objs.size f cdv)).units + 1 < cLine := by have := hr.units; omega
  have tk : Takes (cxOf (L2.CX P w) P w K mg base ["_law_deck_here", "_law_most", "_law_cell"] "_law_take" (defScope (top 22)) f cdv A outer s H E) (fun c d _ H => E c d H) := takes_of rfl rfl rfl rfl
  exact (b_cons (c_store 0 xi (xd (x_op o_addP l_addP (x_ix hu1 (xv 0) xi fun _ _ => rfl) xi)))
    (b_cons (c_if (q_eqNil hu64 (x_ix hu1 (xv 0) xi fun _ _ => rfl)) (b_one (c_ret (x_opD op_mod l_modA (x_call c_l_mixed hr (by omega) tk (w_val (xd (x_ix hu1 (xv 0) xi fun _ _ => rfl)) (w_val (xd (x_ix hu1 (xv 0) xi fun _ _ => rfl)) w_nil))) (xdv 1)))) b_nil)
    (b_cons (c_set 2 sc.nd (x_popP 0 0 hu1))
    (b_cons (c_if (q_cmp op_lt l_cmp (xv 2) (x_op op_pow l_pow xi xi) (nomark _)) (b_one (c_ret (x_opD op_mod l_modA (x_call c_l_mixed hr (by omega) tk (w_slot 2 (w_val (xd (x_ix hu1 (xv 0) xi fun _ _ => rfl)) w_nil))) (xdv 1)))) b_nil)
    (b_cons (c_expr (x_appP 0 0 hu1 (x_op op_fdivW l_div (xv 2) (xv 1))))
    (b_one (c_ret (xd (x_op op_mod l_mod (xv 2) (xv 1))))))))))
theorem ok_l_take (Ev : Evd K mg) {k : Nat} {cl_mixed : FF} (c_l_mixed : Fnn P w K mg base k "_law_mixed" [false, false] cl_mixed) : Fnn P w K mg base (k + 1) "_law_take" [true, false] (fnF 1 [true, false] (b_l_take cl_mixed)) :=
  Ev.d_l_take.wrap sc_l_take rfl rfl (fun _ _ _ _ _ _ us hl => match us, hl with | [_, _], _ => rfl) (body_l_take Ev c_l_mixed)
theorem at_l_take (Ev : Evd K mg) : Fnn P w K mg base (2) "_law_take" [true, false] (F_l_take) := (ok_l_take (k := 1) Ev ((at_l_mixed (P := P) (w := w) (base := base) Ev).mono (show 1 ≤ 1 by omega))).mono (show 1 + 1 ≤ 2 by omega)
theorem sc_l_signs : FnScope ["_law_signs_here"] [] (defScope (top 23)) := ⟨rfl, rfl, rfl, by decide +kernel, rfl, by decide +kernel, by decide +kernel⟩
theorem body_l_signs (Ev : Evd K mg) {k : Nat} (f : Addr) (cdv : Value) (A : Around) (outer : List PySem.Env) (s : Shared) (H : Hp) (E : XK) (hr : Room k (A.deeper (PyProof.Rows.envOfC "_law_signs" (defScope (top 23)) s.heap.objs.size f cdv))) : PSs (cxOf (L2.CX P w) P w K mg base ["_law_signs_here"] "_law_signs" (defScope (top 23)) f cdv A outer s H E) (defBody (top 23)) (tS (gx (cxOf (L2.CX P w) P w K mg base ["_law_signs_here"] "_law_signs" (defScope (top 23)) f cdv A outer s H E) (fun c d _ H => E c d H)) (pinsOf []) (b_l_signs)) := by
  have sc := sc_l_signs
  have hu64 := hr.units
  have hu1 : (A.deeper (PyProof.Rows.envOfC "_law_signs" (defScope (top 23)) s.heap.objs.size f cdv)).units + 1 < cLine := by have := hr.units; omega
  have tk : Takes (cxOf (L2.CX P w) P w K mg base ["_law_signs_here"] "_law_signs" (defScope (top 23)) f cdv A outer s H E) (fun c d _ H => E c d H) := takes_of rfl rfl rfl rfl
  exact (b_cons (c_set 0 sc.nd (xd (xs [32, 33, 34, 35, 36, 38, 39, 40, 41, 42, 43, 44, 45, 46, 47, 48, 49, 50, 51, 52, 53, 54, 55, 56, 57, 58, 59, 60, 61, 62, 63, 64, 65, 66, 67, 68, 69, 70, 71, 72, 73, 74, 75, 76, 77, 78, 79, 80, 81, 82, 83, 84, 85, 86, 87, 88, 89, 90, 91, 92, 93, 94, 95, 96])))
    (b_one (c_ret (xd (x_op o_addP l_addP (xv 0) (xs [97, 98, 99, 100, 101, 102, 103, 104, 105, 106, 107, 108, 109, 110, 111, 112, 113, 114, 115, 116, 117, 118, 119, 120, 121, 122, 123, 124, 125, 126]))))))
theorem ok_l_signs (Ev : Evd K mg) {k : Nat} : Fnn P w K mg base (k + 1) "_law_signs" [] (fnF 1 [] (b_l_signs)) :=
  Ev.d_l_signs.wrap sc_l_signs rfl rfl (fun _ _ _ _ _ _ us hl => match us, hl with | [], _ => rfl) (body_l_signs Ev)
theorem at_l_signs (Ev : Evd K mg) : Fnn P w K mg base (1) "_law_signs" [] (F_l_signs) := (ok_l_signs (k := 0) Ev).mono (show 0 + 1 ≤ 1 by omega)
theorem sc_l_text : FnScope ["_law_deck_here", "_law_most", "_law_signs_here", "_law_some", "_law_text_here", "_law_k"] ["_law_deck_here", "_law_most"] (defScope (top 24)) := ⟨rfl, rfl, rfl, by decide +kernel, rfl, by decide +kernel, by decide +kernel⟩
theorem body_l_text (Ev : Evd K mg) {k : Nat} {cl_signs : FF} {cl_take : FF} (c_l_signs : Fnn P w K mg base k "_law_signs" [] cl_signs) (c_l_take : Fnn P w K mg base k "_law_take" [true, false] cl_take) (f : Addr) (cdv : Value) (A : Around) (outer : List PySem.Env) (s : Shared) (H : Hp) (E : XK) (hr : Room k (A.deeper (PyProof.Rows.envOfC "_law_text" (defScope (top 24)) s.heap.objs.size f cdv))) : PSs (cxOf (L2.CX P w) P w K mg base ["_law_deck_here", "_law_most", "_law_signs_here", "_law_some", "_law_text_here", "_law_k"] "_law_text" (defScope (top 24)) f cdv A outer s H E) (defBody (top 24)) (tS (gx (cxOf (L2.CX P w) P w K mg base ["_law_deck_here", "_law_most", "_law_signs_here", "_law_some", "_law_text_here", "_law_k"] "_law_text" (defScope (top 24)) f cdv A outer s H E) (fun c d _ H => E c d H)) (pinsOf [true, false]) (b_l_text cl_signs cl_take)) := by
  have sc := sc_l_text
  have hu64 := hr.units
  have hu1 : (A.deeper (PyProof.Rows.envOfC "_law_text" (defScope (top 24)) s.heap.objs.size f cdv)).units + 1 < cLine := by have := hr.units; omega
  have tk : Takes (cxOf (L2.CX P w) P w K mg base ["_law_deck_here", "_law_most", "_law_signs_here", "_law_some", "_law_text_here", "_law_k"] "_law_text" (defScope (top 24)) f cdv A outer s H E) (fun c d _ H => E c d H) := takes_of rfl rfl rfl rfl
  exact (b_cons (c_set 2 sc.nd (x_call0 c_l_signs hr (by omega) tk))
    (b_cons (c_set 3 sc.nd (x_ixD hu1 (x_lst (y_cons (xdv 2) (y_cons (xdv 2) (y_cons (xd (xs [48, 49, 50, 51, 52, 53, 54, 55, 56, 57])) (y_cons (xd (xs [97, 98, 99])) (y_cons (xd (xs [88, 89, 90])) (y_cons (xd (xs [97, 49])) y_nil))))))) (x_call c_l_take hr (by omega) tk (w_slot 0 (w_val (xd xi) w_nil))) fun _ _ => rfl))
    (b_cons (c_set 4 sc.nd (xd (xs [])))
    (b_cons (c_for (passes_of rfl) rfl (g_name (vs := [5]) (by decide) (by decide)) (j_r1 Ev.f_range (y_cons (x_call c_l_take hr (by omega) tk (w_slot 0 (w_val (xd (x_op o_addP l_addP (xv 1) xi)) w_nil))) y_nil)) (u_name 5 sc.nd) (b_one (c_set 4 sc.nd (x_opD o_add l_add (xdv 4) (x_ixD hu1 (xdv 3) (x_call c_l_take hr (by omega) tk (w_slot 0 (w_val (xd (x_bP o_len l_len Ev.f_len boot_len (z_cons (xv 3) z_nil))) w_nil))) fun _ _ => rfl)))))
    (b_one (c_retv 4))))))
theorem ok_l_text (Ev : Evd K mg) {k : Nat} {cl_signs : FF} {cl_take : FF} (c_l_signs : Fnn P w K mg base k "_law_signs" [] cl_signs) (c_l_take : Fnn P w K mg base k "_law_take" [true, false] cl_take) : Fnn P w K mg base (k + 1) "_law_text" [true, false] (fnF 4 [true, false] (b_l_text cl_signs cl_take)) :=
  Ev.d_l_text.wrap sc_l_text rfl rfl (fun _ _ _ _ _ _ us hl => match us, hl with | [_, _], _ => rfl) (body_l_text Ev c_l_signs c_l_take)
theorem at_l_text (Ev : Evd K mg) : Fnn P w K mg base (3) "_law_text" [true, false] (F_l_text) := (ok_l_text (k := 2) Ev ((at_l_signs (P := P) (w := w) (base := base) Ev).mono (show 1 ≤ 2 by omega)) ((at_l_take (P := P) (w := w) (base := base) Ev).mono (show 2 ≤ 2 by omega))).mono (show 2 + 1 ≤ 3 by omega)
theorem sc_l_unlike : FnScope ["_law_deck_here", "_law_many", "_law_most", "_law_signs_here", "_law_found", "_law_k", "_law_text_here", "_law_at"] ["_law_deck_here", "_law_many", "_law_most"] (defScope (top 25)) := ⟨rfl, rfl, rfl, by decide +kernel, rfl, by decide +kernel, by decide +kernel⟩
theorem body_l_unlike (Ev : Evd K mg) {k : Nat} {cl_signs : FF} {cl_text : FF} (c_l_signs : Fnn P w K mg base k "_law_signs" [] cl_signs) (c_l_text : Fnn P w K mg base k "_law_text" [true, false] cl_text) (f : Addr) (cdv : Value) (A : Around) (outer : List PySem.Env) (s : Shared) (H : Hp) (E : XK) (hr : Room k (A.deeper (PyProof.Rows.envOfC "_law_unlike" (defScope (top 25)) s.heap.objs.size f cdv))) : PSs (cxOf (L2.CX P w) P w K mg base ["_law_deck_here", "_law_many", "_law_most", "_law_signs_here", "_law_found", "_law_k", "_law_text_here", "_law_at"] "_law_unlike" (defScope (top 25)) f cdv A outer s H E) (defBody (top 25)) (tS (gx (cxOf (L2.CX P w) P w K mg base ["_law_deck_here", "_law_many", "_law_most", "_law_signs_here", "_law_found", "_law_k", "_law_text_here", "_law_at"] "_law_unlike" (defScope (top 25)) f cdv A outer s H E) (fun c d _ H => E c d H)) (pinsOf [true, false, false]) (b_l_unlike cl_signs cl_text)) := by
  have sc := sc_l_unlike
  have hu64 := hr.units
  have hu1 : (A.deeper (PyProof.Rows.envOfC "_law_unlike" (defScope (top 25)) s.heap.objs.size f cdv)).units + 1 < cLine := by have := hr.units; omega
  have tk : Takes (cxOf (L2.CX P w) P w K mg base ["_law_deck_here", "_law_many", "_law_most", "_law_signs_here", "_law_found", "_law_k", "_law_text_here", "_law_at"] "_law_unlike" (defScope (top 25)) f cdv A outer s H E) (fun c d _ H => E c d H) := takes_of rfl rfl rfl rfl
  exact (b_cons (c_set 3 sc.nd (x_call0 c_l_signs hr (by omega) tk))
    (b_cons (c_set 4 sc.nd (x_lst y_nil))
    (b_cons (c_for (passes_of rfl) rfl (g_name (vs := [5]) (by decide) (by decide)) (j_r1 Ev.f_range (y_cons (xdv 1) y_nil)) (u_name 5 sc.nd) (b_cons (c_set 6 sc.nd (x_call c_l_text hr (by omega) tk (w_slot 0 (w_slot 2 w_nil))))
    (b_cons (c_set 7 sc.nd (xd (x_find (xv 3) (x_sl (xv 6) po_n (po_s xi)))))
    (b_cons (c_while (passes_of rfl) (q_cmp (o_in hu1) l_in (xv 6) (xv 4) (by rfl)) (b_cons (c_set 7 sc.nd (xd (x_op op_mod l_mod (x_op o_addP l_addP (xv 7) xi) (x_bP o_len l_len Ev.f_len boot_len (z_cons (xv 3) z_nil)))))
    (b_one (c_set 6 sc.nd (xd (x_op o_addP l_addP (x_ix hu1 (xv 3) (xv 7) fun _ _ => rfl) (x_sl (xv 6) (po_s xi) po_n)))))))
    (b_one (c_expr (x_app 4 (xdv 6))))))))
    (b_one (c_retv 4)))))
theorem ok_l_unlike (Ev : Evd K mg) {k : Nat} {cl_signs : FF} {cl_text : FF} (c_l_signs : Fnn P w K mg base k "_law_signs" [] cl_signs) (c_l_text : Fnn P w K mg base k "_law_text" [true, false] cl_text) : Fnn P w K mg base (k + 1) "_law_unlike" [true, false, false] (fnF 5 [true, false, false] (b_l_unlike cl_signs cl_text)) :=
  Ev.d_l_unlike.wrap sc_l_unlike rfl rfl (fun _ _ _ _ _ _ us hl => match us, hl with | [_, _, _], _ => rfl) (body_l_unlike Ev c_l_signs c_l_text)
theorem at_l_unlike (Ev : Evd K mg) : Fnn P w K mg base (4) "_law_unlike" [true, false, false] (F_l_unlike) := (ok_l_unlike (k := 3) Ev ((at_l_signs (P := P) (w := w) (base := base) Ev).mono (show 1 ≤ 3 by omega)) ((at_l_text (P := P) (w := w) (base := base) Ev).mono (show 3 ≤ 3 by omega))).mono (show 3 + 1 ≤ 4 by omega)
theorem sc_l_far : FnScope ["_law_deck_here", "_law_number_here", "_law_k"] ["_law_deck_here"] (defScope (top 26)) := ⟨rfl, rfl, rfl, by decide +kernel, rfl, by decide +kernel, by decide +kernel⟩
theorem body_l_far (Ev : Evd K mg) {k : Nat} {cl_take : FF} (c_l_take : Fnn P w K mg base k "_law_take" [true, false] cl_take) (f : Addr) (cdv : Value) (A : Around) (outer : List PySem.Env) (s : Shared) (H : Hp) (E : XK) (hr : Room k (A.deeper (PyProof.Rows.envOfC "_law_far" (defScope (top 26)) s.heap.objs.size f cdv))) : PSs (cxOf (L2.CX P w) P w K mg base ["_law_deck_here", "_law_number_here", "_law_k"] "_law_far" (defScope (top 26)) f cdv A outer s H E) (defBody (top 26)) (tS (gx (cxOf (L2.CX P w) P w K mg base ["_law_deck_here", "_law_number_here", "_law_k"] "_law_far" (defScope (top 26)) f cdv A outer s H E) (fun c d _ H => E c d H)) (pinsOf [true]) (b_l_far cl_take)) := by
  have sc := sc_l_far
  have hu64 := hr.units
  have hu1 : (A.deeper (PyProof.Rows.envOfC "_law_far" (defScope (top 26)) s.heap.objs.size f cdv)).units + 1 < cLine := by have := hr.units; omega
  have tk : Takes (cxOf (L2.CX P w) P w K mg base ["_law_deck_here", "_law_number_here", "_law_k"] "_law_far" (defScope (top 26)) f cdv A outer s H E) (fun c d _ H => E c d H) := takes_of rfl rfl rfl rfl
  exact (b_cons (c_set 1 sc.nd (xd xi))
    (b_cons (c_for (passes_of rfl) rfl (g_name (vs := [2]) (by decide) (by decide)) (j_r1 Ev.f_range (y_cons (xd xi) y_nil)) (u_name 2 sc.nd) (b_one (c_set 1 sc.nd (x_opD o_add l_add (xd (x_op op_mulW l_mul (xv 1) (x_op op_pow l_pow xi xi))) (x_call c_l_take hr (by omega) tk (w_slot 0 (w_val (xd (x_op op_pow l_pow xi xi)) w_nil)))))))
    (b_one (c_ret (xd (x_op o_addP l_addP (x_op op_sub l_sub (x_op op_mod l_mod (xv 1) (x_op op_sub l_sub (x_op op_mulW l_mul xi (x_op op_pow l_pow xi xi)) xi)) (x_op op_pow l_pow xi xi)) xi))))))
theorem ok_l_far (Ev : Evd K mg) {k : Nat} {cl_take : FF} (c_l_take : Fnn P w K mg base k "_law_take" [true, false] cl_take) : Fnn P w K mg base (k + 1) "_law_far" [true] (fnF 2 [true] (b_l_far cl_take)) :=
  Ev.d_l_far.wrap sc_l_far rfl rfl (fun _ _ _ _ _ _ us hl => match us, hl with | [_], _ => rfl) (body_l_far Ev c_l_take)
theorem at_l_far (Ev : Evd K mg) : Fnn P w K mg base (3) "_law_far" [true] (F_l_far) := (ok_l_far (k := 2) Ev ((at_l_take (P := P) (w := w) (base := base) Ev).mono (show 2 ≤ 2 by omega))).mono (show 2 + 1 ≤ 3 by omega)
theorem sc_l_world : FnScope ["_law_deck_here", "_law_most", "_law_names", "_law_head", "_law_texts", "_law_start", "_law_text_here"] ["_law_deck_here"] (defScope (top 27)) := ⟨rfl, rfl, rfl, by decide +kernel, rfl, by decide +kernel, by decide +kernel⟩
theorem body_l_world (Ev : Evd K mg) {k : Nat} {cl_take : FF} {cl_unlike : FF} {cl_text : FF} {cl_far : FF} (c_l_take : Fnn P w K mg base k "_law_take" [true, false] cl_take) (c_l_unlike : Fnn P w K mg base k "_law_unlike" [true, false, false] cl_unlike) (c_l_text : Fnn P w K mg base k "_law_text" [true, false] cl_text) (c_l_far : Fnn P w K mg base k "_law_far" [true] cl_far) (f : Addr) (cdv : Value) (A : Around) (outer : List PySem.Env) (s : Shared) (H : Hp) (E : XK) (hr : Room k (A.deeper (PyProof.Rows.envOfC "_law_world" (defScope (top 27)) s.heap.objs.size f cdv))) : PSs (cxOf (L2.CX P w) P w K mg base ["_law_deck_here", "_law_most", "_law_names", "_law_head", "_law_texts", "_law_start", "_law_text_here"] "_law_world" (defScope (top 27)) f cdv A outer s H E) (defBody (top 27)) (tS (gx (cxOf (L2.CX P w) P w K mg base ["_law_deck_here", "_law_most", "_law_names", "_law_head", "_law_texts", "_law_start", "_law_text_here"] "_law_world" (defScope (top 27)) f cdv A outer s H E) (fun c d _ H => E c d H)) (pinsOf [true]) (b_l_world cl_take cl_unlike cl_text cl_far)) := by
  have sc := sc_l_world
  have hu64 := hr.units
  have hu1 : (A.deeper (PyProof.Rows.envOfC "_law_world" (defScope (top 27)) s.heap.objs.size f cdv)).units + 1 < cLine := by have := hr.units; omega
  have tk : Takes (cxOf (L2.CX P w) P w K mg base ["_law_deck_here", "_law_most", "_law_names", "_law_head", "_law_texts", "_law_start", "_law_text_here"] "_law_world" (defScope (top 27)) f cdv A outer s H E) (fun c d _ H => E c d H) := takes_of rfl rfl rfl rfl
  exact (b_cons (c_set 1 sc.nd (x_ixD hu1 (x_lst (y_cons (xd xi) (y_cons (xd xi) (y_cons (xd xi) (y_cons (xd xi) (y_cons (xd xi) (y_cons (xd xi) (y_cons (xd xi) (y_cons (xd xi) y_nil))))))))) (x_call c_l_take hr (by omega) tk (w_slot 0 (w_val (xd xi) w_nil))) fun _ _ => rfl))
    (b_cons (c_set 2 sc.nd (x_call c_l_unlike hr (by omega) tk (w_slot 0 (w_val (xd xi) (w_slot 1 w_nil)))))
    (b_cons (c_set 3 sc.nd (x_call c_l_text hr (by omega) tk (w_slot 0 (w_val (x_opD op_mulW l_mulA (xd xi) (x_call c_l_take hr (by omega) tk (w_slot 0 (w_val (xd xi) w_nil)))) w_nil))))
    (b_cons (c_setLc 4 [("_law_text_here", 6)] rfl sc.nd (by kernel_rfl) (g_name (by decide) (by decide)) (j_list (x_call c_l_unlike hr (by omega) tk (w_slot 0 (w_val (xd xi) (w_slot 1 w_nil))))) (fun _ _ _ _ _ => (u_name 6 sc.nd)) (fun _ _ _ _ _ => r_nil) (fun _ _ _ _ _ => (xd (x_op o_addP l_addP (xv 3) (xv 6)))) rfl)
    (b_cons (c_set 5 sc.nd (x_ixD hu1 (x_lst (y_cons (xd xi) (y_cons (xd xi) (y_cons (xd (x_neg xi)) (y_cons (x_opD op_fdivW l_divA (x_call c_l_far hr (by omega) tk (w_slot 0 w_nil)) (xd xi)) y_nil))))) (x_call c_l_take hr (by omega) tk (w_slot 0 (w_val (xd xi) w_nil))) fun _ _ => rfl))
    (b_one (c_ret (x_lst (y_cons (xdv 2) (y_cons (xdv 4) (y_cons (xdv 5) (y_cons (x_opD o_add l_add (xd xi) (x_call c_l_take hr (by omega) tk (w_slot 0 (w_val (x_ixD hu1 (x_lst (y_cons (xd xi) (y_cons (xd (x_op op_pow l_pow xi xi)) y_nil))) (x_call c_l_take hr (by omega) tk (w_slot 0 (w_val (xd xi) w_nil))) fun _ _ => rfl) w_nil)))) y_nil))))))))))))
theorem ok_l_world (Ev : Evd K mg) {k : Nat} {cl_take : FF} {cl_unlike : FF} {cl_text : FF} {cl_far : FF} (c_l_take : Fnn P w K mg base k "_law_take" [true, false] cl_take) (c_l_unlike : Fnn P w K mg base k "_law_unlike" [true, false, false] cl_unlike) (c_l_text : Fnn P w K mg base k "_law_text" [true, false] cl_text) (c_l_far : Fnn P w K mg base k "_law_far" [true] cl_far) : Fnn P w K mg base (k + 1) "_law_world" [true] (fnF 6 [true] (b_l_world cl_take cl_unlike cl_text cl_far)) :=
  Ev.d_l_world.wrap sc_l_world rfl rfl (fun _ _ _ _ _ _ us hl => match us, hl with | [_], _ => rfl) (body_l_world Ev c_l_take c_l_unlike c_l_text c_l_far)
theorem at_l_world (Ev : Evd K mg) : Fnn P w K mg base (5) "_law_world" [true] (F_l_world) := (ok_l_world (k := 4) Ev ((at_l_take (P := P) (w := w) (base := base) Ev).mono (show 2 ≤ 4 by omega)) ((at_l_unlike (P := P) (w := w) (base := base) Ev).mono (show 4 ≤ 4 by omega)) ((at_l_text (P := P) (w := w) (base := base) Ev).mono (show 3 ≤ 4 by omega)) ((at_l_far (P := P) (w := w) (base := base) Ev).mono (show 3 ≤ 4 by omega))).mono (show 4 + 1 ≤ 5 by omega)
theorem sc_l_number : FnScope ["_law_deck_here", "_law_world_here", "_law_way"] ["_law_deck_here", "_law_world_here"] (defScope (top 28)) := ⟨rfl, rfl, rfl, by decide +kernel, rfl, by decide +kernel, by decide +kernel⟩
theorem body_l_number (Ev : Evd K mg) {k : Nat} {cl_take : FF} {cl_far : FF} (c_l_take : Fnn P w K mg base k "_law_take" [true, false] cl_take) (c_l_far : Fnn P w K mg base k "_law_far" [true] cl_far) (f : Addr) (cdv : Value) (A : Around) (outer : List PySem.Env) (s : Shared) (H : Hp) (E : XK) (hr : Room k (A.deeper (PyProof.Rows.envOfC "_law_number" (defScope (top 28)) s.heap.objs.size f cdv))) : PSs (cxOf (L2.CX P w) P w K mg base ["_law_deck_here", "_law_world_here", "_law_way"] "_law_number" (defScope (top 28)) f cdv A outer s H E) (defBody (top 28)) (tS (gx (cxOf (L2.CX P w) P w K mg base ["_law_deck_here", "_law_world_here", "_law_way"] "_law_number" (defScope (top 28)) f cdv A outer s H E) (fun c d _ H => E c d H)) (pinsOf [true, false]) (b_l_number cl_take cl_far)) := by
  have sc := sc_l_number
  have hu64 := hr.units
  have hu1 : (A.deeper (PyProof.Rows.envOfC "_law_number" (defScope (top 28)) s.heap.objs.size f cdv)).units + 1 < cLine := by have := hr.units; omega
  have tk : Takes (cxOf (L2.CX P w) P w K mg base ["_law_deck_here", "_law_world_here", "_law_way"] "_law_number" (defScope (top 28)) f cdv A outer s H E) (fun c d _ H => E c d H) := takes_of rfl rfl rfl rfl
  exact (b_cons (c_set 2 sc.nd (x_call c_l_take hr (by omega) tk (w_slot 0 (w_val (xd xi) w_nil))))
    (b_cons (c_if (q_cmp (o_eq hu64) l_eq (xv 2) xi (nomark _)) (b_one (c_ret (x_opD op_sub l_subA (x_call c_l_take hr (by omega) tk (w_slot 0 (w_val (xd xi) w_nil))) (xd xi)))) b_nil)
    (b_cons (c_if (q_cmp (o_eq hu64) l_eq (xv 2) xi (nomark _)) (b_one (c_ret (x_call c_l_far hr (by omega) tk (w_slot 0 w_nil)))) b_nil)
    (b_one (c_ret (x_opD o_add l_add (xd (x_ix hu1 (xv 1) xi fun _ _ => rfl)) (x_opD op_mulW l_mulA (xd (x_ix hu1 (xv 1) xi fun _ _ => rfl)) (x_opD op_sub l_subA (x_call c_l_take hr (by omega) tk (w_slot 0 (w_val (xd xi) w_nil))) (xd xi)))))))))
theorem ok_l_number (Ev : Evd K mg) {k : Nat} {cl_take : FF} {cl_far : FF} (c_l_take : Fnn P w K mg base k "_law_take" [true, false] cl_take) (c_l_far : Fnn P w K mg base k "_law_far" [true] cl_far) : Fnn P w K mg base (k + 1) "_law_number" [true, false] (fnF 1 [true, false] (b_l_number cl_take cl_far)) :=
  Ev.d_l_number.wrap sc_l_number rfl rfl (fun _ _ _ _ _ _ us hl => match us, hl with | [_, _], _ => rfl) (body_l_number Ev c_l_take c_l_far)
theorem at_l_number (Ev : Evd K mg) : Fnn P w K mg base (4) "_law_number" [true, false] (F_l_number) := (ok_l_number (k := 3) Ev ((at_l_take (P := P) (w := w) (base := base) Ev).mono (show 2 ≤ 3 by omega)) ((at_l_far (P := P) (w := w) (base := base) Ev).mono (show 3 ≤ 3 by omega))).mono (show 3 + 1 ≤ 4 by omega)
theorem sc_l_leaf : FnScope ["_law_deck_here", "_law_world_here", "_law_way"] ["_law_deck_here", "_law_world_here"] (defScope (top 29)) := ⟨rfl, rfl, rfl, by decide +kernel, rfl, by decide +kernel, by decide +kernel⟩
theorem body_l_leaf (Ev : Evd K mg) {k : Nat} {cl_take : FF} {cl_number : FF} (c_l_take : Fnn P w K mg base k "_law_take" [true, false] cl_take) (c_l_number : Fnn P w K mg base k "_law_number" [true, false] cl_number) (f : Addr) (cdv : Value) (A : Around) (outer : List PySem.Env) (s : Shared) (H : Hp) (E : XK) (hr : Room k (A.deeper (PyProof.Rows.envOfC "_law_leaf" (defScope (top 29)) s.heap.objs.size f cdv))) : PSs (cxOf (L2.CX P w) P w K mg base ["_law_deck_here", "_law_world_here", "_law_way"] "_law_leaf" (defScope (top 29)) f cdv A outer s H E) (defBody (top 29)) (tS (gx (cxOf (L2.CX P w) P w K mg base ["_law_deck_here", "_law_world_here", "_law_way"] "_law_leaf" (defScope (top 29)) f cdv A outer s H E) (fun c d _ H => E c d H)) (pinsOf [true, false]) (b_l_leaf cl_take cl_number)) := by
  have sc := sc_l_leaf
  have hu64 := hr.units
  have hu1 : (A.deeper (PyProof.Rows.envOfC "_law_leaf" (defScope (top 29)) s.heap.objs.size f cdv)).units + 1 < cLine := by have := hr.units; omega
  have tk : Takes (cxOf (L2.CX P w) P w K mg base ["_law_deck_here", "_law_world_here", "_law_way"] "_law_leaf" (defScope (top 29)) f cdv A outer s H E) (fun c d _ H => E c d H) := takes_of rfl rfl rfl rfl
  exact (b_cons (c_set 2 sc.nd (x_call c_l_take hr (by omega) tk (w_slot 0 (w_val (xd xi) w_nil))))
    (b_cons (c_if (q_cmp (o_eq hu64) l_eq (xv 2) xi (nomark _)) (b_one (c_ret (xd xn))) b_nil)
    (b_cons (c_if (q_cmp (o_eq hu64) l_eq (xv 2) xi (nomark _)) (b_one (c_ret (x_cmpD (o_eq hu64) l_eqA (x_call c_l_take hr (by omega) tk (w_slot 0 (w_val (xd xi) w_nil))) (xd xi) (nomark _)))) b_nil)
    (b_cons (c_if (q_cmp op_lt l_cmp (xv 2) xi (nomark _)) (b_one (c_ret (x_call c_l_number hr (by omega) tk (w_slot 0 (w_slot 1 w_nil))))) b_nil)
    (b_one (c_ret (x_ixD hu1 (xd (x_ix hu1 (xv 1) xi fun _ _ => rfl)) (x_call c_l_take hr (by omega) tk (w_slot 0 (w_val (xd (x_bP o_len l_len Ev.f_len boot_len (z_cons (x_ix hu1 (xv 1) xi fun _ _ => rfl) z_nil))) w_nil))) fun _ _ => rfl)))))))
theorem ok_l_leaf (Ev : Evd K mg) {k : Nat} {cl_take : FF} {cl_number : FF} (c_l_take : Fnn P w K mg base k "_law_take" [true, false] cl_take) (c_l_number : Fnn P w K mg base k "_law_number" [true, false] cl_number) : Fnn P w K mg base (k + 1) "_law_leaf" [true, false] (fnF 1 [true, false] (b_l_leaf cl_take cl_number)) :=
  Ev.d_l_leaf.wrap sc_l_leaf rfl rfl (fun _ _ _ _ _ _ us hl => match us, hl with | [_, _], _ => rfl) (body_l_leaf Ev c_l_take c_l_number)
theorem at_l_leaf (Ev : Evd K mg) : Fnn P w K mg base (5) "_law_leaf" [true, false] (F_l_leaf) := (ok_l_leaf (k := 4) Ev ((at_l_take (P := P) (w := w) (base := base) Ev).mono (show 2 ≤ 4 by omega)) ((at_l_number (P := P) (w := w) (base := base) Ev).mono (show 4 ≤ 4 by omega))).mono (show 4 + 1 ≤ 5 by omega)
theorem sc_l_dict : FnScope ["_law_deck_here", "_law_world_here", "_law_deep", "_law_many", "_law_names", "_law_found", "_law_k", "_law_name"] ["_law_deck_here", "_law_world_here", "_law_deep", "_law_many"] (defScope (top 30)) := ⟨rfl, rfl, rfl, by decide +kernel, rfl, by decide +kernel, by decide +kernel⟩
theorem body_l_dict (Ev : Evd K mg) {k : Nat} {cl_take : FF} {cl_value : FF} (c_l_take : Fnn P w K mg base k "_law_take" [true, false] cl_take) (c_l_value : Fnn P w K mg base k "_law_value" [true, false, false, false] cl_value) (f : Addr) (cdv : Value) (A : Around) (outer : List PySem.Env) (s : Shared) (H : Hp) (E : XK) (hr : Room k (A.deeper (PyProof.Rows.envOfC "_law_dict" (defScope (top 30)) s.heap.objs.size f cdv))) : PSs (cxOf (L2.CX P w) P w K mg base ["_law_deck_here", "_law_world_here", "_law_deep", "_law_many", "_law_names", "_law_found", "_law_k", "_law_name"] "_law_dict" (defScope (top 30)) f cdv A outer s H E) (defBody (top 30)) (tS (gx (cxOf (L2.CX P w) P w K mg base ["_law_deck_here", "_law_world_here", "_law_deep", "_law_many", "_law_names", "_law_found", "_law_k", "_law_name"] "_law_dict" (defScope (top 30)) f cdv A outer s H E) (fun c d _ H => E c d H)) (pinsOf [true, false, false, false]) (b_l_dict cl_take cl_value)) := by
  have sc := sc_l_dict
  have hu64 := hr.units
  have hu1 : (A.deeper (PyProof.Rows.envOfC "_law_dict" (defScope (top 30)) s.heap.objs.size f cdv)).units + 1 < cLine := by have := hr.units; omega
  have tk : Takes (cxOf (L2.CX P w) P w K mg base ["_law_deck_here", "_law_world_here", "_law_deep", "_law_many", "_law_names", "_law_found", "_law_k", "_law_name"] "_law_dict" (defScope (top 30)) f cdv A outer s H E) (fun c d _ H => E c d H) := takes_of rfl rfl rfl rfl
  exact (b_cons (c_set 4 sc.nd (x_tyD (o_list rfl) l_list Ev.f_list boot_list (y_cons (xd (x_ix hu1 (xv 1) xi fun _ _ => rfl)) y_nil)))
    (b_cons (c_set 5 sc.nd x_dic0)
    (b_cons (c_for (passes_of rfl) rfl (g_name (vs := [6]) (by decide) (by decide)) (j_r1 Ev.f_range (y_cons (xdv 3) y_nil)) (u_name 6 sc.nd) (b_cons (c_set 7 sc.nd (x_popAt 4 (x_call c_l_take hr (by omega) tk (w_slot 0 (w_val (xd (x_bP o_len l_len Ev.f_len boot_len (z_cons (xv 4) z_nil))) w_nil)))))
    (b_one (c_dput 5 hu1 (xv 7) (x_call c_l_value hr (by omega) tk (w_slot 0 (w_slot 1 (w_val (xd (x_bP (call_max2 rfl) l_max2 Ev.f_max boot_max (z_cons xi (z_cons (x_op op_sub l_sub (x_op op_sub l_sub (xv 2) xi) (x_op op_fdivW l_div (xv 3) xi)) z_nil)))) (w_val (xd xi) w_nil)))))))))
    (b_one (c_retv 5)))))
theorem ok_l_dict (Ev : Evd K mg) {k : Nat} {cl_take : FF} {cl_value : FF} (c_l_take : Fnn P w K mg base k "_law_take" [true, false] cl_take) (c_l_value : Fnn P w K mg base k "_law_value" [true, false, false, false] cl_value) : Fnn P w K mg base (k + 1) "_law_dict" [true, false, false, false] (fnF 4 [true, false, false, false] (b_l_dict cl_take cl_value)) :=
  Ev.d_l_dict.wrap sc_l_dict rfl rfl (fun _ _ _ _ _ _ us hl => match us, hl with | [_, _, _, _], _ => rfl) (body_l_dict Ev c_l_take c_l_value)
theorem sc_l_value : FnScope ["_law_deck_here", "_law_world_here", "_law_deep", "_law_way", "_law_many", "_law_k"] ["_law_deck_here", "_law_world_here", "_law_deep", "_law_way"] (defScope (top 31)) := ⟨rfl, rfl, rfl, by decide +kernel, rfl, by decide +kernel, by decide +kernel⟩
theorem body_l_value (Ev : Evd K mg) {k : Nat} {cl_take : FF} {cl_leaf : FF} {cl_value : FF} {cl_dict : FF} (c_l_take : Fnn P w K mg base k "_law_take" [true, false] cl_take) (c_l_leaf : Fnn P w K mg base k "_law_leaf" [true, false] cl_leaf) (c_l_value : Fnn P w K mg base k "_law_value" [true, false, false, false] cl_value) (c_l_dict : Fnn P w K mg base k "_law_dict" [true, false, false, false] cl_dict) (f : Addr) (cdv : Value) (A : Around) (outer : List PySem.Env) (s : Shared) (H : Hp) (E : XK) (hr : Room k (A.deeper (PyProof.Rows.envOfC "_law_value" (defScope (top 31)) s.heap.objs.size f cdv))) : PSs (cxOf (L2.CX P w) P w K mg base ["_law_deck_here", "_law_world_here", "_law_deep", "_law_way", "_law_many", "_law_k"] "_law_value" (defScope (top 31)) f cdv A outer s H E) (defBody (top 31)) (tS (gx (cxOf (L2.CX P w) P w K mg base ["_law_deck_here", "_law_world_here", "_law_deep", "_law_way", "_law_many", "_law_k"] "_law_value" (defScope (top 31)) f cdv A outer s H E) (fun c d _ H => E c d H)) (pinsOf [true, false, false, false]) (b_l_value cl_take cl_leaf cl_value cl_dict)) := by
  have sc := sc_l_value
  have hu64 := hr.units
  have hu1 : (A.deeper (PyProof.Rows.envOfC "_law_value" (defScope (top 31)) s.heap.objs.size f cdv)).units + 1 < cLine := by have := hr.units; omega
  have tk : Takes (cxOf (L2.CX P w) P w K mg base ["_law_deck_here", "_law_world_here", "_law_deep", "_law_way", "_law_many", "_law_k"] "_law_value" (defScope (top 31)) f cdv A outer s H E) (fun c d _ H => E c d H) := takes_of rfl rfl rfl rfl
  exact (b_cons (c_if (q_cmp (o_eq hu64) l_eq (xv 3) xi (nomark _)) (b_one (c_set 3 sc.nd (x_call c_l_take hr (by omega) tk (w_slot 0 (w_val (xd xi) w_nil))))) b_nil)
    (b_cons (c_if (q_w (w_or (q_cmp (o_eq hu64) l_eq (xv 2) xi (nomark _)) (w_or1 (q_cmp op_lt l_cmp (xv 3) xi (nomark _))))) (b_one (c_ret (x_call c_l_leaf hr (by omega) tk (w_slot 0 (w_slot 1 w_nil))))) b_nil)
    (b_cons (c_set 4 sc.nd (x_ixD hu1 (x_lst (y_cons (xd xi) (y_cons (xd xi) (y_cons (xd xi) (y_cons (xd xi) (y_cons (xd xi) (y_cons (xd xi) (y_cons (xd xi) (y_cons (xd xi) y_nil))))))))) (x_call c_l_take hr (by omega) tk (w_slot 0 (w_val (xd xi) w_nil))) fun _ _ => rfl))
    (b_cons (c_if (q_cmp op_lt l_cmp (xv 3) xi (nomark _)) (b_one (c_ret (x_lc [("_law_k", 5)] rfl sc.nd (by kernel_rfl) (g_name (by decide) (by decide)) (j_r1 Ev.f_range (y_cons (xdv 4) y_nil)) (fun _ _ _ _ _ => (u_name 5 sc.nd)) (fun _ _ _ _ _ => r_nil) (fun _ _ _ _ _ => (x_call c_l_value hr (by omega) takes_no (w_slot 0 (w_slot 1 (w_val (xd (x_op op_sub l_sub (xv 2) xi)) (w_val (xd xi) w_nil))))))))) b_nil)
    (b_cons (c_if (q_cmpD (o_eq hu64) l_eqA (x_call c_l_take hr (by omega) tk (w_slot 0 (w_val (xd xi) w_nil))) (xd xi) (nomark _)) (b_one (c_set 4 sc.nd (x_opD o_add l_add (xd xi) (x_call c_l_take hr (by omega) tk (w_slot 0 (w_val (xd xi) w_nil)))))) b_nil)
    (b_one (c_ret (x_call c_l_dict hr (by omega) tk (w_slot 0 (w_slot 1 (w_slot 2 (w_slot 4 w_nil))))))))))))
theorem ok_l_value (Ev : Evd K mg) {k : Nat} {cl_take : FF} {cl_leaf : FF} {cl_value : FF} {cl_dict : FF} (c_l_take : Fnn P w K mg base k "_law_take" [true, false] cl_take) (c_l_leaf : Fnn P w K mg base k "_law_leaf" [true, false] cl_leaf) (c_l_value : Fnn P w K mg base k "_law_value" [true, false, false, false] cl_value) (c_l_dict : Fnn P w K mg base k "_law_dict" [true, false, false, false] cl_dict) : Fnn P w K mg base (k + 1) "_law_value" [true, false, false, false] (fnF 2 [true, false, false, false] (b_l_value cl_take cl_leaf cl_value cl_dict)) :=
  Ev.d_l_value.wrap sc_l_value rfl rfl (fun _ _ _ _ _ _ us hl => match us, hl with | [_, _, _, _], _ => rfl) (body_l_value Ev c_l_take c_l_leaf c_l_value c_l_dict)
theorem at_l_dict (Ev : Evd K mg) : ∀ n, Fnn P w K mg base (5 + n) "_law_dict" [true, false, false, false] (F_l_dict n) ∧ Fnn P w K mg base (5 + n) "_law_value" [true, false, false, false] (F_l_value n)
  | 0 => ⟨Ev.d_l_dict.bad rfl sc_l_dict (fun _ _ _ _ _ _ us hl => match us, hl with | [_, _, _, _], _ => rfl), Ev.d_l_value.bad rfl sc_l_value (fun _ _ _ _ _ _ us hl => match us, hl with | [_, _, _, _], _ => rfl)⟩
  | n + 1 => by
    have a_l_dict := (at_l_dict Ev n).1
    have a_l_value := (at_l_dict Ev n).2
    have a_l_take := (at_l_take (P := P) (w := w) (base := base) Ev).mono (show 2 ≤ 5 + n by omega)
    have a_l_leaf := (at_l_leaf (P := P) (w := w) (base := base) Ev).mono (show 5 ≤ 5 + n by omega)
    exact ⟨ok_l_dict Ev a_l_take a_l_value, ok_l_value Ev a_l_take a_l_leaf a_l_value a_l_dict⟩
theorem at1_l_dict (Ev : Evd K mg) (n : Nat) : Fnn P w K mg base (5 + n) "_law_dict" [true, false, false, false] (F_l_dict n) := (at_l_dict Ev n).1
theorem at1_l_value (Ev : Evd K mg) (n : Nat) : Fnn P w K mg base (5 + n) "_law_value" [true, false, false, false] (F_l_value n) := (at_l_dict Ev n).2
theorem sc_l_samples : FnScope ["_law_deck_here", "_law_world_here", "_law_many", "_law_way", "_law_deep", "_law_k"] ["_law_deck_here", "_law_world_here", "_law_many"] (defScope (top 32)) := ⟨rfl, rfl, rfl, by decide +kernel, rfl, by decide +kernel, by decide +kernel⟩
theorem body_l_samples (Ev : Evd K mg) {k : Nat} {cl_take : FF} {cl_value : FF} (c_l_take : Fnn P w K mg base k "_law_take" [true, false] cl_take) (c_l_value : Fnn P w K mg base k "_law_value" [true, false, false, false] cl_value) (f : Addr) (cdv : Value) (A : Around) (outer : List PySem.Env) (s : Shared) (H : Hp) (E : XK) (hr : Room k (A.deeper (PyProof.Rows.envOfC "_law_samples" (defScope (top 32)) s.heap.objs.size f cdv))) : PSs (cxOf (L2.CX P w) P w K mg base ["_law_deck_here", "_law_world_here", "_law_many", "_law_way", "_law_deep", "_law_k"] "_law_samples" (defScope (top 32)) f cdv A outer s H E) (defBody (top 32)) (tS (gx (cxOf (L2.CX P w) P w K mg base ["_law_deck_here", "_law_world_here", "_law_many", "_law_way", "_law_deep", "_law_k"] "_law_samples" (defScope (top 32)) f cdv A outer s H E) (fun c d _ H => E c d H)) (pinsOf [true, false, false]) (b_l_samples cl_take cl_value)) := by
  have sc := sc_l_samples
  have hu64 := hr.units
  have hu1 : (A.deeper (PyProof.Rows.envOfC "_law_samples" (defScope (top 32)) s.heap.objs.size f cdv)).units + 1 < cLine := by have := hr.units; omega
  have tk : Takes (cxOf (L2.CX P w) P w K mg base ["_law_deck_here", "_law_world_here", "_law_many", "_law_way", "_law_deep", "_law_k"] "_law_samples" (defScope (top 32)) f cdv A outer s H E) (fun c d _ H => E c d H) := takes_of rfl rfl rfl rfl
  exact (b_cons (c_set 3 sc.nd (x_ixD hu1 (x_lst (y_cons (xd xi) (y_cons (xd xi) (y_cons (xd xi) (y_cons (xd xi) (y_cons (xd xi) (y_cons (xd xi) y_nil))))))) (x_call c_l_take hr (by omega) tk (w_slot 0 (w_val (xd xi) w_nil))) fun _ _ => rfl))
    (b_cons (c_set 4 sc.nd (x_ixD hu1 (x_lst (y_cons (xd xi) (y_cons (xd xi) (y_cons (xd xi) (y_cons (xd xi) y_nil))))) (x_call c_l_take hr (by omega) tk (w_slot 0 (w_val (xd xi) w_nil))) fun _ _ => rfl))
    (b_one (c_ret (x_lc [("_law_k", 5)] rfl sc.nd (by kernel_rfl) (g_name (by decide) (by decide)) (j_r1 Ev.f_range (y_cons (xdv 2) y_nil)) (fun _ _ _ _ _ => (u_name 5 sc.nd)) (fun _ _ _ _ _ => r_nil) (fun _ _ _ _ _ => (x_call c_l_value hr (by omega) takes_no (w_slot 0 (w_slot 1 (w_slot 4 (w_slot 3 w_nil)))))))))))
theorem ok_l_samples (Ev : Evd K mg) {k : Nat} {cl_take : FF} {cl_value : FF} (c_l_take : Fnn P w K mg base k "_law_take" [true, false] cl_take) (c_l_value : Fnn P w K mg base k "_law_value" [true, false, false, false] cl_value) : Fnn P w K mg base (k + 1) "_law_samples" [true, false, false] (fnF 3 [true, false, false] (b_l_samples cl_take cl_value)) :=
  Ev.d_l_samples.wrap sc_l_samples rfl rfl (fun _ _ _ _ _ _ us hl => match us, hl with | [_, _, _], _ => rfl) (body_l_samples Ev c_l_take c_l_value)
theorem at_l_samples (Ev : Evd K mg) (n : Nat) : Fnn P w K mg base (6 + n) "_law_samples" [true, false, false] (F_l_samples n) := (ok_l_samples (k := 5 + n) Ev ((at_l_take (P := P) (w := w) (base := base) Ev).mono (show 2 ≤ 5 + n by omega)) ((at1_l_value (P := P) (w := w) (base := base) Ev n).mono (show 5 + n ≤ 5 + n by omega))).mono (show 5 + n + 1 ≤ 6 + n by omega)
theorem sc_l_same : FnScope ["_law_one", "_law_other", "_law_name", "_law_a", "_law_b"] ["_law_one", "_law_other"] (defScope (top 33)) := ⟨rfl, rfl, rfl, by decide +kernel, rfl, by decide +kernel, by decide +kernel⟩
theorem body_l_same (Ev : Evd K mg) {k : Nat} {cl_same : FF} (c_l_same : Fnn P w K mg base k "_law_same" [false, false] cl_same) (f : Addr) (cdv : Value) (A : Around) (outer : List PySem.Env) (s : Shared) (H : Hp) (E : XK) (hr : Room k (A.deeper (PyProof.Rows.envOfC "_law_same" (defScope (top 33)) s.heap.objs.size f cdv))) : PSs (cxOf (L2.CX P w) P w K mg base ["_law_one", "_law_other", "_law_name", "_law_a", "_law_b"] "_law_same" (defScope (top 33)) f cdv A outer s H E) (defBody (top 33)) (tS (gx (cxOf (L2.CX P w) P w K mg base ["_law_one", "_law_other", "_law_name", "_law_a", "_law_b"] "_law_same" (defScope (top 33)) f cdv A outer s H E) (fun c d _ H => E c d H)) (pinsOf [false, false]) (b_l_same cl_same)) := by
  have sc := sc_l_same
  have hu64 := hr.units
  have hu1 : (A.deeper (PyProof.Rows.envOfC "_law_same" (defScope (top 33)) s.heap.objs.size f cdv)).units + 1 < cLine := by have := hr.units; omega
  have tk : Takes (cxOf (L2.CX P w) P w K mg base ["_law_one", "_law_other", "_law_name", "_law_a", "_law_b"] "_law_same" (defScope (top 33)) f cdv A outer s H E) (fun c d _ H => E c d H) := takes_of rfl rfl rfl rfl
  exact (b_cons (c_if (q_w (w_or (q_P (x_isa Ev.f_isinstance Ev.f_bool boot_bool (kit_bool _) (xv 0) boot_isinstance)) (w_or1 (q_P (x_isa Ev.f_isinstance Ev.f_bool boot_bool (kit_bool _) (xv 1) boot_isinstance))))) (b_one (c_ret (x_and (xd (x_isa Ev.f_isinstance Ev.f_bool boot_bool (kit_bool _) (xv 0) boot_isinstance)) (x_and (xd (x_isa Ev.f_isinstance Ev.f_bool boot_bool (kit_bool _) (xv 1) boot_isinstance)) (x_one (xd (x_cmp (o_eq hu64) l_eq (xv 0) (xv 1) (nomark _)))))))) b_nil)
    (b_cons (c_if (q_w (w_or (q_P (x_isa Ev.f_isinstance Ev.f_int boot_int (kit_int _) (xv 0) boot_isinstance)) (w_or1 (q_P (x_isa Ev.f_isinstance Ev.f_int boot_int (kit_int _) (xv 1) boot_isinstance))))) (b_one (c_ret (x_and (xd (x_isa Ev.f_isinstance Ev.f_int boot_int (kit_int _) (xv 0) boot_isinstance)) (x_and (xd (x_isa Ev.f_isinstance Ev.f_int boot_int (kit_int _) (xv 1) boot_isinstance)) (x_one (xd (x_cmp (o_eq hu64) l_eq (xv 0) (xv 1) (nomark _)))))))) b_nil)
    (b_cons (c_if (q_w (w_or (q_P (x_isa Ev.f_isinstance Ev.f_str boot_str (kit_str _) (xv 0) boot_isinstance)) (w_or1 (q_P (x_isa Ev.f_isinstance Ev.f_str boot_str (kit_str _) (xv 1) boot_isinstance))))) (b_one (c_ret (x_and (xd (x_isa Ev.f_isinstance Ev.f_str boot_str (kit_str _) (xv 0) boot_isinstance)) (x_and (xd (x_isa Ev.f_isinstance Ev.f_str boot_str (kit_str _) (xv 1) boot_isinstance)) (x_one (xd (x_cmp (o_eq hu64) l_eq (xv 0) (xv 1) (nomark _)))))))) b_nil)
    (b_cons (c_if (q_w (w_or (q_cmp op_isN l_isN (xv 0) xn (nomark _)) (w_or1 (q_cmp op_isN l_isN (xv 1) xn (nomark _))))) (b_one (c_ret (x_and (xd (x_cmp op_isN l_isN (xv 0) xn (nomark _))) (x_one (xd (x_cmp op_isN l_isN (xv 1) xn (nomark _))))))) b_nil)
    (b_cons (c_if (q_w (w_or (q_P (x_isa Ev.f_isinstance Ev.f_dict boot_dict (kit_dict _) (xv 0) boot_isinstance)) (w_or1 (q_P (x_isa Ev.f_isinstance Ev.f_dict boot_dict (kit_dict _) (xv 1) boot_isinstance))))) (b_cons (c_if (q_w (w_or (q_not (q_P (x_isa Ev.f_isinstance Ev.f_dict boot_dict (kit_dict _) (xv 0) boot_isinstance))) (w_or (q_not (q_P (x_isa Ev.f_isinstance Ev.f_dict boot_dict (kit_dict _) (xv 1) boot_isinstance))) (w_or1 (q_cmpD (o_ne hu64) l_neA (x_bD (o_sorted rfl) l_sorted Ev.f_sorted boot_sorted (y_cons (xdv 0) y_nil)) (x_bD (o_sorted rfl) l_sorted Ev.f_sorted boot_sorted (y_cons (xdv 1) y_nil)) (nomark _)))))) (b_one (c_ret (xd xb))) b_nil)
    (b_one (c_ret (x_cmpD (o_notIn hu1) l_notInA (xd xb) (x_lcD .keys [("_law_name", 2)] rfl sc.nd (by kernel_rfl) (g_name (by decide) (by decide)) (pi_keys (pv 0)) (fun _ _ _ _ _ => (u_name 2 sc.nd)) (fun _ _ _ _ _ => r_nil) (fun _ _ _ _ _ => (x_call c_l_same hr (by omega) takes_no (w_val (xd (x_ix hu1 (xv 0) (xv 2) fun _ _ => rfl)) (w_val (xd (x_ix hu1 (xv 1) (xv 2) fun _ _ => rfl)) w_nil))))) (by rfl))))) b_nil)
    (b_cons (c_if (q_w (w_or (q_cmp (o_ne hu64) l_ne (x_isa Ev.f_isinstance Ev.f_list boot_list (kit_list _) (xv 0) boot_isinstance) (x_isa Ev.f_isinstance Ev.f_list boot_list (kit_list _) (xv 1) boot_isinstance) (nomark _)) (w_or1 (q_cmp (o_ne hu64) l_ne (x_isa Ev.f_isinstance Ev.f_tuple boot_tuple (kit_tuple _) (xv 0) boot_isinstance) (x_isa Ev.f_isinstance Ev.f_tuple boot_tuple (kit_tuple _) (xv 1) boot_isinstance) (nomark _))))) (b_one (c_ret (xd xb))) b_nil)
    (b_one (c_ret (x_and (xd (x_cmp (o_eq hu64) l_eq (x_bP o_len l_len Ev.f_len boot_len (z_cons (xv 0) z_nil)) (x_bP o_len l_len Ev.f_len boot_len (z_cons (xv 1) z_nil)) (nomark _))) (x_one (x_cmpD (o_notIn hu1) l_notInA (xd xb) (x_lc [("_law_a", 3), ("_law_b", 4)] rfl sc.nd (by kernel_rfl) (g_tup (is := [3, 4]) rfl (by decide)) (j_zip Ev.f_zip (y_cons (xdv 0) (y_cons (xdv 1) y_nil))) (fun _ _ _ _ _ => (u_tup rfl (u_cons (u_name 3 sc.nd) (u_cons (u_name 4 sc.nd) u_nil)))) (fun _ _ _ _ _ => r_nil) (fun _ _ _ _ _ => (x_call c_l_same hr (by omega) takes_no (w_slot 3 (w_slot 4 w_nil))))) (by rfl))))))))))))
theorem ok_l_same (Ev : Evd K mg) {k : Nat} {cl_same : FF} (c_l_same : Fnn P w K mg base k "_law_same" [false, false] cl_same) : Fnn P w K mg base (k + 1) "_law_same" [false, false] (fnF 3 [false, false] (b_l_same cl_same)) :=
  Ev.d_l_same.wrap sc_l_same rfl rfl (fun _ _ _ _ _ _ us hl => match us, hl with | [_, _], _ => rfl) (body_l_same Ev c_l_same)
theorem at_l_same (Ev : Evd K mg) : ∀ n, Fnn P w K mg base (0 + n) "_law_same" [false, false] (F_l_same n)
  | 0 => Ev.d_l_same.bad rfl sc_l_same (fun _ _ _ _ _ _ us hl => match us, hl with | [_, _], _ => rfl)
  | n + 1 => by
    have a_l_same := (at_l_same Ev n)
    exact ok_l_same Ev a_l_same
theorem sc_l_quoted : FnScope ["_law_text_here", "_law_found", "_law_sign"] ["_law_text_here"] (defScope (top 34)) := ⟨rfl, rfl, rfl, by decide +kernel, rfl, by decide +kernel, by decide +kernel⟩
theorem body_l_quoted (Ev : Evd K mg) {k : Nat} (f : Addr) (cdv : Value) (A : Around) (outer : List PySem.Env) (s : Shared) (H : Hp) (E : XK) (hr : Room k (A.deeper (PyProof.Rows.envOfC "_law_quoted" (defScope (top 34)) s.heap.objs.size f cdv))) : PSs (cxOf (L2.CX P w) P w K mg base ["_law_text_here", "_law_found", "_law_sign"] "_law_quoted" (defScope (top 34)) f cdv A outer s H E) (defBody (top 34)) (tS (gx (cxOf (L2.CX P w) P w K mg base ["_law_text_here", "_law_found", "_law_sign"] "_law_quoted" (defScope (top 34)) f cdv A outer s H E) (fun c d _ H => E c d H)) (pinsOf [false]) (b_l_quoted)) := by
  have sc := sc_l_quoted
  have hu64 := hr.units
  have hu1 : (A.deeper (PyProof.Rows.envOfC "_law_quoted" (defScope (top 34)) s.heap.objs.size f cdv)).units + 1 < cLine := by have := hr.units; omega
  have tk : Takes (cxOf (L2.CX P w) P w K mg base ["_law_text_here", "_law_found", "_law_sign"] "_law_quoted" (defScope (top 34)) f cdv A outer s H E) (fun c d _ H => E c d H) := takes_of rfl rfl rfl rfl
  exact (b_cons (c_set 1 sc.nd (xd (xs [34])))
    (b_cons (c_for (passes_of rfl) rfl (g_name (vs := [2]) (by decide) (by decide)) (j_str (xv 0)) (u_name 2 sc.nd) (b_cons (c_set 1 sc.nd (xd (x_op o_addP l_addP (xv 1) (xv 2))))
    (b_one (c_if (q_cmp (o_eq hu64) l_eq (xv 2) (xs [34]) (nomark _)) (b_one (c_set 1 sc.nd (xd (x_op o_addP l_addP (xv 1) (xv 2))))) b_nil))))
    (b_one (c_ret (xd (x_op o_addP l_addP (xv 1) (xs [34])))))))
theorem ok_l_quoted (Ev : Evd K mg) {k : Nat} : Fnn P w K mg base (k + 1) "_law_quoted" [false] (fnF 2 [false] (b_l_quoted)) :=
  Ev.d_l_quoted.wrap sc_l_quoted rfl rfl (fun _ _ _ _ _ _ us hl => match us, hl with | [_], _ => rfl) (body_l_quoted Ev)
theorem at_l_quoted (Ev : Evd K mg) : Fnn P w K mg base (1) "_law_quoted" [false] (F_l_quoted) := (ok_l_quoted (k := 0) Ev).mono (show 0 + 1 ≤ 1 by omega)
theorem sc_l_written : FnScope ["_law_value_here", "_law_rows", "_law_name", "_law_item"] ["_law_value_here"] (defScope (top 35)) := ⟨rfl, rfl, rfl, by decide +kernel, rfl, by decide +kernel, by decide +kernel⟩
theorem body_l_written (Ev : Evd K mg) {k : Nat} {cl_quoted : FF} {cl_written : FF} (c_l_quoted : Fnn P w K mg base k "_law_quoted" [false] cl_quoted) (c_l_written : Fnn P w K mg base k "_law_written" [false] cl_written) (f : Addr) (cdv : Value) (A : Around) (outer : List PySem.Env) (s : Shared) (H : Hp) (E : XK) (hr : Room k (A.deeper (PyProof.Rows.envOfC "_law_written" (defScope (top 35)) s.heap.objs.size f cdv))) : PSs (cxOf (L2.CX P w) P w K mg base ["_law_value_here", "_law_rows", "_law_name", "_law_item"] "_law_written" (defScope (top 35)) f cdv A outer s H E) (defBody (top 35)) (tS (gx (cxOf (L2.CX P w) P w K mg base ["_law_value_here", "_law_rows", "_law_name", "_law_item"] "_law_written" (defScope (top 35)) f cdv A outer s H E) (fun c d _ H => E c d H)) (pinsOf [false]) (b_l_written cl_quoted cl_written)) := by
  have sc := sc_l_written
  have hu64 := hr.units
  have hu1 : (A.deeper (PyProof.Rows.envOfC "_law_written" (defScope (top 35)) s.heap.objs.size f cdv)).units + 1 < cLine := by have := hr.units; omega
  have tk : Takes (cxOf (L2.CX P w) P w K mg base ["_law_value_here", "_law_rows", "_law_name", "_law_item"] "_law_written" (defScope (top 35)) f cdv A outer s H E) (fun c d _ H => E c d H) := takes_of rfl rfl rfl rfl
  exact (b_cons (c_if (q_cmp op_isN l_isN (xv 0) xn (nomark _)) (b_one (c_ret (xd (xs [110, 111, 116, 104, 105, 110, 103])))) b_nil)
    (b_cons (c_if (q_P (x_isa Ev.f_isinstance Ev.f_bool boot_bool (kit_bool _) (xv 0) boot_isinstance)) (b_one (c_ret (x_ixD hu1 (x_lst (y_cons (xd (xs [110, 111])) (y_cons (xd (xs [121, 101, 115])) y_nil))) (xd (x_tyP o_int l_int Ev.f_int boot_int (z_cons (xv 0) z_nil))) fun _ _ => rfl))) b_nil)
    (b_cons (c_if (q_P (x_isa Ev.f_isinstance Ev.f_int boot_int (kit_int _) (xv 0) boot_isinstance)) (b_one (c_ret (xd (x_tyP o_str l_str Ev.f_str boot_str (z_cons (xv 0) z_nil))))) b_nil)
    (b_cons (c_if (q_P (x_isa Ev.f_isinstance Ev.f_str boot_str (kit_str _) (xv 0) boot_isinstance)) (b_one (c_ret (x_call c_l_quoted hr (by omega) tk (w_slot 0 w_nil)))) b_nil)
    (b_cons (c_if (q_P (x_isa Ev.f_isinstance Ev.f_list boot_list (kit_list _) (xv 0) boot_isinstance)) (b_one (c_ret (x_opD o_add l_add (x_opD o_add l_add (xd (xs [91])) (x_join (xs [44, 32]) (x_lc [("_law_item", 3)] rfl sc.nd (by kernel_rfl) (g_name (by decide) (by decide)) (j_list (xdv 0)) (fun _ _ _ _ _ => (u_name 3 sc.nd)) (fun _ _ _ _ _ => r_nil) (fun _ _ _ _ _ => (x_call c_l_written hr (by omega) takes_no (w_slot 3 w_nil)))))) (xd (xs [93]))))) b_nil)
    (b_cons (c_setLc 1 [("_law_name", 2)] rfl sc.nd (by kernel_rfl) (g_name (by decide) (by decide)) (j_list (x_bD (o_sorted rfl) l_sorted Ev.f_sorted boot_sorted (y_cons (x_tyD (o_list rfl) l_list Ev.f_list boot_list (y_cons (xdv 0) y_nil)) y_nil))) (fun _ _ _ _ _ => (u_name 2 sc.nd)) (fun _ _ _ _ _ => r_nil) (fun _ _ _ _ _ => (x_opD o_add l_add (x_opD o_add l_add (x_call c_l_quoted hr (by omega) takes_no (w_slot 2 w_nil)) (xd (xs [58, 32]))) (x_call c_l_written hr (by omega) takes_no (w_val (xd (x_ix hu1 (xv 0) (xv 2) fun _ _ => rfl)) w_nil)))) rfl)
    (b_one (c_ret (x_opD o_add l_add (x_opD o_add l_add (xd (xs [123])) (x_join (xs [44, 32]) (xdv 1))) (xd (xs [125])))))))))))
theorem ok_l_written (Ev : Evd K mg) {k : Nat} {cl_quoted : FF} {cl_written : FF} (c_l_quoted : Fnn P w K mg base k "_law_quoted" [false] cl_quoted) (c_l_written : Fnn P w K mg base k "_law_written" [false] cl_written) : Fnn P w K mg base (k + 1) "_law_written" [false] (fnF 3 [false] (b_l_written cl_quoted cl_written)) :=
  Ev.d_l_written.wrap sc_l_written rfl rfl (fun _ _ _ _ _ _ us hl => match us, hl with | [_], _ => rfl) (body_l_written Ev c_l_quoted c_l_written)
theorem at_l_written (Ev : Evd K mg) : ∀ n, Fnn P w K mg base (1 + n) "_law_written" [false] (F_l_written n)
  | 0 => Ev.d_l_written.bad rfl sc_l_written (fun _ _ _ _ _ _ us hl => match us, hl with | [_], _ => rfl)
  | n + 1 => by
    have a_l_written := (at_l_written Ev n)
    have a_l_quoted := (at_l_quoted (P := P) (w := w) (base := base) Ev).mono (show 1 ≤ 1 + n by omega)
    exact ok_l_written Ev a_l_quoted a_l_written
theorem sc_l_read_right : FnScope ["_law_value_here", "_law_text_here", "_law_again", "_law_found"] ["_law_value_here"] (defScope (top 36)) := ⟨rfl, rfl, rfl, by decide +kernel, rfl, by decide +kernel, by decide +kernel⟩
theorem body_l_read_right (Ev : Evd K mg) {k : Nat} {cl_written : FF} {cp_read_value : FF} {cl_same : FF} (c_l_written : Fnn P w K mg base k "_law_written" [false] cl_written) (c_p_read_value : Fnn P w K mg base k "read_value" [false] cp_read_value) (c_l_same : Fnn P w K mg base k "_law_same" [false, false] cl_same) (f : Addr) (cdv : Value) (A : Around) (outer : List PySem.Env) (s : Shared) (H : Hp) (E : XK) (hr : Room k (A.deeper (PyProof.Rows.envOfC "_law_read_right" (defScope (top 36)) s.heap.objs.size f cdv))) : PSs (cxOf (L2.CX P w) P w K mg base ["_law_value_here", "_law_text_here", "_law_again", "_law_found"] "_law_read_right" (defScope (top 36)) f cdv A outer s H E) (defBody (top 36)) (tS (gx (cxOf (L2.CX P w) P w K mg base ["_law_value_here", "_law_text_here", "_law_again", "_law_found"] "_law_read_right" (defScope (top 36)) f cdv A outer s H E) (fun c d _ H => E c d H)) (pinsOf [false]) (b_l_read_right cl_written cp_read_value cl_same)) := by
  have sc := sc_l_read_right
  have hu64 := hr.units
  have hu1 : (A.deeper (PyProof.Rows.envOfC "_law_read_right" (defScope (top 36)) s.heap.objs.size f cdv)).units + 1 < cLine := by have := hr.units; omega
  have tk : Takes (cxOf (L2.CX P w) P w K mg base ["_law_value_here", "_law_text_here", "_law_again", "_law_found"] "_law_read_right" (defScope (top 36)) f cdv A outer s H E) (fun c d _ H => E c d H) := takes_of rfl rfl rfl rfl
  exact (b_cons (c_set 1 sc.nd (x_call c_l_written hr (by omega) tk (w_slot 0 w_nil)))
    (b_cons (c_if (q_cmp op_gt l_cmp (x_bP o_len l_len Ev.f_len boot_len (z_cons (xv 1) z_nil)) xi (nomark _)) (b_one (c_ret (xd xb))) b_nil)
    (b_cons (c_for (passes_of rfl) rfl (g_name (vs := [2]) (by decide) (by decide)) (j_r1 Ev.f_range (y_cons (xd xi) y_nil)) (u_name 2 sc.nd) (b_cons (c_set 3 sc.nd (x_call c_p_read_value hr (by omega) tk (w_slot 1 w_nil)))
    (b_cons (c_if (q_not (q_D (x_call c_l_same hr (by omega) tk (w_slot 3 (w_slot 0 w_nil))))) (b_one (c_ret (xd xb))) b_nil)
    (b_cons (c_if (q_P (x_isa Ev.f_isinstance Ev.f_list boot_list (kit_list _) (xv 3) boot_isinstance)) (b_one (c_expr (x_app 3 (xd (xs [97, 32, 116, 101, 120, 116, 32, 109, 111, 114, 101]))))) b_nil)
    (b_one (c_if (q_P (x_isa Ev.f_isinstance Ev.f_dict boot_dict (kit_dict _) (xv 3) boot_isinstance)) (b_one (c_expr (x_dclear 3))) b_nil))))))
    (b_one (c_ret (xd xb))))))
theorem ok_l_read_right (Ev : Evd K mg) {k : Nat} {cl_written : FF} {cp_read_value : FF} {cl_same : FF} (c_l_written : Fnn P w K mg base k "_law_written" [false] cl_written) (c_p_read_value : Fnn P w K mg base k "read_value" [false] cp_read_value) (c_l_same : Fnn P w K mg base k "_law_same" [false, false] cl_same) : Fnn P w K mg base (k + 1) "_law_read_right" [false] (fnF 3 [false] (b_l_read_right cl_written cp_read_value cl_same)) :=
  Ev.d_l_read_right.wrap sc_l_read_right rfl rfl (fun _ _ _ _ _ _ us hl => match us, hl with | [_], _ => rfl) (body_l_read_right Ev c_l_written c_p_read_value c_l_same)
theorem at_l_read_right (Ev : Evd K mg) (n : Nat) : Fnn P w K mg base (4 + n) "_law_read_right" [false] (F_l_read_right n) := (ok_l_read_right (k := 3 + n) Ev ((at_l_written (P := P) (w := w) (base := base) Ev n).mono (show 1 + n ≤ 3 + n by omega)) ((at_p_read_value (P := P) (w := w) (base := base) Ev n).mono (show 3 + n ≤ 3 + n by omega)) ((at_l_same (P := P) (w := w) (base := base) Ev n).mono (show 0 + n ≤ 3 + n by omega))).mono (show 3 + n + 1 ≤ 4 + n by omega)
theorem sc_p_law : FnScope ["_law_script", "_law_deck_here", "_law_world_here", "_law_values", "_law_k", "_law_names", "_law_value_here"] ["_law_script"] (defScope (top 37)) := ⟨rfl, rfl, rfl, by decide +kernel, rfl, by decide +kernel, by decide +kernel⟩
theorem body_p_law (Ev : Evd K mg) {k : Nat} {cl_deck : FF} {cl_world : FF} {cl_samples : FF} {cl_read_right : FF} (c_l_deck : Fnn P w K mg base k "_law_deck" [false] cl_deck) (c_l_world : Fnn P w K mg base k "_law_world" [true] cl_world) (c_l_samples : Fnn P w K mg base k "_law_samples" [true, false, false] cl_samples) (c_l_read_right : Fnn P w K mg base k "_law_read_right" [false] cl_read_right) (f : Addr) (cdv : Value) (A : Around) (outer : List PySem.Env) (s : Shared) (H : Hp) (E : XK) (hr : Room k (A.deeper (PyProof.Rows.envOfC "law" (defScope (top 37)) s.heap.objs.size f cdv))) : PSs (cxOf (L2.CX P w) P w K mg base ["_law_script", "_law_deck_here", "_law_world_here", "_law_values", "_law_k", "_law_names", "_law_value_here"] "law" (defScope (top 37)) f cdv A outer s H E) (defBody (top 37)) (tS (gx (cxOf (L2.CX P w) P w K mg base ["_law_script", "_law_deck_here", "_law_world_here", "_law_values", "_law_k", "_law_names", "_law_value_here"] "law" (defScope (top 37)) f cdv A outer s H E) (fun c d _ H => E c d H)) (pinsOf [false]) (b_p_law cl_deck cl_world cl_samples cl_read_right)) := by
  have sc := sc_p_law
  have hu64 := hr.units
  have hu1 : (A.deeper (PyProof.Rows.envOfC "law" (defScope (top 37)) s.heap.objs.size f cdv)).units + 1 < cLine := by have := hr.units; omega
  have tk : Takes (cxOf (L2.CX P w) P w K mg base ["_law_script", "_law_deck_here", "_law_world_here", "_law_values", "_law_k", "_law_names", "_law_value_here"] "law" (defScope (top 37)) f cdv A outer s H E) (fun c d _ H => E c d H) := takes_of rfl rfl rfl rfl
  exact (b_cons (c_set 1 sc.nd (x_call c_l_deck hr (by omega) tk (w_slot 0 w_nil)))
    (b_cons (c_set 2 sc.nd (x_call c_l_world hr (by omega) tk (w_slot 1 w_nil)))
    (b_cons (c_set 3 sc.nd (x_opD o_add l_add (x_call c_l_samples hr (by omega) tk (w_slot 1 (w_slot 2 (w_val (xd xi) w_nil)))) (x_frz (x_lst (y_cons (xd (xs [])) (y_cons (x_lst y_nil) (y_cons x_dic0 (y_cons (xd (x_neg xi)) (y_cons (xd xi) y_nil)))))))))
    (b_cons (c_for (passes_of rfl) rfl (g_name (vs := [4]) (by decide) (by decide)) (j_r1 Ev.f_range (y_cons (xd (x_bP o_len l_len Ev.f_len boot_len (z_cons (xv 3) z_nil))) y_nil)) (u_name 4 sc.nd) (b_cons (c_set 5 sc.nd (x_disp (pp_cons (x_ix hu1 (x_ix hu1 (xv 2) xi fun _ _ => rfl) xi fun _ _ => rfl) (x_ix hu1 (xv 3) (xv 4) fun _ _ => rfl) (pp_cons (x_ix hu1 (x_ix hu1 (xv 2) xi fun _ _ => rfl) xi fun _ _ => rfl) (x_ix hu1 (xv 3) (x_op op_sub l_sub (xv 4) xi) fun _ _ => rfl) pp_nil))))
    (b_one (c_for (passes_of rfl) rfl (g_name (vs := [6]) (by decide) (by decide)) (j_list (x_lst (y_cons (xd (x_ix hu1 (xv 3) (xv 4) fun _ _ => rfl)) (y_cons (x_lst (y_cons (xd (x_ix hu1 (xv 3) (xv 4) fun _ _ => rfl)) (y_cons (xd (x_ix hu1 (xv 3) (x_op op_sub l_sub (xv 4) xi) fun _ _ => rfl)) y_nil))) (y_cons (xdv 5) y_nil))))) (u_name 6 sc.nd) (b_one (c_if (q_not (q_D (x_call c_l_read_right hr (by omega) tk (w_slot 6 w_nil)))) (b_one (c_ret (xd xb))) b_nil))))))
    (b_one (c_ret (xd xb)))))))
theorem ok_p_law (Ev : Evd K mg) {k : Nat} {cl_deck : FF} {cl_world : FF} {cl_samples : FF} {cl_read_right : FF} (c_l_deck : Fnn P w K mg base k "_law_deck" [false] cl_deck) (c_l_world : Fnn P w K mg base k "_law_world" [true] cl_world) (c_l_samples : Fnn P w K mg base k "_law_samples" [true, false, false] cl_samples) (c_l_read_right : Fnn P w K mg base k "_law_read_right" [false] cl_read_right) : Fnn P w K mg base (k + 1) "law" [false] (fnF 6 [false] (b_p_law cl_deck cl_world cl_samples cl_read_right)) :=
  Ev.d_p_law.wrap sc_p_law rfl rfl (fun _ _ _ _ _ _ us hl => match us, hl with | [_], _ => rfl) (body_p_law Ev c_l_deck c_l_world c_l_samples c_l_read_right)
theorem at_p_law (Ev : Evd K mg) (n : Nat) : Fnn P w K mg base (7 + n) "law" [false] (F_p_law n) := (ok_p_law (k := 6 + n) Ev ((at_l_deck (P := P) (w := w) (base := base) Ev).mono (show 1 ≤ 6 + n by omega)) ((at_l_world (P := P) (w := w) (base := base) Ev).mono (show 5 ≤ 6 + n by omega)) ((at_l_samples (P := P) (w := w) (base := base) Ev n).mono (show 6 + n ≤ 6 + n by omega)) ((at_l_read_right (P := P) (w := w) (base := base) Ev n).mono (show 4 + n ≤ 6 + n by omega))).mono (show 6 + n + 1 ≤ 7 + n by omega)
theorem fn_law (Ev : Evd K mg) {f : Addr} {fd : FuncData} (F : FunD K "law" "law" (defArgs (top 37)) (defBody (top 37)) (defScope (top 37)) [] [] f fd) (n : Nat) : FnOk P w K mg base (L2.CX P w) (6 + n + 1) f fd ["_law_script"] (spD K mg 1 (fnF 6 [false] (b_p_law F_l_deck F_l_world (F_l_samples n) (F_l_read_right n)))) :=
  fn_wrapD (bs := [false]) F sc_p_law rfl rfl fun cdv A outer s H E hr => body_p_law (k := 6 + n) Ev ((at_l_deck (P := P) (w := w) (base := base) Ev).mono (show 1 ≤ 6 + n by omega)) ((at_l_world (P := P) (w := w) (base := base) Ev).mono (show 5 ≤ 6 + n by omega)) ((at_l_samples (P := P) (w := w) (base := base) Ev n).mono (show 6 + n ≤ 6 + n by omega)) ((at_l_read_right (P := P) (w := w) (base := base) Ev n).mono (show 4 + n ≤ 6 + n by omega)) f cdv A outer s H E hr
end
end
end K79

namespace K79
open PySem L2 DL
theorem lg_lt {n : Nat} (h : n < 2 ^ 300) : n.log2 < 301 := by
  by_cases e : n = 0
  · subst e; decide
  · exact Nat.lt_of_lt_of_le ((Nat.log2_lt e).2 h) (by decide)
theorem mul_ok {i j : Int} (hi : i.natAbs < 2 ^ 300) (hj : j.natAbs < 2 ^ 300) : pMul (.int i) (.int j) = some (.int (i * j)) := by
  have h1 := lg_lt hi
  have h2 := lg_lt hj
  show (if decide (i.natAbs.log2 + j.natAbs.log2 < 1000000) = true then some (D.int (i * j)) else none) = _
  rw [if_pos (decide_eq_true (by omega))]
theorem add_ok {i j : Int} : pAdd (.int i) (.int j) = some (.int (i + j)) := rfl
theorem addA_ok {i j : Int} : dAdd (.int i) (.int j) = some (.int (i + j)) := rfl
theorem sub_ok {i j : Int} : pSub (.int i) (.int j) = some (.int (i - j)) := rfl
theorem mod_ok {i j : Int} (h : 0 < j) : pMod (.int i) (.int j) = some (.int (i % j)) := by
  show (if decide (0 < j) = true then some (D.int (i % j)) else none) = _
  rw [if_pos (decide_eq_true h)]
theorem div_ok {i j : Int} (h : 0 < j) (h2 : j.natAbs < 2 ^ 300) : pDiv (.int i) (.int j) = some (.int (i / j)) := by
  show (if decide (0 < j ∧ j.natAbs.log2 < 9000) = true then some (D.int (i / j)) else none) = _
  rw [if_pos (decide_eq_true ⟨h, Nat.lt_trans (lg_lt h2) (by decide)⟩)]
theorem lt_ok {i j : Int} : pLt (.int i) (.int j) = some (.bl (decide (i < j))) := rfl
theorem eq_ok {i j : Int} : pEq (.int i) (.int j) = some (.bl (decide (i = j))) := rfl
def mixed (a k : Int) : Int :=
  ((((a % 2147483629 + 7919 * k + 1) * 48271 % 2147483647 * ((a % 2147483629 + 7919 * k + 1) * 48271 % 2147483647) + 69621 * k + 7) % 2147483587 % 65536 * 32749 + ((a % 2147483629 + 7919 * k + 1) * 48271 % 2147483647 * ((a % 2147483629 + 7919 * k + 1) * 48271 % 2147483647) + 69621 * k + 7) % 2147483587 / 65536) * 39373 % 2147483563 / 8)
theorem mixed_pos (a k : Int) : 0 ≤ mixed a k := by
  unfold mixed
  omega
theorem ev_mixed (a k : Int) (hk : 0 ≤ k ∧ k < 2 ^ 60) : F_l_mixed [.int a, .int k] = .ok (.int (mixed a k), [none, none]) := by
  obtain ⟨k0, k1⟩ := hk
  have ha : 0 ≤ a % 2147483629 ∧ a % 2147483629 < 2147483629 := by omega
  unfold F_l_mixed b_l_mixed
  simp (disch := omega) only [backF, List.length_cons, List.length_nil, Nat.reduceAdd, Nat.reduceLeDiff, Nat.zero_add, sseq, sif, sset, sret, sretv, sretn, spass, sbrk, scont, sdrop, sstore, saug, sunpO, bnames, toD, evar, emv, p1, p2, d2, pvar, pcst, pcall, pcons, pnil, dcons, dnil, dcall, dlst, dtupO, dtup, dfrz, ofO, Res.bind, isFrz, allFrz, frz, frzs, ecall, aslot, aval, anil, argF, isAtom, fnF, maskF, tfP, tfD, tfand, tfor, tfnot, toB, pIsa, tyN, isaT, dand, dor, dnot, sbad, tyes, List.getElem?_cons_zero, List.getElem?_cons_succ, List.getElem?_nil, List.set_cons_zero, List.set_cons_succ, Option.bind, Option.map, Bool.false_eq_true, if_false, if_true, reduceIte, List.map_cons, List.map_nil, List.replicate, List.nil_append, List.cons_append, List.any_cons, List.any_nil, id_eq, Bool.or_false, Bool.or_true, Bool.not_false, Bool.not_true, Bool.and_true, Bool.and_false, Bool.true_and, Bool.false_and, add_ok, mod_ok, div_ok, mul_ok]
  rfl
/-! ### the deck -/
def deckD (cs : List Int) (s c : Int) : D := .lst true [.lst true (cs.map .int), .int s, .int c]
theorem allFrz_int (cs : List Int) : allFrz (cs.map .int) = true := by
  rw [allFrz_eq, List.all_map]
  exact List.all_eq_true.mpr fun _ _ => rfl
theorem frzs_int (cs : List Int) : frzs (cs.map .int) = cs.map .int := frzs_of _ (allFrz_int cs)
theorem shaped_flat {ps : List PyData} (h : ∀ p ∈ ps, PyData.canLay0 p = true ∧ PyData.depth p ≤ 1) : SeqAt.shaped (.list ps) = true := by
  have h1 : PyData.canLayAll0 ps = true := by
    induction ps with
    | nil => simp [PyData.canLayAll0]
    | cons p ps ih => simp only [PyData.canLayAll0, (h p List.mem_cons_self).1, ih fun q hq => h q (List.mem_cons_of_mem _ hq), Bool.and_self]
  have h2 : PyData.depthAll ps ≤ 1 := by
    clear h1
    induction ps with
    | nil => simp [PyData.depthAll]
    | cons p ps ih => 
      have q1 := (h p List.mem_cons_self).2
      have q2 := ih fun q hq => h q (List.mem_cons_of_mem _ hq)
      simp only [PyData.depthAll]
      omega
  unfold SeqAt.shaped
  rw [Bool.and_eq_true]
  refine ⟨by simp only [PyData.canLay0, h1], decide_eq_true ?_⟩
  simp only [PyData.depth]
  omega
theorem eqD_nil (cs : List Int) : eqD (.lst true (cs.map .int)) (.lst true []) = some (decide (cs = [])) := by
  have hp : toPys (cs.map .int) = some (cs.map .int) := by
    induction cs with
    | nil => rfl
    | cons c cs ih =>
      show ((toPy (.int c)).bind fun p => (toPys (cs.map .int)).map fun ps => p :: ps) = _
      rw [ih]; rfl
  have e1 : toPy (.lst true (cs.map .int)) = some (.list (cs.map .int)) := by
    show (toPys _).map PyData.list = _
    rw [hp]; rfl
  have e2 : eqD (.lst true (cs.map .int)) (.lst true []) = match toPy (.lst true (cs.map .int)), toPy (.lst true []) with
    | some p, some q => if (SeqAt.shaped p && SeqAt.shaped q) = true then some (PyData.eqv p q) else none
    | _, _ => none := rfl
  rw [e2, e1]
  show (if (SeqAt.shaped (.list (cs.map .int)) && SeqAt.shaped (.list [])) = true then some (PyData.eqv (.list (cs.map .int)) (.list [])) else none) = _
  have hs : SeqAt.shaped (.list (cs.map .int)) = true := shaped_flat fun p hp => by
    obtain ⟨c, _, rfl⟩ := List.mem_map.mp hp
    exact ⟨by simp [PyData.canLay0], by simp [PyData.depth]⟩
  have hs0 : SeqAt.shaped (.list []) = true := shaped_flat fun p hp => by cases hp
  rw [hs, hs0]
  cases cs with
  | nil => simp [PyData.eqv, PyData.eqvAll]
  | cons c cs => simp [PyData.eqv, PyData.eqvAll]
theorem lastD (cs : List Int) (h : cs ≠ []) : (cs.map D.int)[(cs.map D.int).length - 1]? = some (.int (cs.getLast h)) := by
  rw [List.getElem?_map, List.length_map, List.getLast_eq_getElem, List.getElem?_eq_getElem (by have := List.length_pos_iff.mpr h; omega)]
  rfl
theorem ev_take (cs : List Int) (s c m : Int) (hm : 0 < m ∧ m < 2 ^ 200) (hc : 0 ≤ c ∧ c < 2 ^ 50) (hl : cs.length < 100) :
    ∃ r cs', 0 ≤ r ∧ r < m ∧ cs'.length < 100 ∧ F_l_take [deckD cs s c, .int m] = .ok (.int r, [some (deckD cs' s (c + 1)), none]) := by
  obtain ⟨m0, m1⟩ := hm
  obtain ⟨c0, c1⟩ := hc
  have e0 : ixN 3 2 = some 2 := rfl
  have ea : ∀ x y z : D, atI [x, y, z] 2 = some z := fun _ _ _ => rfl
  have ea1 : ∀ x y z : D, atI [x, y, z] 1 = some y := fun _ _ _ => rfl
  have ea0 : ∀ x y z : D, atI [x, y, z] 0 = some x := fun _ _ _ => rfl
  have em : ∀ a, F_l_mixed [.int a, .int (c + 1)] = .ok (.int (mixed a (c + 1)), [none, none]) := fun a => ev_mixed a (c + 1) ⟨by omega, by omega⟩
  have ep : pPow (.int 10) (.int 18) = some (.int 1000000000000000000) := rfl
  unfold F_l_take b_l_take deckD
  by_cases h : cs = []
  · subst h
    refine ⟨mixed s (c + 1) % m, [], Int.emod_nonneg _ (by omega), Int.emod_lt_of_pos _ m0, by decide, ?_⟩
    have ed := eqD_nil []
    simp only [List.map_nil, decide_true] at ed
    simp (disch := omega) only [backF, List.length_cons, List.length_nil, Nat.reduceAdd, Nat.reduceLeDiff, Nat.zero_add, sseq, sif, sset, sret, sretv, sretn, spass, sbrk, scont, sdrop, sstore, saug, sunpO, bnames, toD, evar, emv, p1, p2, d2, pvar, pcst, pcall, pcons, pnil, dcons, dnil, dcall, dlst, dtupO, dtup, dfrz, ofO, Res.bind, isFrz, allFrz, frz, frzs, ecall, aslot, aval, anil, argF, isAtom, fnF, maskF, tfP, tfD, tfand, tfor, tfnot, toB, pIsa, tyN, isaT, dand, dor, dnot, sbad, tyes, List.getElem?_cons_zero, List.getElem?_cons_succ, List.getElem?_nil, List.set_cons_zero, List.set_cons_succ, Option.bind, Option.map, Bool.false_eq_true, if_false, if_true, reduceIte, List.map_cons, List.map_nil, List.replicate, List.nil_append, List.cons_append, List.any_cons, List.any_nil, id_eq, Bool.or_false, Bool.or_true, Bool.not_false, Bool.not_true, Bool.and_true, Bool.and_false, Bool.true_and, Bool.false_and, add_ok, mod_ok, div_ok, mul_ok, List.length_cons, List.length_nil, pIx, ea, ea1, ea0, e0, eqNil, ed, em]
  · have ed := eqD_nil cs
    rw [decide_eq_false h] at ed
    have hlen : cs.dropLast.length < 99 := by rw [List.length_dropLast]; omega
    have hlp := List.length_pos_iff.mpr h
    by_cases h2 : cs.getLast h < 1000000000000000000
    · refine ⟨mixed (cs.getLast h) (c + 1) % m, cs.dropLast, Int.emod_nonneg _ (by omega), Int.emod_lt_of_pos _ m0, by omega, ?_⟩
      simp (disch := omega) only [backF, List.length_cons, List.length_nil, Nat.reduceAdd, Nat.reduceLeDiff, Nat.zero_add, sseq, sif, sset, sret, sretv, sretn, spass, sbrk, scont, sdrop, sstore, saug, sunpO, bnames, toD, evar, emv, p1, p2, d2, pvar, pcst, pcall, pcons, pnil, dcons, dnil, dcall, dlst, dtupO, dtup, dfrz, ofO, Res.bind, isFrz, allFrz, frz, frzs, ecall, aslot, aval, anil, argF, isAtom, fnF, maskF, tfP, tfD, tfand, tfor, tfnot, toB, pIsa, tyN, isaT, dand, dor, dnot, sbad, tyes, List.getElem?_cons_zero, List.getElem?_cons_succ, List.getElem?_nil, List.set_cons_zero, List.set_cons_succ, Option.bind, Option.map, Bool.false_eq_true, if_false, if_true, reduceIte, List.map_cons, List.map_nil, List.replicate, List.nil_append, List.cons_append, List.any_cons, List.any_nil, id_eq, Bool.or_false, Bool.or_true, Bool.not_false, Bool.not_true, Bool.and_true, Bool.and_false, Bool.true_and, Bool.false_and, add_ok, mod_ok, div_ok, mul_ok, List.length_cons, List.length_nil, pIx, ea, ea1, ea0, e0, eqNil, ed, em, mpopP, lastD cs h, lt_ok, ep, decide_eq_true h2, List.map_dropLast]
    · refine ⟨cs.getLast h % m, cs.dropLast ++ [cs.getLast h / m], Int.emod_nonneg _ (by omega), Int.emod_lt_of_pos _ m0, by rw [List.length_append]; show _ + 1 < _; omega, ?_⟩
      have hl2 : (List.map D.int cs).dropLast.length < 1000000 := by rw [List.length_dropLast, List.length_map]; omega
      simp (disch := omega) only [backF, List.length_cons, List.length_nil, Nat.reduceAdd, Nat.reduceLeDiff, Nat.zero_add, sseq, sif, sset, sret, sretv, sretn, spass, sbrk, scont, sdrop, sstore, saug, sunpO, bnames, toD, evar, emv, p1, p2, d2, pvar, pcst, pcall, pcons, pnil, dcons, dnil, dcall, dlst, dtupO, dtup, dfrz, ofO, Res.bind, isFrz, allFrz, frz, frzs, ecall, aslot, aval, anil, argF, isAtom, fnF, maskF, tfP, tfD, tfand, tfor, tfnot, toB, pIsa, tyN, isaT, dand, dor, dnot, sbad, tyes, List.getElem?_cons_zero, List.getElem?_cons_succ, List.getElem?_nil, List.set_cons_zero, List.set_cons_succ, Option.bind, Option.map, Bool.false_eq_true, if_false, if_true, reduceIte, List.map_cons, List.map_nil, List.replicate, List.nil_append, List.cons_append, List.any_cons, List.any_nil, id_eq, Bool.or_false, Bool.or_true, Bool.not_false, Bool.not_true, Bool.and_true, Bool.and_false, Bool.true_and, Bool.false_and, add_ok, mod_ok, div_ok, mul_ok, List.length_cons, List.length_nil, pIx, ea, ea1, ea0, e0, eqNil, ed, em, mpopP, lastD cs h, lt_ok, ep, decide_eq_false h2, List.map_dropLast, mappP, hl2, and_self, List.map_append]
end K79

namespace K79
open PySem L2 DL
/-! ### loops -/
theorem for_ind {bf : BF} {body : SF} (Inv : Nat → DL.Env → Prop) : ∀ (ds : List D) (i : Nat), (∀ j d e, ds[j]? = some d → Inv (i + j) e → ∃ e1 e2, bf d e = some e1 ∧ body e1 = .next e2 ∧ Inv (i + j + 1) e2) → ∀ e, Inv i e → ∃ e', sforL bf body ds e = .next e' ∧ Inv (i + ds.length) e'
  | [], i, _, e, h => ⟨e, rfl, h⟩
  | d :: ds, i, hs, e, h => by
    obtain ⟨e1, e2, h1, h2, h3⟩ := hs 0 d e rfl h
    obtain ⟨e', h4, h5⟩ := for_ind Inv ds (i + 1) (fun j d' e' hj hi => by
      obtain ⟨e1, e2, q1, q2, q3⟩ := hs (j + 1) d' e' hj (by rw [show i + (j + 1) = i + 1 + j by omega]; exact hi)
      exact ⟨e1, e2, q1, q2, by rw [show i + 1 + j + 1 = i + (j + 1) + 1 by omega]; exact q3⟩) e2 h3
    refine ⟨e', ?_, by rw [List.length_cons, show i + (ds.length + 1) = i + 1 + ds.length by omega]; exact h5⟩
    rw [sforL, h1]
    dsimp only
    rw [h2]
    exact h4
theorem comp_ind {bf : BF} {elt : DF} {vs : List Nat} (Inv : Nat → List D → DL.Env → Prop) : ∀ (ds : List D) (i : Nat) (acc : List D), (∀ j d acc e, ds[j]? = some d → Inv (i + j) acc e → ∃ e1 x e3, bf d e = some e1 ∧ elt e1 = .ok (x, e3) ∧ Inv (i + j + 1) (acc ++ [frz x]) (wipeE e3 vs)) → ∀ e, Inv i acc e →
    ∃ xs e', compL bf tyes elt vs ds e = some (xs, e') ∧ Inv (i + ds.length) (acc ++ xs) e'
  | [], i, acc, _, e, h => ⟨[], e, rfl, by rw [List.append_nil]; exact h⟩
  | d :: ds, i, acc, hs, e, h => by
    obtain ⟨e1, x, e3, h1, h2, h3⟩ := hs 0 d acc e rfl h
    obtain ⟨xs, e', h4, h5⟩ := comp_ind Inv ds (i + 1) (acc ++ [frz x]) (fun j d' acc' e' hj hi => by
      obtain ⟨e1, x, e3, q1, q2, q3⟩ := hs (j + 1) d' acc' e' hj (by rw [show i + (j + 1) = i + 1 + j by omega]; exact hi)
      exact ⟨e1, x, e3, q1, q2, by rw [show i + 1 + j + 1 = i + (j + 1) + 1 by omega]; exact q3⟩) _ h3
    refine ⟨frz x :: xs, e', ?_, by rw [List.length_cons, show i + (ds.length + 1) = i + 1 + ds.length by omega]; rw [List.append_assoc] at h5; exact h5⟩
    rw [compL, h1]
    dsimp only [tyes]
    rw [h2]
    dsimp only
    rw [h4]
theorem whN_ind {c : TF} {b : SF} (Inv : Nat → DL.Env → Prop) (Post : Fl → Prop) (step : ∀ m e, Inv m e → (∃ e1, c e = .ok (false, e1) ∧ Post (.next e1)) ∨ ∃ e1, c e = .ok (true, e1) ∧ ((∃ e2 m', b e1 = .next e2 ∧ m' < m ∧ Inv m' e2) ∨ (∃ e2, b e1 = .brk e2 ∧ Post (.next e2)) ∨ (∃ d e2, b e1 = .ret d e2 ∧ Post (.ret d e2)))) :
    ∀ n m e, m < n → Inv m e → Post (swhN c b n e)
  | 0, m, e, h, _ => absurd h (Nat.not_lt_zero m)
  | n + 1, m, e, h, hi => by
    unfold swhN
    rcases step m e hi with ⟨e1, h1, h2⟩ | ⟨e1, h1, ⟨e2, m', h2, h3, h4⟩ | ⟨e2, h2, h3⟩ | ⟨d, e2, h2, h3⟩⟩
    · rw [h1]; exact h2
    · rw [h1]; dsimp only; rw [h2]; exact whN_ind Inv Post step n m' e2 (by omega) h4
    · rw [h1]; dsimp only; rw [h2]; exact h3
    · rw [h1]; dsimp only; rw [h2]; exact h3
theorem wh_ind {c : TF} {b : SF} (Inv : Nat → DL.Env → Prop) (Post : Fl → Prop) (hb : ¬ Post .bad) (step : ∀ m e, Inv m e → (∃ e1, c e = .ok (false, e1) ∧ Post (.next e1)) ∨ ∃ e1, c e = .ok (true, e1) ∧ ((∃ e2 m', b e1 = .next e2 ∧ m' < m ∧ Inv m' e2) ∨ (∃ e2, b e1 = .brk e2 ∧ Post (.next e2)) ∨ (∃ d e2, b e1 = .ret d e2 ∧ Post (.ret d e2)))) (m : Nat) (e : DL.Env) (h : Inv m e) :
    Post (swh c b e) := by
  have q := whN_ind Inv Post step (m + 1) m e (Nat.lt_succ_self m) h
  have e1 : swh c b e = swhN c b (m + 1) e := swh_eq rfl fun z => hb (by rw [← z]; exact q)
  rw [e1]; exact q
theorem rng_len (lo : Int) (n : Nat) : (rngD lo n).length = n := by simp [rngD]
theorem rng_at {lo : Int} {n j : Nat} {d : D} (h : (rngD lo n)[j]? = some d) : d = .int (lo + (j : Int)) ∧ j < n := by
  have hj : j < n := by have := (List.getElem?_eq_some_iff.mp h).1; rwa [rng_len] at this
  refine ⟨?_, hj⟩
  simp [rngD, hj] at h
  exact h.symm
/-! ### places -/
theorem ixN_ok {n : Nat} {i : Int} (h0 : 0 ≤ i) (h1 : i < n) : ixN n i = some i.toNat := by
  unfold ixN
  rw [if_pos h0, if_pos h1]
theorem atI_ok {α : Type} {ds : List α} {i : Int} (h0 : 0 ≤ i) (h1 : i < ds.length) : ∃ d, d ∈ ds ∧ atI ds i = some d ∧ ds[i.toNat]? = some d := by
  unfold atI
  rw [ixN_ok h0 h1]
  have hl : i.toNat < ds.length := by omega
  exact ⟨ds[i.toNat], List.getElem_mem _, List.getElem?_eq_getElem hl, List.getElem?_eq_getElem hl⟩
/-! ### the deck, with what it has left -/
def Dk (b : Nat) (d : D) : Prop := ∃ cs s c, d = deckD cs s c ∧ cs.length < 100 ∧ 0 ≤ c ∧ c ≤ (b : Int)
theorem Dk.mono {b b' : Nat} {d : D} (h : Dk b d) (hb : b ≤ b') : Dk b' d := by
  obtain ⟨cs, s, c, h1, h2, h3, h4⟩ := h
  exact ⟨cs, s, c, h1, h2, h3, by omega⟩
abbrev BIG : Nat := 1000000000000
theorem take_ok {b : Nat} {d : D} (h : Dk b d) (m : Int) (hb : b ≤ BIG := by omega) (hm : 0 < m ∧ m < 2 ^ 200 := by omega) : ∃ r d', 0 ≤ r ∧ r < m ∧ Dk (b + 1) d' ∧ F_l_take [d, .int m] = .ok (.int r, [some d', none]) := by
  obtain ⟨cs, s, c, rfl, h2, h3, h4⟩ := h
  obtain ⟨r, cs', q1, q2, q3, q4⟩ := ev_take cs s c m hm ⟨h3, by unfold BIG at hb; omega⟩ h2
  exact ⟨r, _, q1, q2, ⟨cs', s, c + 1, rfl, q3, by omega, by omega⟩, q4⟩
def sg : List Nat := [32, 33, 34, 35, 36, 38, 39, 40, 41, 42, 43, 44, 45, 46, 47, 48, 49, 50, 51, 52, 53, 54, 55, 56, 57, 58, 59, 60, 61, 62, 63, 64, 65, 66, 67, 68, 69, 70, 71, 72, 73, 74, 75, 76, 77, 78, 79, 80, 81, 82, 83, 84, 85, 86, 87, 88, 89, 90, 91, 92, 93, 94, 95, 96, 97, 98, 99, 100, 101, 102, 103, 104, 105, 106, 107, 108, 109, 110, 111, 112, 113, 114, 115, 116, 117, 118, 119, 120, 121, 122, 123, 124, 125, 126]
theorem ev_signs : F_l_signs [] = .ok (.str sg, []) := by rfl
def TX (x : List Nat) : Prop := ∀ c ∈ x, c ∈ sg
theorem TX.nil : TX [] := fun c h => by cases h
theorem TX.app {x y : List Nat} (h : TX x) (k : TX y) : TX (x ++ y) := fun c hc => (List.mem_append.mp hc).elim (h c) (k c)
theorem TX.sub {x y : List Nat} (h : TX x) (k : ∀ c ∈ y, c ∈ x) : TX y := fun c hc => h c (k c hc)
theorem TX.one {c : Nat} (h : c ∈ sg) : TX [c] := fun k hk => by rw [List.mem_singleton.mp hk]; exact h
instance (x : List Nat) : Decidable (TX x) := inferInstanceAs (Decidable (∀ c ∈ x, c ∈ sg))
theorem addS {x y : List Nat} (h : x.length + y.length ≤ 16777216) : dAdd (.str x) (.str y) = some (.str (x ++ y)) := by
  show (if x.length + y.length ≤ 16777216 then some (D.str (x ++ y)) else none) = _
  rw [if_pos h]
theorem addSP {x y : List Nat} (h : x.length + y.length ≤ 16777216) : pAdd (.str x) (.str y) = some (.str (x ++ y)) := by
  show (if x.length + y.length ≤ 16777216 then some (D.str (x ++ y)) else none) = _
  rw [if_pos h]
theorem text_ok {b : Nat} {d : D} (h : Dk b d) (most : Int) (hb : b + 100 ≤ BIG) (hm : 0 ≤ most ∧ most ≤ 50) : ∃ x d', TX x ∧ (x.length : Int) ≤ most ∧ Dk (b + 60) d' ∧ F_l_text [d, .int most] = .ok (.str x, [some d', none]) := by
  obtain ⟨r1, d1, a1, b1, k1, t1⟩ := take_ok h 6
  obtain ⟨some_, m1, m2, _⟩ := atI_ok (ds := [D.str sg, .str sg, .str [48, 49, 50, 51, 52, 53, 54, 55, 56, 57], .str [97, 98, 99], .str [88, 89, 90], .str [97, 49]]) (i := r1) a1 b1
  obtain ⟨z, hz, z1, z2, z3⟩ : ∃ z, some_ = .str z ∧ TX z ∧ 0 < z.length ∧ z.length < 100 := by
    simp only [List.mem_cons, List.not_mem_nil, or_false] at m1
    rcases m1 with rfl | rfl | rfl | rfl | rfl | rfl <;> exact ⟨_, rfl, by decide, by decide, by decide⟩
  subst hz
  obtain ⟨r2, d2', a2, b2, k2, t2⟩ := take_ok k1 (most + 1)
  obtain ⟨e', q1, q2⟩ := for_ind (bf := bname 5) (body := b_l_text_1 F_l_take)
    (fun i e => ∃ x d' o5, TX x ∧ x.length = i ∧ Dk (b + 2 + i) d' ∧ e = [some d', some (.int most), some (.str sg), some (.str z), some (.str x), o5]) (rngD 0 r2.toNat) 0 (fun j d0 e hj ⟨x, d', o5, x1, x2, x3, x4⟩ => by
      obtain ⟨rfl, hj2⟩ := rng_at hj
      subst x4
      obtain ⟨r3, d3, a3, b3, k3, t3⟩ := take_ok x3 z.length
      obtain ⟨c, c1, c2, c3⟩ := atI_ok (ds := z) (i := r3) a3 b3
      refine ⟨_, [some d3, some (.int most), some (.str sg), some (.str z), some (.str (x ++ [c])), some (.int (0 + (j : Int)))], rfl, ?_, x ++ [c], d3, _, x1.app (TX.one (z1 c c1)), by rw [List.length_append]; show x.length + 1 = _; omega, k3.mono (by omega), rfl⟩
      have hx : x.length + [c].length ≤ 16777216 := by show x.length + 1 ≤ _; omega
      have hz : z.length ≤ 16777216 := by omega
      unfold b_l_text_1
      simp (disch := omega) only [backF, List.length_cons, List.length_nil, Nat.reduceAdd, Nat.reduceLeDiff, Nat.zero_add, sseq, sif, sset, sret, sretv, sretn, spass, sbrk, scont, sdrop, sstore, saug, sunpO, bnames, toD, evar, emv, p1, p2, d2, pvar, pcst, pcall, pcons, pnil, dcons, dnil, dcall, dlst, dtupO, dtup, dfrz, ofO, Res.bind, isFrz, allFrz, frz, frzs, ecall, aslot, aval, anil, argF, isAtom, fnF, maskF, tfP, tfD, tfand, tfor, tfnot, toB, pIsa, tyN, isaT, dand, dor, dnot, sbad, tyes, List.getElem?_cons_zero, List.getElem?_cons_succ, List.getElem?_nil, List.set_cons_zero, List.set_cons_succ, Option.bind, Option.map, Bool.false_eq_true, if_false, if_true, reduceIte, List.map_cons, List.map_nil, List.replicate, List.nil_append, List.cons_append, List.any_cons, List.any_nil, id_eq, Bool.or_false, Bool.or_true, Bool.not_false, Bool.not_true, Bool.and_true, Bool.and_false, Bool.true_and, Bool.false_and, bname, bLen, hz, t3, dIx, pIx, c2, addS hx])
    [some d2', some (.int most), some (.str sg), some (.str z), some (.str []), none] ⟨[], d2', none, TX.nil, rfl, k2.mono (by omega), rfl⟩
  obtain ⟨x, d', o5, x1, x2, x3, x4⟩ := q2
  subst x4
  rw [rng_len] at x2 x3
  refine ⟨x, d', x1, by omega, x3.mono (by omega), ?_⟩
  unfold F_l_text b_l_text
  have hr : rngOk r2 := ⟨by omega, by omega⟩
  simp (disch := omega) only [backF, List.length_cons, List.length_nil, Nat.reduceAdd, Nat.reduceLeDiff, Nat.zero_add, sseq, sif, sset, sret, sretv, sretn, spass, sbrk, scont, sdrop, sstore, saug, sunpO, bnames, toD, evar, emv, p1, p2, d2, pvar, pcst, pcall, pcons, pnil, dcons, dnil, dcall, dlst, dtupO, dtup, dfrz, ofO, Res.bind, isFrz, allFrz, frz, frzs, ecall, aslot, aval, anil, argF, isAtom, fnF, maskF, tfP, tfD, tfand, tfor, tfnot, toB, pIsa, tyN, isaT, dand, dor, dnot, sbad, tyes, List.getElem?_cons_zero, List.getElem?_cons_succ, List.getElem?_nil, List.set_cons_zero, List.set_cons_succ, Option.bind, Option.map, Bool.false_eq_true, if_false, if_true, reduceIte, List.map_cons, List.map_nil, List.replicate, List.nil_append, List.cons_append, List.any_cons, List.any_nil, id_eq, Bool.or_false, Bool.or_true, Bool.not_false, Bool.not_true, Bool.and_true, Bool.and_false, Bool.true_and, Bool.false_and, ev_signs, t1, List.length_cons, List.length_nil, dIx, pIx, m2, t2, add_ok, sfor, srcR1d, hr, q1]
end K79

namespace K79
open PySem L2 DL
/-! ### texts cut -/
theorem cutL_nat {α : Type} (x : List α) (a b : Nat) : cutL x (some (a : Int)) (some (b : Int)) = (x.drop a).take (b - a) := by
  unfold cutL
  rw [HT.sIx_nat, HT.sIx_nat]
  by_cases h : a ≤ x.length
  · rw [Nat.min_eq_left h]
    by_cases h2 : b ≤ x.length
    · rw [Nat.min_eq_left h2]
    · rw [Nat.min_eq_right (by omega), List.take_of_length_le (by rw [List.length_drop]; omega), List.take_of_length_le (by rw [List.length_drop]; omega)]
  · rw [Nat.min_eq_right (by omega : x.length ≤ a), List.drop_length, List.drop_eq_nil_of_le (by omega)]
    simp
theorem cutL_from {α : Type} (x : List α) (a : Nat) : cutL x (some (a : Int)) none = x.drop a := by
  unfold cutL
  rw [HT.sIx_nat, HT.sIx_none]
  by_cases h : a ≤ x.length
  · rw [Nat.min_eq_left h, List.take_of_length_le (by rw [List.length_drop]; omega)]
  · rw [Nat.min_eq_right (by omega), List.drop_length, List.drop_eq_nil_of_le (by omega)]
    simp
theorem cutL_to {α : Type} (x : List α) (b : Nat) : cutL x none (some (b : Int)) = x.take b := by
  unfold cutL
  rw [HT.sIx_nat, HT.sIx_none, Nat.sub_zero, List.drop_zero]
  by_cases h : b ≤ x.length
  · rw [Nat.min_eq_left h]
  · rw [Nat.min_eq_right (by omega), List.take_of_length_le (Nat.le_refl _), List.take_of_length_le (by omega)]
theorem cutL_pt {α : Type} (x : List α) (a b : Nat) : cutL x (some (a : Int)) (some ((a : Int) + (b : Int))) = (x.drop a).take b := by
  have := cutL_nat x a (a + b)
  rw [Nat.add_sub_cancel_left] at this
  rw [← this]
  rfl
theorem slS {x : List Nat} {lo hi : Option Int} (h : x.length ≤ 16777216) : pSlS (.str x) lo hi = some (.str (cutL x lo hi)) := by
  show (if x.length ≤ 16777216 then some (D.str (cutL x lo hi)) else none) = _
  rw [if_pos h]
theorem ixS {x : List Nat} {i : Int} {c : Nat} (h : x.length ≤ 16777216) (hc : atI x i = some c) : pIx (.str x) (.int i) = some (.str [c]) := by
  show (if x.length ≤ 16777216 then (atI x i).map fun c => D.str [c] else none) = _
  rw [if_pos h, hc]; rfl
/-! ### texts in a list -/
theorem cVs (k : List Nat) : cV (.str k) = some (.str (Sx k)) := rfl
theorem Sx_inj {a b : List Nat} : Sx a = Sx b ↔ a = b := ⟨fun h => by simpa [Sx] using h, fun h => by rw [h]⟩
theorem inD_str (k : List Nat) : ∀ ks : List (List Nat), inD (.str k) (ks.map .str) = some (decide (k ∈ ks))
  | [] => by simp [inD]
  | q :: ks => by
    rw [List.map_cons, inD, cVs, cVs]
    dsimp only
    rw [inD_str k ks]
    show some (eqV (.str (Sx q)) (.str (Sx k)) || decide (k ∈ ks)) = _
    have : eqV (.str (Sx q)) (.str (Sx k)) = decide (q = k) := by
      by_cases h : q = k
      · subst h; simp [eqV]
      · rw [decide_eq_false h]
        have h2 : ¬ Sx q = Sx k := fun z => h (Sx_inj.mp z)
        simp [eqV, h2]
    rw [this]
    by_cases h : q = k
    · subst h; simp
    · have h' : ¬ k = q := fun e => h e.symm
      by_cases h2 : k ∈ ks <;> simp [h, h', h2]
theorem pIn_lst (k : List Nat) (o : Bool) (ks : List (List Nat)) : pIn (.str k) (.lst o (ks.map .str)) = some (.bl (decide (k ∈ ks))) := by
  have e : pIn (.str k) (.lst o (ks.map .str)) = if (cV (.str k)).isSome = true then (inD (.str k) (ks.map .str)).map .bl else none := by
    unfold pIn
    rcases k with _ | ⟨c, _ | ⟨c2, r⟩⟩ <;> rfl
  rw [e, inD_str, cVs]
  rfl
theorem allFrz_str (ks : List (List Nat)) : allFrz (ks.map .str) = true := by
  rw [allFrz_eq, List.all_map]
  exact List.all_eq_true.mpr fun _ _ => rfl
theorem frzs_str (ks : List (List Nat)) : frzs (ks.map .str) = ks.map .str := frzs_of _ (allFrz_str ks)
theorem nodup_sub {α : Type} [DecidableEq α] : ∀ {l m : List α}, l.Nodup → (∀ x ∈ l, x ∈ m) → l.length ≤ m.length
  | [], m, _, _ => Nat.zero_le _
  | x :: l, m, hn, hs => by
    have hx := hs x List.mem_cons_self
    have := nodup_sub (l := l) (m := m.erase x) (List.nodup_cons.mp hn).2 fun y hy => (List.mem_erase_of_ne fun e => (List.nodup_cons.mp hn).1 (by rw [← e]; exact hy)).mpr (hs y (List.mem_cons_of_mem _ hy))
    rw [List.length_erase_of_mem hx] at this
    have := List.length_pos_of_mem hx
    rw [List.length_cons]
    omega
/-! ### far -/
def bnd : Nat → Int
  | 0 => 1
  | i + 1 => bnd i * 100000000
theorem bnd_le {i : Nat} (h : i ≤ 8) : 0 < bnd i ∧ bnd i ≤ 10 ^ 64 := by
  have : i = 0 ∨ i = 1 ∨ i = 2 ∨ i = 3 ∨ i = 4 ∨ i = 5 ∨ i = 6 ∨ i = 7 ∨ i = 8 := by omega
  rcases this with rfl | rfl | rfl | rfl | rfl | rfl | rfl | rfl | rfl <;> decide
theorem far_ok {b : Nat} {d : D} (h : Dk b d) (hb : b + 100 ≤ BIG) : ∃ (x : Int) (d' : D), -(10 ^ 60) ≤ x ∧ x ≤ 10 ^ 60 ∧ Dk (b + 10) d' ∧ F_l_far [d] = .ok (.int x, [some d']) := by
  have ep : pPow (.int 10) (.int 8) = some (.int 100000000) := rfl
  have ep2 : pPow (.int 10) (.int 60) = some (.int (10 ^ 60)) := rfl
  obtain ⟨e', q1, x, d', o2, x1, x2, x3, _, x4⟩ := for_ind (bf := bname 2) (body := b_l_far_1 F_l_take)
    (fun i e => ∃ (x : Int) (d' : D) (o2 : Option D), 0 ≤ x ∧ x < bnd i ∧ Dk (b + i) d' ∧ i ≤ 8 ∧ e = [some d', some (.int x), o2]) (rngD 0 8) 0 (fun j d0 e hj ⟨x, d', o2, x1, x2, x3, x5, x4⟩ => by
      obtain ⟨rfl, hj2⟩ := rng_at hj
      subst x4
      obtain ⟨r3, d3, a3, b3, k3, t3⟩ := take_ok x3 100000000
      have hx := bnd_le x5
      have hx2 : bnd (0 + j + 1) = bnd (0 + j) * 100000000 := rfl
      refine ⟨_, [some d3, some (.int (x * 100000000 + r3)), some (.int (0 + (j : Int)))], rfl, ?_, x * 100000000 + r3, d3, _, by omega, by omega, k3.mono (by omega), by omega, rfl⟩
      unfold b_l_far_1
      simp (disch := omega) only [backF, List.length_cons, List.length_nil, Nat.reduceAdd, Nat.reduceLeDiff, Nat.zero_add, sseq, sif, sset, sret, sretv, sretn, spass, sbrk, scont, sdrop, sstore, saug, sunpO, bnames, toD, evar, emv, p1, p2, d2, pvar, pcst, pcall, pcons, pnil, dcons, dnil, dcall, dlst, dtupO, dtup, dfrz, ofO, Res.bind, isFrz, allFrz, frz, frzs, ecall, aslot, aval, anil, argF, isAtom, fnF, maskF, tfP, tfD, tfand, tfor, tfnot, toB, pIsa, tyN, isaT, dand, dor, dnot, sbad, tyes, List.getElem?_cons_zero, List.getElem?_cons_succ, List.getElem?_nil, List.set_cons_zero, List.set_cons_succ, Option.bind, Option.map, Bool.false_eq_true, if_false, if_true, reduceIte, List.map_cons, List.map_nil, List.replicate, List.nil_append, List.cons_append, List.any_cons, List.any_nil, id_eq, Bool.or_false, Bool.or_true, Bool.not_false, Bool.not_true, Bool.and_true, Bool.and_false, Bool.true_and, Bool.false_and, bname, t3, mul_ok, addA_ok, ep])
    [some d, some (.int 0), none] ⟨0, d, none, by decide, by decide, h.mono (by omega), by omega, rfl⟩
  subst x4
  rw [rng_len] at x2 x3
  have hm : 0 ≤ x % (2 * 10 ^ 60 - 1) ∧ x % (2 * 10 ^ 60 - 1) < 2 * 10 ^ 60 - 1 := by omega
  refine ⟨x % (2 * 10 ^ 60 - 1) - 10 ^ 60 + 1, d', by omega, by omega, x3.mono (by omega), ?_⟩
  unfold F_l_far b_l_far
  have hr : rngOk (8 : Int) := ⟨by omega, by omega⟩
  have h8 : (8 : Int).toNat = 8 := rfl
  have em : pMul (.int 2) (.int (10 ^ 60)) = some (.int (2 * 10 ^ 60)) := mul_ok (by omega) (by omega)
  simp (disch := omega) only [backF, List.length_cons, List.length_nil, Nat.reduceAdd, Nat.reduceLeDiff, Nat.zero_add, sseq, sif, sset, sret, sretv, sretn, spass, sbrk, scont, sdrop, sstore, saug, sunpO, bnames, toD, evar, emv, p1, p2, d2, pvar, pcst, pcall, pcons, pnil, dcons, dnil, dcall, dlst, dtupO, dtup, dfrz, ofO, Res.bind, isFrz, allFrz, frz, frzs, ecall, aslot, aval, anil, argF, isAtom, fnF, maskF, tfP, tfD, tfand, tfor, tfnot, toB, pIsa, tyN, isaT, dand, dor, dnot, sbad, tyes, List.getElem?_cons_zero, List.getElem?_cons_succ, List.getElem?_nil, List.set_cons_zero, List.set_cons_succ, Option.bind, Option.map, Bool.false_eq_true, if_false, if_true, reduceIte, List.map_cons, List.map_nil, List.replicate, List.nil_append, List.cons_append, List.any_cons, List.any_nil, id_eq, Bool.or_false, Bool.or_true, Bool.not_false, Bool.not_true, Bool.and_true, Bool.and_false, Bool.true_and, Bool.false_and, sfor, srcR1d, hr, q1, h8, ep2, em, sub_ok, mod_ok, add_ok]
/-! ### unlike -/
theorem sg_at {p : Nat} (h : p < 94) : sg[p]? = some (if p < 5 then 32 + p else 33 + p) := by
  have : ∀ p : Fin 94, sg[p.1]? = some (if p.1 < 5 then 32 + p.1 else 33 + p.1) := by decide +kernel
  exact this ⟨p, h⟩
/-- the sign at a place that goes round -/
def sgr (i : Int) : Nat := if i % 94 < 5 then 32 + (i % 94).toNat else 33 + (i % 94).toNat
theorem sgr_at (i : Int) : atI sg (i % 94) = some (sgr i) ∧ sgr i ∈ sg := by
  have h1 : (i % 94).toNat < 94 := by omega
  have e : sg[(i % 94).toNat]? = some (sgr i) := by
    rw [sg_at h1]
    unfold sgr
    by_cases h : i % 94 < 5
    · rw [if_pos h, if_pos (by omega)]
    · rw [if_neg h, if_neg (by omega)]
  refine ⟨?_, List.mem_of_getElem? e⟩
  unfold atI
  rw [ixN_ok (by omega) (show i % 94 < ((sg.length : Nat) : Int) by show _ < (94 : Int); omega)]
  exact e
theorem sgr_inj {i j : Int} (h : sgr i = sgr j) : i % 94 = j % 94 := by
  unfold sgr at h
  split at h <;> split at h <;> omega
theorem unlike_ok {b : Nat} {d : D} (h : Dk b d) (many : Nat) (most : Int) (hb : b + 1000 ≤ BIG) (hm : 1 ≤ most ∧ most ≤ 50) (hk : many ≤ 11) :
    ∃ (xs : List (List Nat)) (d' : D), xs.length = many ∧ xs.Nodup ∧ (∀ x ∈ xs, TX x ∧ (x.length : Int) ≤ most) ∧ Dk (b + 700) d' ∧ F_l_unlike [d, .int many, .int most] = .ok (.lst true (xs.map .str), [some d', none, none]) := by
  have hsg : sg.length = 94 := rfl
  have hsl : sg.length ≤ 16777216 := by rw [hsg]; omega
  have hbl : bLen [.str sg] = some (.int 94) := by
    show (if sg.length ≤ 16777216 then some (D.int (sg.length : Nat)) else none) = _
    rw [if_pos hsl, hsg]; rfl
  obtain ⟨e', q1, xs, d', o5, o6, o7, x1, x2, x3, x4, x5, x6⟩ := for_ind (bf := bname 5) (body := b_l_unlike_3 F_l_text)
    (fun i e => ∃ (xs : List (List Nat)) (d' : D) (o5 o6 o7 : Option D), xs.length = i ∧ xs.Nodup ∧ (∀ x ∈ xs, TX x ∧ (x.length : Int) ≤ most) ∧ Dk (b + 60 * i) d' ∧ i ≤ many ∧ e = [some d', some (.int many), some (.int most), some (.str sg), some (.lst true (xs.map .str)), o5, o6, o7]) (rngD 0 many) 0 (fun j d0 e hj ⟨xs, d', o5, o6, o7, x1, x2, x3, x4, x5, x6⟩ => by
      obtain ⟨rfl, hj2⟩ := rng_at hj
      subst x6
      obtain ⟨t, d3, t1, t2, k3, t3⟩ := text_ok x4 most (by unfold BIG at *; omega) ⟨by omega, by omega⟩
      have htl : t.length ≤ 16777216 := by omega
      generalize ha0 : Txt.find (Sx sg) (Sx (t.take 1)) = a0
      -- the loop that looks for a text that is not there
      have hw := wh_ind (c := b_l_unlike_1) (b := b_l_unlike_2)
        (fun m e => ∃ (x : List Nat) (a : Int) (i : Nat), m + i = 12 ∧ e = [some d3, some (.int many), some (.int most), some (.str sg), some (.lst true (xs.map .str)), some (.int (0 + (j : Int))), some (.str x), some (.int a)] ∧ TX x ∧ (x.length : Int) ≤ most ∧ (0 < i → x = sgr (a0 + (i : Int)) :: t.drop 1) ∧ x.drop 1 = t.drop 1 ∧ a % 94 = (a0 + (i : Int)) % 94 ∧
          (∀ k : Nat, 0 < k → k < i → (sgr (a0 + (k : Int)) :: t.drop 1) ∈ xs))
        (fun r => ∃ x a, x ∉ xs ∧ TX x ∧ (x.length : Int) ≤ most ∧ r = .next [some d3, some (.int many), some (.int most), some (.str sg), some (.lst true (xs.map .str)), some (.int (0 + (j : Int))), some (.str x), some (.int a)])
        (fun ⟨_, _, _, _, _, z⟩ => by cases z) (fun m e ⟨x, a, i, mi, e1, v1, v2, v3, v4, v5, v6⟩ => by
          subst e1
          by_cases hin : x ∈ xs
          · refine .inr ⟨[some d3, some (.int many), some (.int most), some (.str sg), some (.lst true (xs.map .str)), some (.int (0 + (j : Int))), some (.str x), some (.int a)], ?_, ?_⟩
            · unfold b_l_unlike_1
              simp (disch := omega) only [backF, List.length_cons, List.length_nil, Nat.reduceAdd, Nat.reduceLeDiff, Nat.zero_add, sseq, sif, sset, sret, sretv, sretn, spass, sbrk, scont, sdrop, sstore, saug, sunpO, bnames, toD, evar, emv, p1, p2, d2, pvar, pcst, pcall, pcons, pnil, dcons, dnil, dcall, dlst, dtupO, dtup, dfrz, ofO, Res.bind, isFrz, allFrz, frz, frzs, ecall, aslot, aval, anil, argF, isAtom, fnF, maskF, tfP, tfD, tfand, tfor, tfnot, toB, pIsa, tyN, isaT, dand, dor, dnot, sbad, tyes, List.getElem?_cons_zero, List.getElem?_cons_succ, List.getElem?_nil, List.set_cons_zero, List.set_cons_succ, Option.bind, Option.map, Bool.false_eq_true, if_false, if_true, reduceIte, List.map_cons, List.map_nil, List.replicate, List.nil_append, List.cons_append, List.any_cons, List.any_nil, id_eq, Bool.or_false, Bool.or_true, Bool.not_false, Bool.not_true, Bool.and_true, Bool.and_false, Bool.true_and, Bool.false_and, pIn_lst, hin, decide_true]
            · have hxl : x.length ≤ 16777216 := by omega
              have hda : (a + 1) % 94 = (a0 + ((i + 1 : Nat) : Int)) % 94 := by omega
              have v6' : ∀ k : Nat, 0 < k → k < i + 1 → (sgr (a0 + (k : Int)) :: t.drop 1) ∈ xs := fun k k0 k1 => by
                by_cases hk : k < i
                · exact v6 k k0 hk
                · have e : k = i := by omega
                  subst e
                  rw [← v3 k0]; exact hin
              have hin12 : i < 12 := by
                refine Nat.lt_of_not_le fun h12 => ?_
                have hn : ((List.range 12).map fun k => sgr (a0 + ((k + 1 : Nat) : Int)) :: t.drop 1).Nodup := by
                  unfold List.Nodup
                  rw [List.pairwise_map]
                  refine (List.nodup_range (n := 12)).imp_of_mem fun {k l} hk hl hne e => hne ?_
                  have := sgr_inj (List.cons.inj e).1
                  rw [List.mem_range] at hk hl
                  omega
                have := nodup_sub hn fun y hy => by
                  obtain ⟨k, hk, rfl⟩ := List.mem_map.mp hy
                  rw [List.mem_range] at hk
                  exact v6' (k + 1) (by omega) (by omega)
                rw [List.length_map, List.length_range] at this
                omega
              obtain ⟨g1, g2⟩ := sgr_at (a0 + ((i + 1 : Nat) : Int))
              rw [← hda] at g1
              refine .inl ⟨[some d3, some (.int many), some (.int most), some (.str sg), some (.lst true (xs.map .str)), some (.int (0 + (j : Int))), some (.str (sgr (a0 + ((i + 1 : Nat) : Int)) :: t.drop 1)), some (.int ((a + 1) % 94))], m - 1, ?_, by omega, _, _, i + 1, by omega, rfl, ?_, ?_, fun _ => rfl, rfl, by omega, v6'⟩
              · have hal : [sgr (a0 + ((i + 1 : Nat) : Int))].length + (t.drop 1).length ≤ 16777216 := by
                  rw [List.length_drop]; show 1 + _ ≤ _; omega
                have ed : cutL x (some 1) none = x.drop 1 := cutL_from x 1
                unfold b_l_unlike_2
                simp (disch := omega) only [backF, List.length_cons, List.length_nil, Nat.reduceAdd, Nat.reduceLeDiff, Nat.zero_add, sseq, sif, sset, sret, sretv, sretn, spass, sbrk, scont, sdrop, sstore, saug, sunpO, bnames, toD, evar, emv, p1, p2, d2, pvar, pcst, pcall, pcons, pnil, dcons, dnil, dcall, dlst, dtupO, dtup, dfrz, ofO, Res.bind, isFrz, allFrz, frz, frzs, ecall, aslot, aval, anil, argF, isAtom, fnF, maskF, tfP, tfD, tfand, tfor, tfnot, toB, pIsa, tyN, isaT, dand, dor, dnot, sbad, tyes, List.getElem?_cons_zero, List.getElem?_cons_succ, List.getElem?_nil, List.set_cons_zero, List.set_cons_succ, Option.bind, Option.map, Bool.false_eq_true, if_false, if_true, reduceIte, List.map_cons, List.map_nil, List.replicate, List.nil_append, List.cons_append, List.any_cons, List.any_nil, id_eq, Bool.or_false, Bool.or_true, Bool.not_false, Bool.not_true, Bool.and_true, Bool.and_false, Bool.true_and, Bool.false_and, psl, oSome, oNone, hbl, add_ok, mod_ok, slS hxl, ed, ixS hsl g1, addSP hal, v4]
              · exact (TX.one g2).app (t1.sub fun k hk => List.mem_of_mem_drop hk)
              · rw [List.length_cons, List.length_drop]; omega
          · refine .inl ⟨_, ?_, x, a, hin, v1, v2, rfl⟩
            unfold b_l_unlike_1
            simp (disch := omega) only [backF, List.length_cons, List.length_nil, Nat.reduceAdd, Nat.reduceLeDiff, Nat.zero_add, sseq, sif, sset, sret, sretv, sretn, spass, sbrk, scont, sdrop, sstore, saug, sunpO, bnames, toD, evar, emv, p1, p2, d2, pvar, pcst, pcall, pcons, pnil, dcons, dnil, dcall, dlst, dtupO, dtup, dfrz, ofO, Res.bind, isFrz, allFrz, frz, frzs, ecall, aslot, aval, anil, argF, isAtom, fnF, maskF, tfP, tfD, tfand, tfor, tfnot, toB, pIsa, tyN, isaT, dand, dor, dnot, sbad, tyes, List.getElem?_cons_zero, List.getElem?_cons_succ, List.getElem?_nil, List.set_cons_zero, List.set_cons_succ, Option.bind, Option.map, Bool.false_eq_true, if_false, if_true, reduceIte, List.map_cons, List.map_nil, List.replicate, List.nil_append, List.cons_append, List.any_cons, List.any_nil, id_eq, Bool.or_false, Bool.or_true, Bool.not_false, Bool.not_true, Bool.and_true, Bool.and_false, Bool.true_and, Bool.false_and, pIn_lst, hin, decide_false]) 12
        [some d3, some (.int many), some (.int most), some (.str sg), some (.lst true (xs.map .str)), some (.int (0 + (j : Int))), some (.str t), some (.int a0)] ⟨t, a0, 0, rfl, rfl, t1, t2, fun h => absurd h (Nat.lt_irrefl _), rfl, by omega, fun k k0 k1 => by omega⟩
      obtain ⟨x, a, w1, w2, w3, w4⟩ := hw
      refine ⟨_, [some d3, some (.int many), some (.int most), some (.str sg), some (.lst true ((xs ++ [x]).map .str)), some (.int (0 + (j : Int))), some (.str x), some (.int a)], rfl, ?_, xs ++ [x], d3, _, _, _, ?_, ?_, ?_, k3.mono (by omega), by omega, rfl⟩
      · have ed : cutL t none (some 1) = t.take 1 := cutL_to t 1
        have hxl : (List.map D.str xs).length < 1000000 := by rw [List.length_map]; omega
        unfold b_l_unlike_3
        simp (disch := omega) only [backF, List.length_cons, List.length_nil, Nat.reduceAdd, Nat.reduceLeDiff, Nat.zero_add, sseq, sif, sset, sret, sretv, sretn, spass, sbrk, scont, sdrop, sstore, saug, sunpO, bnames, toD, evar, emv, p1, p2, d2, pvar, pcst, pcall, pcons, pnil, dcons, dnil, dcall, dlst, dtupO, dtup, dfrz, ofO, Res.bind, isFrz, allFrz, frz, frzs, ecall, aslot, aval, anil, argF, isAtom, fnF, maskF, tfP, tfD, tfand, tfor, tfnot, toB, pIsa, tyN, isaT, dand, dor, dnot, sbad, tyes, List.getElem?_cons_zero, List.getElem?_cons_succ, List.getElem?_nil, List.set_cons_zero, List.set_cons_succ, Option.bind, Option.map, Bool.false_eq_true, if_false, if_true, reduceIte, List.map_cons, List.map_nil, List.replicate, List.nil_append, List.cons_append, List.any_cons, List.any_nil, id_eq, Bool.or_false, Bool.or_true, Bool.not_false, Bool.not_true, Bool.and_true, Bool.and_false, Bool.true_and, Bool.false_and, bname, t3, psl, oSome, oNone, pm1, mFind, slS htl, ed, ha0, w4, mapp, hxl, List.map_append]
      · rw [List.length_append]; show xs.length + 1 = _; omega
      · refine List.nodup_append.mpr ⟨x2, List.nodup_cons.mpr ⟨fun z => (by cases z), List.nodup_nil⟩, fun a ha b hb e => ?_⟩
        rw [List.mem_singleton.mp hb] at e
        exact w1 (by rw [← e]; exact ha)
      · intro y hy
        rcases List.mem_append.mp hy with z | z
        · exact x3 y z
        · rw [List.mem_singleton.mp z]; exact ⟨w2, w3⟩)
    [some d, some (.int many), some (.int most), some (.str sg), some (.lst true []), none, none, none] ⟨[], d, none, none, none, rfl, List.nodup_nil, fun x hx => (by cases hx), h.mono (by omega), by omega, rfl⟩
  subst x6
  rw [rng_len] at x1 x4
  refine ⟨xs, d', by omega, x2, x3, x4.mono (by omega), ?_⟩
  unfold F_l_unlike b_l_unlike
  have hr : rngOk (many : Int) := ⟨by omega, by omega⟩
  simp (disch := omega) only [backF, List.length_cons, List.length_nil, Nat.reduceAdd, Nat.reduceLeDiff, Nat.zero_add, sseq, sif, sset, sret, sretv, sretn, spass, sbrk, scont, sdrop, sstore, saug, sunpO, bnames, toD, evar, emv, p1, p2, d2, pvar, pcst, pcall, pcons, pnil, dcons, dnil, dcall, dlst, dtupO, dtup, dfrz, ofO, Res.bind, isFrz, allFrz, frz, frzs, ecall, aslot, aval, anil, argF, isAtom, fnF, maskF, tfP, tfD, tfand, tfor, tfnot, toB, pIsa, tyN, isaT, dand, dor, dnot, sbad, tyes, List.getElem?_cons_zero, List.getElem?_cons_succ, List.getElem?_nil, List.set_cons_zero, List.set_cons_succ, Option.bind, Option.map, Bool.false_eq_true, if_false, if_true, reduceIte, List.map_cons, List.map_nil, List.replicate, List.nil_append, List.cons_append, List.any_cons, List.any_nil, id_eq, Bool.or_false, Bool.or_true, Bool.not_false, Bool.not_true, Bool.and_true, Bool.and_false, Bool.true_and, Bool.false_and, ev_signs, sfor, srcR1d, hr, Int.toNat_natCast, q1]
end K79

namespace K79
open PySem L2 DL
theorem comp_map {bf : BF} {elt : DF} {vs : List Nat} (E : DL.Env) (f : D → D) : ∀ (ds : List D), (∀ d ∈ ds, ∃ e1 x e3, bf d E = some e1 ∧ elt e1 = .ok (x, e3) ∧ frz x = f d ∧ wipeE e3 vs = E) → compL bf tyes elt vs ds E = some (ds.map f, E)
  | [], _ => rfl
  | d :: ds, h => by
    obtain ⟨e1, x, e3, h1, h2, h3, h4⟩ := h d List.mem_cons_self
    rw [compL, h1]
    dsimp only [tyes]
    rw [h2]
    dsimp only
    rw [h4, comp_map E f ds fun d' hd => h d' (List.mem_cons_of_mem _ hd), h3]
    rfl
/-! ### the world -/
def WD (o : Bool) (ns ts : List (List Nat)) (st sp : Int) : D := .lst o [.lst false (ns.map .str), .lst false (ts.map .str), .int st, .int sp]
theorem frz_WD {o : Bool} {ns ts : List (List Nat)} {st sp : Int} : frz (WD o ns ts st sp) = WD false ns ts st sp := by
  unfold WD
  simp only [frz, frzs, frzs_str]
theorem W_0 {o : Bool} {ns ts : List (List Nat)} {st sp : Int} : pIx (WD o ns ts st sp) (.int 0) = some (.lst false (ns.map .str)) := rfl
theorem W_1 {o : Bool} {ns ts : List (List Nat)} {st sp : Int} : pIx (WD o ns ts st sp) (.int 1) = some (.lst false (ts.map .str)) := rfl
theorem W_2 {o : Bool} {ns ts : List (List Nat)} {st sp : Int} : pIx (WD o ns ts st sp) (.int 2) = some (.int st) := rfl
theorem W_3 {o : Bool} {ns ts : List (List Nat)} {st sp : Int} : pIx (WD o ns ts st sp) (.int 3) = some (.int sp) := rfl
structure WOk (ns ts : List (List Nat)) (st sp : Int) : Prop where
  nl : ns.length = 11
  nd : ns.Nodup
  nt : ∀ x ∈ ns, TX x ∧ x.length ≤ 50
  tl : ts.length = 9
  tt : ∀ x ∈ ts, TX x ∧ x.length ≤ 60
  s0 : -(10 ^ 58) ≤ st ∧ st ≤ 10 ^ 58
  s1 : 1 ≤ sp ∧ sp ≤ 10 ^ 21
theorem dix_ok {ds : List D} {o : Bool} {i : Int} {d : D} (h : atI ds i = some d) (hz : isFrz d = true) : dIx (.lst o ds) (.int i) = some d := by
  show ((atI ds i).bind fun d => if isFrz d = true then some d else none) = _
  rw [h]
  show (if isFrz d = true then some d else none) = _
  rw [if_pos hz]
theorem world_ok {b : Nat} {d : D} (h : Dk b d) (hb : b + 10000 ≤ BIG) : ∃ ns ts st sp d', WOk ns ts st sp ∧ Dk (b + 2000) d' ∧ F_l_world [d] = .ok (WD true ns ts st sp, [some d']) := by
  unfold BIG at hb
  obtain ⟨r1, d1, a1, b1, k1, t1⟩ := take_ok h 8 (by unfold BIG; omega)
  obtain ⟨mo, m1, m2, _⟩ := atI_ok (ds := [D.int 4, .int 3, .int 5, .int 1, .int 4, .int 3, .int 6, .int 40]) (i := r1) a1 b1
  obtain ⟨most, hm, hm1, hm2⟩ : ∃ z, mo = .int z ∧ 1 ≤ z ∧ z ≤ 40 := by
    simp only [List.mem_cons, List.not_mem_nil, or_false] at m1
    rcases m1 with rfl | rfl | rfl | rfl | rfl | rfl | rfl | rfl <;> exact ⟨_, rfl, by decide, by decide⟩
  subst hm
  obtain ⟨ns, d2', n1, n2, n3, k2, t2⟩ := unlike_ok k1 11 most (by unfold BIG; omega) ⟨hm1, by omega⟩ (by omega)
  obtain ⟨r3, d3, a3, b3, k3, t3⟩ := take_ok k2 2 (by unfold BIG; omega)
  obtain ⟨hd, d4, h1, h2, k4, t4⟩ := text_ok k3 (3 * r3) (by unfold BIG; omega) ⟨by omega, by omega⟩
  obtain ⟨us, d5, u1, u2, u3, k5, t5⟩ := unlike_ok k4 9 most (by unfold BIG; omega) ⟨hm1, by omega⟩ (by omega)
  obtain ⟨fx, d6, f1, f2, k6, t6⟩ := far_ok k5 (by unfold BIG; omega)
  obtain ⟨r7, d7, a7, b7, k7, t7⟩ := take_ok k6 4 (by unfold BIG; omega)
  obtain ⟨so, s1, s2, _⟩ := atI_ok (ds := [D.int 0, .int 7, .int (-40), .int (fx / 1000)]) (i := r7) a7 b7
  obtain ⟨st, hs, hs1, hs2⟩ : ∃ z : Int, so = .int z ∧ -(10 ^ 58) ≤ z ∧ z ≤ 10 ^ 58 := by
    simp only [List.mem_cons, List.not_mem_nil, or_false] at s1
    rcases s1 with rfl | rfl | rfl | rfl
    · exact ⟨_, rfl, by decide, by decide⟩
    · exact ⟨_, rfl, by decide, by decide⟩
    · exact ⟨_, rfl, by decide, by decide⟩
    · exact ⟨_, rfl, by omega, by omega⟩
  subst hs
  obtain ⟨r8, d8, a8, b8, k8, t8⟩ := take_ok k7 2 (by unfold BIG; omega)
  obtain ⟨po, g1, g2, _⟩ := atI_ok (ds := [D.int 6, .int (10 ^ 20)]) (i := r8) a8 b8
  obtain ⟨pw, hp, hp1, hp2⟩ : ∃ z : Int, po = .int z ∧ 1 ≤ z ∧ z ≤ 10 ^ 20 := by
    simp only [List.mem_cons, List.not_mem_nil, or_false] at g1
    rcases g1 with rfl | rfl <;> exact ⟨_, rfl, by decide, by decide⟩
  subst hp
  obtain ⟨r9, d9, a9, b9, k9, t9⟩ := take_ok k8 pw (by unfold BIG; omega)
  refine ⟨ns, us.map (hd ++ ·), st, 1 + r9, d9, ⟨n1, n2, fun x hx => ⟨(n3 x hx).1, by have := (n3 x hx).2; omega⟩, by rw [List.length_map, u1], fun x hx => ?_, ⟨hs1, hs2⟩, ⟨by omega, by omega⟩⟩, k9.mono (by omega), ?_⟩
  · obtain ⟨y, hy, rfl⟩ := List.mem_map.mp hx
    refine ⟨h1.app (u3 y hy).1, ?_⟩
    have := (u3 y hy).2
    rw [List.length_append]
    omega
  · have hc := comp_map (bf := bname 6) (elt := b_l_world_1) (vs := [6]) [some d5, some (.int most), some (.lst true (ns.map .str)), some (.str hd), none, none, none] (fun x => match x with | .str y => .str (hd ++ y) | x => x) (us.map .str) (fun x hx => by
      obtain ⟨y, hy, rfl⟩ := List.mem_map.mp hx
      have := (u3 y hy).2
      refine ⟨_, .str (hd ++ y), [some d5, some (.int most), some (.lst true (ns.map .str)), some (.str hd), none, none, some (.str y)], rfl, ?_, rfl, rfl⟩
      unfold b_l_world_1
      simp (disch := omega) only [backF, List.length_cons, List.length_nil, Nat.reduceAdd, Nat.reduceLeDiff, Nat.zero_add, sseq, sif, sset, sret, sretv, sretn, spass, sbrk, scont, sdrop, sstore, saug, sunpO, bnames, toD, evar, emv, p1, p2, d2, pvar, pcst, pcall, pcons, pnil, dcons, dnil, dcall, dlst, dtupO, dtup, dfrz, ofO, Res.bind, isFrz, allFrz, frz, frzs, ecall, aslot, aval, anil, argF, isAtom, fnF, maskF, tfP, tfD, tfand, tfor, tfnot, toB, pIsa, tyN, isaT, dand, dor, dnot, sbad, tyes, List.getElem?_cons_zero, List.getElem?_cons_succ, List.getElem?_nil, List.set_cons_zero, List.set_cons_succ, Option.bind, Option.map, Bool.false_eq_true, if_false, if_true, reduceIte, List.map_cons, List.map_nil, List.replicate, List.nil_append, List.cons_append, List.any_cons, List.any_nil, id_eq, Bool.or_false, Bool.or_true, Bool.not_false, Bool.not_true, Bool.and_true, Bool.and_false, Bool.true_and, Bool.false_and, bname, addSP])
    have el : (us.map D.str).length ≤ 1000000 := by rw [List.length_map, u1]; decide
    have em : (us.map D.str).map (fun x => match x with | .str y => D.str (hd ++ y) | x => x) = (us.map (hd ++ ·)).map D.str := by
      rw [List.map_map, List.map_map]; rfl
    rw [em] at hc
    have ep : pPow (.int 10) (.int 20) = some (.int (10 ^ 20)) := rfl
    have en : pNeg (.int 40) = some (.int (-40)) := rfl
    have t2' : F_l_unlike [d1, .int 11, .int most] = _ := t2
    have t5' : F_l_unlike [d4, .int 9, .int most] = _ := t5
    unfold F_l_world b_l_world
    simp (disch := omega) only [backF, List.length_cons, List.length_nil, Nat.reduceAdd, Nat.reduceLeDiff, Nat.zero_add, sseq, sif, sset, sret, sretv, sretn, spass, sbrk, scont, sdrop, sstore, saug, sunpO, bnames, toD, evar, emv, p1, p2, d2, pvar, pcst, pcall, pcons, pnil, dcons, dnil, dcall, dlst, dtupO, dtup, dfrz, ofO, Res.bind, isFrz, allFrz, frz, frzs, ecall, aslot, aval, anil, argF, isAtom, fnF, maskF, tfP, tfD, tfand, tfor, tfnot, toB, pIsa, tyN, isaT, dand, dor, dnot, sbad, tyes, List.getElem?_cons_zero, List.getElem?_cons_succ, List.getElem?_nil, List.set_cons_zero, List.set_cons_succ, Option.bind, Option.map, Bool.false_eq_true, if_false, if_true, reduceIte, List.map_cons, List.map_nil, List.replicate, List.nil_append, List.cons_append, List.any_cons, List.any_nil, id_eq, Bool.or_false, Bool.or_true, Bool.not_false, Bool.not_true, Bool.and_true, Bool.and_false, Bool.true_and, Bool.false_and, t1, dix_ok m2 rfl, t2', mul_ok, t3, t4, dcomp, srcL, t5', compR, frzs_str, el, wipeE, hc, en, t6, div_ok, t7, dix_ok s2 rfl, ep, t8, dix_ok g2 rfl, t9, addA_ok]
    rfl
/-! ### numbers, leaves -/
theorem number_ok {b : Nat} {d : D} (h : Dk b d) (hb : b + 1000 ≤ BIG) {ns ts : List (List Nat)} {st sp : Int} (w : WOk ns ts st sp) : ∃ (x : Int) (d' : D), x.natAbs < 10 ^ 61 ∧ Dk (b + 20) d' ∧ F_l_number [d, WD false ns ts st sp] = .ok (.int x, [some d', none]) := by
  unfold BIG at hb
  obtain ⟨w1, w2⟩ := w.s0
  obtain ⟨w3, w4⟩ := w.s1
  obtain ⟨r1, d1, a1, b1, k1, t1⟩ := take_ok h 6 (by unfold BIG; omega)
  unfold F_l_number b_l_number
  by_cases c0 : r1 = 0
  · obtain ⟨r2, d2', a2, b2, k2, t2⟩ := take_ok k1 9 (by unfold BIG; omega)
    refine ⟨r2 - 3, d2', by omega, k2.mono (by omega), ?_⟩
    simp (disch := omega) only [backF, List.length_cons, List.length_nil, Nat.reduceAdd, Nat.reduceLeDiff, Nat.zero_add, sseq, sif, sset, sret, sretv, sretn, spass, sbrk, scont, sdrop, sstore, saug, sunpO, bnames, toD, evar, emv, p1, p2, d2, pvar, pcst, pcall, pcons, pnil, dcons, dnil, dcall, dlst, dtupO, dtup, dfrz, ofO, Res.bind, isFrz, allFrz, frz, frzs, ecall, aslot, aval, anil, argF, isAtom, fnF, maskF, tfP, tfD, tfand, tfor, tfnot, toB, pIsa, tyN, isaT, dand, dor, dnot, sbad, tyes, List.getElem?_cons_zero, List.getElem?_cons_succ, List.getElem?_nil, List.set_cons_zero, List.set_cons_succ, Option.bind, Option.map, Bool.false_eq_true, if_false, if_true, reduceIte, List.map_cons, List.map_nil, List.replicate, List.nil_append, List.cons_append, List.any_cons, List.any_nil, id_eq, Bool.or_false, Bool.or_true, Bool.not_false, Bool.not_true, Bool.and_true, Bool.and_false, Bool.true_and, Bool.false_and, t1, eq_ok, c0, decide_true, t2, sub_ok]
  · by_cases c1 : r1 = 1
    · obtain ⟨fx, d6, f1, f2, k6, t6⟩ := far_ok k1 (by unfold BIG; omega)
      refine ⟨fx, d6, by omega, k6.mono (by omega), ?_⟩
      have n0 : ¬ (1 : Int) = 0 := by decide
      simp (disch := omega) only [backF, List.length_cons, List.length_nil, Nat.reduceAdd, Nat.reduceLeDiff, Nat.zero_add, sseq, sif, sset, sret, sretv, sretn, spass, sbrk, scont, sdrop, sstore, saug, sunpO, bnames, toD, evar, emv, p1, p2, d2, pvar, pcst, pcall, pcons, pnil, dcons, dnil, dcall, dlst, dtupO, dtup, dfrz, ofO, Res.bind, isFrz, allFrz, frz, frzs, ecall, aslot, aval, anil, argF, isAtom, fnF, maskF, tfP, tfD, tfand, tfor, tfnot, toB, pIsa, tyN, isaT, dand, dor, dnot, sbad, tyes, List.getElem?_cons_zero, List.getElem?_cons_succ, List.getElem?_nil, List.set_cons_zero, List.set_cons_succ, Option.bind, Option.map, Bool.false_eq_true, if_false, if_true, reduceIte, List.map_cons, List.map_nil, List.replicate, List.nil_append, List.cons_append, List.any_cons, List.any_nil, id_eq, Bool.or_false, Bool.or_true, Bool.not_false, Bool.not_true, Bool.and_true, Bool.and_false, Bool.true_and, Bool.false_and, t1, eq_ok, c1, n0, decide_true, decide_false, t6]
    · obtain ⟨r2, d2', a2, b2, k2, t2⟩ := take_ok k1 12 (by unfold BIG; omega)
      have e1 : sp * (r2 - 4) ≤ 10 ^ 21 * 8 := by
        have : sp * (r2 - 4) ≤ sp * 8 := Int.mul_le_mul_of_nonneg_left (by omega) (by omega)
        omega
      have e2 : -(10 ^ 21 * 4) ≤ sp * (r2 - 4) := by
        have : sp * (-4) ≤ sp * (r2 - 4) := Int.mul_le_mul_of_nonneg_left (by omega) (by omega)
        omega
      refine ⟨st + sp * (r2 - 4), d2', by omega, k2.mono (by omega), ?_⟩
      simp (disch := omega) only [backF, List.length_cons, List.length_nil, Nat.reduceAdd, Nat.reduceLeDiff, Nat.zero_add, sseq, sif, sset, sret, sretv, sretn, spass, sbrk, scont, sdrop, sstore, saug, sunpO, bnames, toD, evar, emv, p1, p2, d2, pvar, pcst, pcall, pcons, pnil, dcons, dnil, dcall, dlst, dtupO, dtup, dfrz, ofO, Res.bind, isFrz, allFrz, frz, frzs, ecall, aslot, aval, anil, argF, isAtom, fnF, maskF, tfP, tfD, tfand, tfor, tfnot, toB, pIsa, tyN, isaT, dand, dor, dnot, sbad, tyes, List.getElem?_cons_zero, List.getElem?_cons_succ, List.getElem?_nil, List.set_cons_zero, List.set_cons_succ, Option.bind, Option.map, Bool.false_eq_true, if_false, if_true, reduceIte, List.map_cons, List.map_nil, List.replicate, List.nil_append, List.cons_append, List.any_cons, List.any_nil, id_eq, Bool.or_false, Bool.or_true, Bool.not_false, Bool.not_true, Bool.and_true, Bool.and_false, Bool.true_and, Bool.false_and, t1, eq_ok, c0, c1, decide_false, t2, sub_ok, mul_ok, addA_ok, W_2, W_3]
/-- what a leaf is -/
inductive Leaf : D → Prop
  | non : Leaf .non
  | bl (b : Bool) : Leaf (.bl b)
  | int (i : Int) (h : i.natAbs < 10 ^ 61) : Leaf (.int i)
  | str (x : List Nat) (h : TX x) (hl : x.length ≤ 60) : Leaf (.str x)
theorem leaf_ok {b : Nat} {d : D} (h : Dk b d) (hb : b + 2000 ≤ BIG) {ns ts : List (List Nat)} {st sp : Int} (w : WOk ns ts st sp) : ∃ x d', Leaf x ∧ Dk (b + 30) d' ∧ F_l_leaf [d, WD false ns ts st sp] = .ok (x, [some d', none]) := by
  unfold BIG at hb
  obtain ⟨r1, d1, a1, b1, k1, t1⟩ := take_ok h 8 (by unfold BIG; omega)
  unfold F_l_leaf b_l_leaf
  by_cases c0 : r1 = 0
  · refine ⟨.non, d1, .non, k1.mono (by omega), ?_⟩
    simp (disch := omega) only [backF, List.length_cons, List.length_nil, Nat.reduceAdd, Nat.reduceLeDiff, Nat.zero_add, sseq, sif, sset, sret, sretv, sretn, spass, sbrk, scont, sdrop, sstore, saug, sunpO, bnames, toD, evar, emv, p1, p2, d2, pvar, pcst, pcall, pcons, pnil, dcons, dnil, dcall, dlst, dtupO, dtup, dfrz, ofO, Res.bind, isFrz, allFrz, frz, frzs, ecall, aslot, aval, anil, argF, isAtom, fnF, maskF, tfP, tfD, tfand, tfor, tfnot, toB, pIsa, tyN, isaT, dand, dor, dnot, sbad, tyes, List.getElem?_cons_zero, List.getElem?_cons_succ, List.getElem?_nil, List.set_cons_zero, List.set_cons_succ, Option.bind, Option.map, Bool.false_eq_true, if_false, if_true, reduceIte, List.map_cons, List.map_nil, List.replicate, List.nil_append, List.cons_append, List.any_cons, List.any_nil, id_eq, Bool.or_false, Bool.or_true, Bool.not_false, Bool.not_true, Bool.and_true, Bool.and_false, Bool.true_and, Bool.false_and, t1, eq_ok, c0, decide_true]
  · by_cases c1 : r1 = 1
    · obtain ⟨r2, d2', a2, b2, k2, t2⟩ := take_ok k1 2 (by unfold BIG; omega)
      have n0 : ¬ (1 : Int) = 0 := by decide
      refine ⟨.bl (decide (r2 = 1)), d2', .bl _, k2.mono (by omega), ?_⟩
      simp (disch := omega) only [backF, List.length_cons, List.length_nil, Nat.reduceAdd, Nat.reduceLeDiff, Nat.zero_add, sseq, sif, sset, sret, sretv, sretn, spass, sbrk, scont, sdrop, sstore, saug, sunpO, bnames, toD, evar, emv, p1, p2, d2, pvar, pcst, pcall, pcons, pnil, dcons, dnil, dcall, dlst, dtupO, dtup, dfrz, ofO, Res.bind, isFrz, allFrz, frz, frzs, ecall, aslot, aval, anil, argF, isAtom, fnF, maskF, tfP, tfD, tfand, tfor, tfnot, toB, pIsa, tyN, isaT, dand, dor, dnot, sbad, tyes, List.getElem?_cons_zero, List.getElem?_cons_succ, List.getElem?_nil, List.set_cons_zero, List.set_cons_succ, Option.bind, Option.map, Bool.false_eq_true, if_false, if_true, reduceIte, List.map_cons, List.map_nil, List.replicate, List.nil_append, List.cons_append, List.any_cons, List.any_nil, id_eq, Bool.or_false, Bool.or_true, Bool.not_false, Bool.not_true, Bool.and_true, Bool.and_false, Bool.true_and, Bool.false_and, t1, eq_ok, c1, n0, decide_true, decide_false, t2]
    · by_cases c2 : r1 < 5
      · obtain ⟨x, d2', x1, k2, t2⟩ := number_ok k1 (by unfold BIG; omega) w
        refine ⟨.int x, d2', .int x x1, k2.mono (by omega), ?_⟩
        simp (disch := omega) only [backF, List.length_cons, List.length_nil, Nat.reduceAdd, Nat.reduceLeDiff, Nat.zero_add, sseq, sif, sset, sret, sretv, sretn, spass, sbrk, scont, sdrop, sstore, saug, sunpO, bnames, toD, evar, emv, p1, p2, d2, pvar, pcst, pcall, pcons, pnil, dcons, dnil, dcall, dlst, dtupO, dtup, dfrz, ofO, Res.bind, isFrz, allFrz, frz, frzs, ecall, aslot, aval, anil, argF, isAtom, fnF, maskF, tfP, tfD, tfand, tfor, tfnot, toB, pIsa, tyN, isaT, dand, dor, dnot, sbad, tyes, List.getElem?_cons_zero, List.getElem?_cons_succ, List.getElem?_nil, List.set_cons_zero, List.set_cons_succ, Option.bind, Option.map, Bool.false_eq_true, if_false, if_true, reduceIte, List.map_cons, List.map_nil, List.replicate, List.nil_append, List.cons_append, List.any_cons, List.any_nil, id_eq, Bool.or_false, Bool.or_true, Bool.not_false, Bool.not_true, Bool.and_true, Bool.and_false, Bool.true_and, Bool.false_and, t1, eq_ok, c0, c1, lt_ok, c2, decide_true, decide_false, frz_WD, t2]
      · have hl := w.tl
        obtain ⟨r2, d2', a2, b2, k2, t2⟩ := take_ok k1 9 (by unfold BIG; omega)
        obtain ⟨x, x1, x2, _⟩ := atI_ok (ds := ts.map D.str) (i := r2) a2 (by rw [List.length_map, hl]; exact b2)
        obtain ⟨y, hy, rfl⟩ := List.mem_map.mp x1
        refine ⟨.str y, d2', .str y (w.tt y hy).1 (w.tt y hy).2, k2.mono (by omega), ?_⟩
        have hbl : bLen [.lst false (ts.map .str)] = some (.int 9) := by
          show some (D.int ((ts.map D.str).length : Nat)) = _
          rw [List.length_map, hl]; rfl
        simp (disch := omega) only [backF, List.length_cons, List.length_nil, Nat.reduceAdd, Nat.reduceLeDiff, Nat.zero_add, sseq, sif, sset, sret, sretv, sretn, spass, sbrk, scont, sdrop, sstore, saug, sunpO, bnames, toD, evar, emv, p1, p2, d2, pvar, pcst, pcall, pcons, pnil, dcons, dnil, dcall, dlst, dtupO, dtup, dfrz, ofO, Res.bind, isFrz, allFrz, frz, frzs, ecall, aslot, aval, anil, argF, isAtom, fnF, maskF, tfP, tfD, tfand, tfor, tfnot, toB, pIsa, tyN, isaT, dand, dor, dnot, sbad, tyes, List.getElem?_cons_zero, List.getElem?_cons_succ, List.getElem?_nil, List.set_cons_zero, List.set_cons_succ, Option.bind, Option.map, Bool.false_eq_true, if_false, if_true, reduceIte, List.map_cons, List.map_nil, List.replicate, List.nil_append, List.cons_append, List.any_cons, List.any_nil, id_eq, Bool.or_false, Bool.or_true, Bool.not_false, Bool.not_true, Bool.and_true, Bool.and_false, Bool.true_and, Bool.false_and, t1, eq_ok, c0, c1, lt_ok, c2, decide_true, decide_false, W_1, allFrz_str, hbl, t2, dix_ok x2 rfl]
end K79

namespace K79
open PySem L2 DL
theorem sseq_next {f g : SF} {e e1 : DL.Env} (h : f e = .next e1) : sseq f g e = g e1 := by unfold sseq; rw [h]
theorem sseq_ret {f g : SF} {e e1 : DL.Env} {x : D} (h : f e = .ret x e1) : sseq f g e = .ret x e1 := by unfold sseq; rw [h]
theorem fnF_ret {m : Nat} {bs : List Bool} {fb : SF} {ds : List D} {x : D} {e : DL.Env} (h : fb (ds.map some ++ List.replicate m none) = .ret x e) : fnF m bs fb ds = .ok (x, maskF bs e) := by
  unfold fnF; rw [h]
theorem Leaf.fz {x : D} (h : Leaf x) : isFrz x = true ∧ frz x = x ∧ isAtom x = true := by
  cases h <;> exact ⟨rfl, rfl, rfl⟩
/-- values, nested at most so deep -/
inductive VL : Nat → D → Prop
  | leaf {k : Nat} {x : D} (h : Leaf x) : VL k x
  | lst {k : Nat} {o : Bool} {xs : List D} (hl : xs.length ≤ 11) (hz : allFrz xs = true) (h : ∀ x ∈ xs, VL k x) : VL (k + 1) (.lst o xs)
  | dic {k : Nat} {o : Bool} {ks : List (List Nat)} {xs : List D} (hl : ks.length = xs.length) (hn : ks.Nodup) (h11 : ks.length ≤ 11) (hk : ∀ x ∈ ks, TX x ∧ x.length ≤ 60) (hz : allFrz xs = true) (h : ∀ x ∈ xs, VL k x) : VL (k + 1) (.dic o ks xs)
theorem VL.mono {k : Nat} {x : D} (h : VL k x) : ∀ {k' : Nat}, k ≤ k' → VL k' x := by
  induction h with
  | leaf h => intro k' _; exact .leaf h
  | lst hl hz h ih =>
    intro k' hk'
    obtain ⟨j, rfl⟩ : ∃ j, k' = j + 1 := ⟨k' - 1, by omega⟩
    exact .lst hl hz fun x hx => ih x hx (by omega)
  | dic hl hn h11 hk hz h ih =>
    intro k' hk'
    obtain ⟨j, rfl⟩ : ∃ j, k' = j + 1 := ⟨k' - 1, by omega⟩
    exact .dic hl hn h11 hk hz fun x hx => ih x hx (by omega)
theorem VL.fz {k : Nat} {x : D} (h : VL k x) : VL k (frz x) := by
  cases h with
  | leaf h => rw [h.fz.2.1]; exact .leaf h
  | lst hl hz h => rw [DL.frz, frzs_of _ hz]; exact .lst hl hz h
  | dic hl hn h11 hk hz h => rw [DL.frz, frzs_of _ hz]; exact .dic hl hn h11 hk hz h
def cst : Nat → Nat
  | 0 => 40
  | k + 1 => 20 + 11 * (cst k + 1)
theorem cst_le : ∀ {k k' : Nat}, k ≤ k' → cst k ≤ cst k' := by
  intro k k' h
  induction h with
  | refl => exact Nat.le_refl _
  | step h ih => exact Nat.le_trans ih (by rw [cst]; omega)
theorem cst_40 (k : Nat) : 40 ≤ cst k := cst_le (Nat.zero_le k)
def VOk (ns ts : List (List Nat)) (st sp : Int) (k n : Nat) : Prop := ∀ (b : Nat) (d : D) (way : Int), Dk b d → b + cst k + 3000 ≤ BIG → 0 ≤ way ∧ way ≤ 9 → ∃ x d', VL k x ∧ Dk (b + cst k) d' ∧ F_l_value n [d, WD false ns ts st sp, .int k, .int way] = .ok (x, [some d', none, none, none])
def DOk (ns ts : List (List Nat)) (st sp : Int) (k n : Nat) : Prop := ∀ (b : Nat) (d : D) (many : Nat), Dk b d → b + 11 * (cst k + 1) + 3000 ≤ BIG → many ≤ 11 → ∃ x d', VL (k + 1) x ∧ Dk (b + 11 * (cst k + 1)) d' ∧ F_l_dict n [d, WD false ns ts st sp, .int ((k + 1 : Nat) : Int), .int many] = .ok (x, [some d', none, none, none])
theorem putVal_end {k : List Nat} {d : D} : ∀ {ks : List (List Nat)} {ds : List D}, k ∉ ks → ks.length = ds.length → putVal k d ks ds = ds ++ [d]
  | [], [], _, _ => rfl
  | [], _ :: _, _, h => by cases h
  | _ :: _, [], _, h => by cases h
  | k0 :: ks, d0 :: ds, h, hl => by
    rw [putVal, if_neg fun e => h (by rw [e]; exact List.mem_cons_self), putVal_end (fun z => h (List.mem_cons_of_mem _ z)) (Nat.succ.inj hl)]
    rfl
theorem er_map {α β : Type} (f : α → β) : ∀ (l : List α) (i : Nat), (l.map f).eraseIdx i = (l.eraseIdx i).map f
  | [], i => by simp
  | x :: l, 0 => by simp
  | x :: l, i + 1 => by
    rw [List.map_cons, List.eraseIdx_cons_succ, List.eraseIdx_cons_succ, List.map_cons, er_map f l i]
theorem er_not {α : Type} : ∀ (l : List α) (i : Nat) (y : α), l.Nodup → l[i]? = some y → y ∉ l.eraseIdx i
  | [], i, y, _, h => by simp at h
  | x :: l, 0, y, hn, h => by
    have e : x = y := by simpa using h
    subst e
    exact (List.nodup_cons.mp hn).1
  | x :: l, i + 1, y, hn, h => by
    rw [List.eraseIdx_cons_succ]
    have h' : l[i]? = some y := by simpa using h
    have hy : y ∈ l := List.mem_of_getElem? h'
    intro z
    rcases List.mem_cons.mp z with z | z
    · exact (List.nodup_cons.mp hn).1 (by rw [← z]; exact hy)
    · exact er_not l i y (List.nodup_cons.mp hn).2 h' z
theorem er_len {α : Type} : ∀ (l : List α) (i : Nat), i < l.length → (l.eraseIdx i).length + 1 = l.length
  | [], i, h => absurd h (Nat.not_lt_zero i)
  | x :: l, 0, h => rfl
  | x :: l, i + 1, h => by
    rw [List.eraseIdx_cons_succ, List.length_cons, List.length_cons, er_len l i (Nat.lt_of_succ_lt_succ h)]
theorem er_mem {α : Type} : ∀ (l : List α) (i : Nat) (y : α), y ∈ l.eraseIdx i → y ∈ l
  | [], i, y, h => by simpa using h
  | x :: l, 0, y, h => List.mem_cons_of_mem _ h
  | x :: l, i + 1, y, h => by
    rw [List.eraseIdx_cons_succ] at h
    rcases List.mem_cons.mp h with z | z
    · rw [z]; exact List.mem_cons_self
    · exact List.mem_cons_of_mem _ (er_mem l i y z)
theorem er_nodup {α : Type} : ∀ (l : List α) (i : Nat), l.Nodup → (l.eraseIdx i).Nodup
  | [], i, h => by simpa using h
  | x :: l, 0, h => (List.nodup_cons.mp h).2
  | x :: l, i + 1, h => by
    rw [List.eraseIdx_cons_succ]
    exact List.nodup_cons.mpr ⟨fun z => (List.nodup_cons.mp h).1 (er_mem l i x z), er_nodup l i (List.nodup_cons.mp h).2⟩
theorem allFrz_app (xs ys : List D) : allFrz (xs ++ ys) = (allFrz xs && allFrz ys) := by
  rw [allFrz_eq, allFrz_eq, allFrz_eq, List.all_append]
theorem dict_step {ns ts : List (List Nat)} {st sp : Int} (w : WOk ns ts st sp) {k n : Nat} (hv : ∀ k', k' ≤ k → VOk ns ts st sp k' n) : DOk ns ts st sp k (n + 1) := by
  intro b d many hd hb hm
  unfold BIG at hb
  have c40 := cst_40 k
  rw [F_l_dict]
  -- the loop
  obtain ⟨e', q1, rem, ks, xs, d', o6, o7, i1, i2, i3, i4, i5, i6, i7, i8, i9, i10, i11⟩ := for_ind (bf := bname 6) (body := b_l_dict_1 F_l_take (F_l_value n))
    (fun i e => ∃ (rem ks : List (List Nat)) (xs : List D) (d' : D) (o6 o7 : Option D), i ≤ many ∧ rem.length + i = 11 ∧ ks.length = i ∧ xs.length = i ∧ ks.Nodup ∧ rem.Nodup ∧ (∀ x ∈ ks, TX x ∧ x.length ≤ 60) ∧ (∀ x ∈ rem, (TX x ∧ x.length ≤ 60) ∧ x ∉ ks) ∧ (allFrz xs = true ∧ ∀ x ∈ xs, VL k x) ∧ Dk (b + i * (cst k + 1)) d' ∧
      e = [some d', some (WD false ns ts st sp), some (.int ((k + 1 : Nat) : Int)), some (.int many), some (.lst true (rem.map .str)), some (.dic true ks xs), o6, o7]) (rngD 0 many) 0 (fun j d0 e hj ⟨rem, ks, xs, d', o6, o7, i1, i2, i3, i4, i5, i6, i7, i8, i9, i10, i11⟩ => by
      obtain ⟨rfl, hj2⟩ := rng_at hj
      subst i11
      have hjm : (0 + j) * (cst k + 1) + (cst k + 1) ≤ 11 * (cst k + 1) := by
        have := Nat.mul_le_mul_right (cst k + 1) (show 0 + j + 1 ≤ 11 by omega)
        rw [Nat.add_mul, Nat.one_mul] at this
        exact this
      obtain ⟨r1, d1, a1, b1, k1, t1⟩ := take_ok i10 (rem.length : Nat) (by unfold BIG; omega) (by omega)
      obtain ⟨nm, m1, m2, m3⟩ := atI_ok (ds := rem.map D.str) (i := r1) a1 (by rw [List.length_map]; exact b1)
      obtain ⟨y, hy, rfl⟩ := List.mem_map.mp m1
      have hdeep : ∃ k', k' ≤ k ∧ (if (k : Int) - (many : Int) / 7 > 0 then (k : Int) - (many : Int) / 7 else 0) = (k' : Int) := by
        by_cases hc : (k : Int) - (many : Int) / 7 > 0
        · rw [if_pos hc]; exact ⟨((k : Int) - (many : Int) / 7).toNat, by omega, by omega⟩
        · rw [if_neg hc]; exact ⟨0, by omega, rfl⟩
      obtain ⟨k', hk', hkd⟩ := hdeep
      have ck := cst_le hk'
      obtain ⟨x, d2', x1, x2, x3⟩ := hv k' hk' _ d1 9 k1 (by unfold BIG; omega) ⟨by decide, by decide⟩
      have hix : ixN (rem.map D.str).length r1 = some r1.toNat := ixN_ok a1 (by rw [List.length_map]; exact b1)
      have hlr : (rem.map D.str).length ≤ 1000000 := by rw [List.length_map]; omega
      have hlk : ks.length < 1000000 := by omega
      have hbl : bLen [.lst true (rem.map .str)] = some (.int (rem.length : Nat)) := by
        show some (D.int ((rem.map D.str).length : Nat)) = _
        rw [List.length_map]
      have he : (rem.map D.str).eraseIdx r1.toNat = (rem.eraseIdx r1.toNat).map D.str := er_map _ _ _
      have hry : rem[r1.toNat]? = some y := by
        rw [List.getElem?_map] at m3
        obtain ⟨y', h1, h2⟩ := Option.map_eq_some_iff.mp m3
        cases h2; exact h1
      have hrl := er_len rem r1.toNat (by omega)
      have hyk := (i8 y hy).2
      have hpk : putKey ks y = ks ++ [y] := by unfold putKey; rw [if_neg hyk]
      have hpv : putVal y (frz x) ks xs = xs ++ [frz x] := putVal_end hyk (by omega)
      have hmx : bMax2 [.int 0, .int ((k : Int) - (many : Int) / 7)] = some (.int (k' : Int)) := by
        show some (D.int (if (k : Int) - (many : Int) / 7 > 0 then (k : Int) - (many : Int) / 7 else 0)) = _
        rw [hkd]
      have hk1 : (((k + 1 : Nat) : Int) - 1) = (k : Int) := by omega
      refine ⟨_, [some d2', some (WD false ns ts st sp), some (.int ((k + 1 : Nat) : Int)), some (.int many), some (.lst true ((rem.eraseIdx r1.toNat).map .str)), some (.dic true (ks ++ [y]) (xs ++ [frz x])), some (.int (0 + (j : Int))), some (.str y)], rfl, ?_,
        rem.eraseIdx r1.toNat, ks ++ [y], xs ++ [frz x], d2', _, _, by omega, ?_, ?_, ?_, ?_, ?_, ?_, ?_, ⟨?_, ?_⟩, x2.mono ?_, rfl⟩
      · unfold b_l_dict_1
        simp (disch := omega) only [backF, List.length_cons, List.length_nil, Nat.reduceAdd, Nat.reduceLeDiff, Nat.zero_add, sseq, sif, sset, sret, sretv, sretn, spass, sbrk, scont, sdrop, sstore, saug, sunpO, bnames, toD, evar, emv, p1, p2, d2, pvar, pcst, pcall, pcons, pnil, dcons, dnil, dcall, dlst, dtupO, dtup, dfrz, ofO, Res.bind, isFrz, allFrz, frz, frzs, ecall, aslot, aval, anil, argF, isAtom, fnF, maskF, tfP, tfD, tfand, tfor, tfnot, toB, pIsa, tyN, isaT, dand, dor, dnot, sbad, tyes, List.getElem?_cons_zero, List.getElem?_cons_succ, List.getElem?_nil, List.set_cons_zero, List.set_cons_succ, Option.bind, Option.map, Bool.false_eq_true, if_false, if_true, reduceIte, List.map_cons, List.map_nil, List.replicate, List.nil_append, List.cons_append, List.any_cons, List.any_nil, id_eq, Bool.or_false, Bool.or_true, Bool.not_false, Bool.not_true, Bool.and_true, Bool.and_false, Bool.true_and, Bool.false_and, bname, mpopAt, hbl, t1, hix, m3, hlr, and_self, he, sdput, hlk, sub_ok, div_ok, hk1, hmx, frz_WD, x3, hpk, hpv]
      · omega
      · rw [List.length_append]; show ks.length + 1 = _; omega
      · rw [List.length_append]; show xs.length + 1 = _; omega
      · refine List.nodup_append.mpr ⟨i5, List.nodup_cons.mpr ⟨fun z => (by cases z), List.nodup_nil⟩, fun a ha b hb e => ?_⟩
        rw [List.mem_singleton.mp hb] at e
        exact hyk (by rw [← e]; exact ha)
      · exact er_nodup _ _ i6
      · intro z hz
        rcases List.mem_append.mp hz with q | q
        · exact i7 z q
        · rw [List.mem_singleton.mp q]; exact (i8 y hy).1
      · intro z hz
        have hzr := er_mem _ _ _ hz
        refine ⟨(i8 z hzr).1, fun q => ?_⟩
        rcases List.mem_append.mp q with q | q
        · exact (i8 z hzr).2 q
        · rw [List.mem_singleton.mp q] at hz
          exact er_not _ _ _ i6 hry hz
      · rw [allFrz_app, i9.1, allFrz, allFrz, isFrz_frz]; rfl
      · intro z hz
        rcases List.mem_append.mp hz with q | q
        · exact i9.2 z q
        · rw [List.mem_singleton.mp q]; exact (x1.mono hk').fz
      · have e : (0 + j + 1) * (cst k + 1) = (0 + j) * (cst k + 1) + (cst k + 1) := by rw [Nat.add_mul, Nat.one_mul]
        omega)
    [some d, some (WD false ns ts st sp), some (.int ((k + 1 : Nat) : Int)), some (.int many), some (.lst true (ns.map .str)), some (.dic true [] []), none, none] ⟨ns, [], [], d, none, none, by omega, by rw [w.nl], rfl, rfl, List.nodup_nil, w.nd, fun x hx => (by cases hx), fun x hx => ⟨⟨(w.nt x hx).1, by have := (w.nt x hx).2; omega⟩, fun z => (by cases z)⟩, ⟨rfl, fun x hx => (by cases hx)⟩, hd.mono (by omega), rfl⟩
  subst i11
  simp only [rng_len, Nat.zero_add] at i3 i4 i10
  have hmc := Nat.mul_le_mul_right (cst k + 1) hm
  refine ⟨.dic true ks xs, d', .dic (by omega) i5 (by omega) i7 i9.1 i9.2, i10.mono (by omega), ?_⟩
  have hr : rngOk (many : Int) := ⟨by omega, by omega⟩
  have hbl : bList [.lst false (ns.map .str)] = some (.lst true (ns.map .str)) := by
    show (if allFrz (ns.map D.str) = true then some (D.lst true (ns.map .str)) else none) = _
    rw [if_pos (allFrz_str ns)]
  unfold b_l_dict
  simp (disch := omega) only [backF, List.length_cons, List.length_nil, Nat.reduceAdd, Nat.reduceLeDiff, Nat.zero_add, sseq, sif, sset, sret, sretv, sretn, spass, sbrk, scont, sdrop, sstore, saug, sunpO, bnames, toD, evar, emv, p1, p2, d2, pvar, pcst, pcall, pcons, pnil, dcons, dnil, dcall, dlst, dtupO, dtup, dfrz, ofO, Res.bind, isFrz, allFrz, frz, frzs, ecall, aslot, aval, anil, argF, isAtom, fnF, maskF, tfP, tfD, tfand, tfor, tfnot, toB, pIsa, tyN, isaT, dand, dor, dnot, sbad, tyes, List.getElem?_cons_zero, List.getElem?_cons_succ, List.getElem?_nil, List.set_cons_zero, List.set_cons_succ, Option.bind, Option.map, Bool.false_eq_true, if_false, if_true, reduceIte, List.map_cons, List.map_nil, List.replicate, List.nil_append, List.cons_append, List.any_cons, List.any_nil, id_eq, Bool.or_false, Bool.or_true, Bool.not_false, Bool.not_true, Bool.and_true, Bool.and_false, Bool.true_and, Bool.false_and, W_0, allFrz_str, hbl, ddic0, sfor, srcR1d, hr, Int.toNat_natCast, q1]
theorem value_step {ns ts : List (List Nat)} {st sp : Int} (w : WOk ns ts st sp) {k n : Nat} (hv : ∀ j, k = j + 1 → VOk ns ts st sp j n ∧ DOk ns ts st sp j n) : VOk ns ts st sp k (n + 1) := by
  intro b d way hd hb hw
  unfold BIG at hb
  have c40 := cst_40 k
  rw [F_l_value]
  -- the way
  obtain ⟨way', d1, b1, h1, h2, h3, h4, h5⟩ : ∃ (way' : Int) (d1 : D) (b1 : Nat), 0 ≤ way' ∧ way' ≤ 8 ∧ b1 ≤ b + 1 ∧ Dk b1 d1 ∧ (sif (tfP (p2 pEq (pvar 3) (pcst (.int 9)))) (sset 3 (ecall F_l_take [true, false] (aslot 0 (aval (toD (pcst (.int 9))) (anil))))) (spass)) [some d, some (WD false ns ts st sp), some (.int (k : Int)), some (.int way), none, none] = .next [some d1, some (WD false ns ts st sp), some (.int (k : Int)), some (.int way'), none, none] := by
    by_cases c : way = 9
    · obtain ⟨r1, d1, a1, b1, k1, t1⟩ := take_ok hd 9 (by unfold BIG; omega)
      refine ⟨r1, d1, b + 1, a1, by omega, Nat.le_refl _, k1, ?_⟩
      simp (disch := omega) only [backF, List.length_cons, List.length_nil, Nat.reduceAdd, Nat.reduceLeDiff, Nat.zero_add, sseq, sif, sset, sret, sretv, sretn, spass, sbrk, scont, sdrop, sstore, saug, sunpO, bnames, toD, evar, emv, p1, p2, d2, pvar, pcst, pcall, pcons, pnil, dcons, dnil, dcall, dlst, dtupO, dtup, dfrz, ofO, Res.bind, isFrz, allFrz, frz, frzs, ecall, aslot, aval, anil, argF, isAtom, fnF, maskF, tfP, tfD, tfand, tfor, tfnot, toB, pIsa, tyN, isaT, dand, dor, dnot, sbad, tyes, List.getElem?_cons_zero, List.getElem?_cons_succ, List.getElem?_nil, List.set_cons_zero, List.set_cons_succ, Option.bind, Option.map, Bool.false_eq_true, if_false, if_true, reduceIte, List.map_cons, List.map_nil, List.replicate, List.nil_append, List.cons_append, List.any_cons, List.any_nil, id_eq, Bool.or_false, Bool.or_true, Bool.not_false, Bool.not_true, Bool.and_true, Bool.and_false, Bool.true_and, Bool.false_and, eq_ok, c, decide_true, t1]
    · refine ⟨way, d, b, hw.1, by omega, by omega, hd, ?_⟩
      simp (disch := omega) only [backF, List.length_cons, List.length_nil, Nat.reduceAdd, Nat.reduceLeDiff, Nat.zero_add, sseq, sif, sset, sret, sretv, sretn, spass, sbrk, scont, sdrop, sstore, saug, sunpO, bnames, toD, evar, emv, p1, p2, d2, pvar, pcst, pcall, pcons, pnil, dcons, dnil, dcall, dlst, dtupO, dtup, dfrz, ofO, Res.bind, isFrz, allFrz, frz, frzs, ecall, aslot, aval, anil, argF, isAtom, fnF, maskF, tfP, tfD, tfand, tfor, tfnot, toB, pIsa, tyN, isaT, dand, dor, dnot, sbad, tyes, List.getElem?_cons_zero, List.getElem?_cons_succ, List.getElem?_nil, List.set_cons_zero, List.set_cons_succ, Option.bind, Option.map, Bool.false_eq_true, if_false, if_true, reduceIte, List.map_cons, List.map_nil, List.replicate, List.nil_append, List.cons_append, List.any_cons, List.any_nil, id_eq, Bool.or_false, Bool.or_true, Bool.not_false, Bool.not_true, Bool.and_true, Bool.and_false, Bool.true_and, Bool.false_and, eq_ok, c, decide_false]
  by_cases c1 : k = 0 ∨ way' < 4
  · obtain ⟨x, d2', x1, x2, x3⟩ := leaf_ok h4 (by unfold BIG; omega) w
    refine ⟨x, d2', .leaf x1, x2.mono (by omega), fnF_ret (e := [some d2', some (WD false ns ts st sp), some (.int (k : Int)), some (.int way'), none, none]) ?_⟩
    show b_l_value _ _ _ _ [some d, some (WD false ns ts st sp), some (.int (k : Int)), some (.int way), none, none] = _
    unfold b_l_value
    rw [sseq_next h5]
    refine sseq_ret ?_
    by_cases c2 : (k : Int) = 0
    · simp (disch := omega) only [backF, List.length_cons, List.length_nil, Nat.reduceAdd, Nat.reduceLeDiff, Nat.zero_add, sseq, sif, sset, sret, sretv, sretn, spass, sbrk, scont, sdrop, sstore, saug, sunpO, bnames, toD, evar, emv, p1, p2, d2, pvar, pcst, pcall, pcons, pnil, dcons, dnil, dcall, dlst, dtupO, dtup, dfrz, ofO, Res.bind, isFrz, allFrz, frz, frzs, ecall, aslot, aval, anil, argF, isAtom, fnF, maskF, tfP, tfD, tfand, tfor, tfnot, toB, pIsa, tyN, isaT, dand, dor, dnot, sbad, tyes, List.getElem?_cons_zero, List.getElem?_cons_succ, List.getElem?_nil, List.set_cons_zero, List.set_cons_succ, Option.bind, Option.map, Bool.false_eq_true, if_false, if_true, reduceIte, List.map_cons, List.map_nil, List.replicate, List.nil_append, List.cons_append, List.any_cons, List.any_nil, id_eq, Bool.or_false, Bool.or_true, Bool.not_false, Bool.not_true, Bool.and_true, Bool.and_false, Bool.true_and, Bool.false_and, eq_ok, c2, decide_true, frz_WD, x3]
    · have c3 : way' < 4 := by omega
      simp (disch := omega) only [backF, List.length_cons, List.length_nil, Nat.reduceAdd, Nat.reduceLeDiff, Nat.zero_add, sseq, sif, sset, sret, sretv, sretn, spass, sbrk, scont, sdrop, sstore, saug, sunpO, bnames, toD, evar, emv, p1, p2, d2, pvar, pcst, pcall, pcons, pnil, dcons, dnil, dcall, dlst, dtupO, dtup, dfrz, ofO, Res.bind, isFrz, allFrz, frz, frzs, ecall, aslot, aval, anil, argF, isAtom, fnF, maskF, tfP, tfD, tfand, tfor, tfnot, toB, pIsa, tyN, isaT, dand, dor, dnot, sbad, tyes, List.getElem?_cons_zero, List.getElem?_cons_succ, List.getElem?_nil, List.set_cons_zero, List.set_cons_succ, Option.bind, Option.map, Bool.false_eq_true, if_false, if_true, reduceIte, List.map_cons, List.map_nil, List.replicate, List.nil_append, List.cons_append, List.any_cons, List.any_nil, id_eq, Bool.or_false, Bool.or_true, Bool.not_false, Bool.not_true, Bool.and_true, Bool.and_false, Bool.true_and, Bool.false_and, eq_ok, c2, lt_ok, c3, decide_true, decide_false, frz_WD, x3]
  · obtain ⟨j, rfl⟩ : ∃ j, k = j + 1 := ⟨k - 1, by omega⟩
    obtain ⟨hV, hD⟩ := hv j rfl
    rw [cst] at hb
    have c2 : ¬ ((j + 1 : Nat) : Int) = 0 := by omega
    have c3 : ¬ way' < 4 := by omega
    have cj := cst_40 j
    obtain ⟨r2, d2', a2, b2, k2, t2⟩ := take_ok h4 8 (by unfold BIG; omega)
    obtain ⟨mo, m1, m2, _⟩ := atI_ok (ds := [D.int 0, .int 1, .int 2, .int 3, .int 2, .int 1, .int 4, .int 6]) (i := r2) a2 b2
    obtain ⟨many, hm, hm1⟩ : ∃ z : Nat, mo = .int (z : Int) ∧ z ≤ 6 := by
      simp only [List.mem_cons, List.not_mem_nil, or_false] at m1
      rcases m1 with rfl | rfl | rfl | rfl | rfl | rfl | rfl | rfl
      · exact ⟨0, rfl, by decide⟩
      · exact ⟨1, rfl, by decide⟩
      · exact ⟨2, rfl, by decide⟩
      · exact ⟨3, rfl, by decide⟩
      · exact ⟨2, rfl, by decide⟩
      · exact ⟨1, rfl, by decide⟩
      · exact ⟨4, rfl, by decide⟩
      · exact ⟨6, rfl, by decide⟩
    subst hm
    have hk1 : (((j + 1 : Nat) : Int) - 1) = (j : Int) := by omega
    by_cases c4 : way' < 6
    · -- a list
      obtain ⟨xs, e', q1, d', i1, i2, i3, i4, i5⟩ := comp_ind (bf := bname 5) (elt := b_l_value_1 (F_l_value n)) (vs := [5])
        (fun i acc e => ∃ d', i ≤ 6 ∧ acc.length = i ∧ (allFrz acc = true ∧ ∀ x ∈ acc, VL j x) ∧ Dk (b1 + 1 + i * cst j) d' ∧ e = [some d', some (WD false ns ts st sp), some (.int ((j + 1 : Nat) : Int)), some (.int way'), some (.int (many : Int)), none]) (rngD 0 many) 0 [] (fun i d0 acc e hj ⟨d', i1, i2, i3, i4, i5⟩ => by
          obtain ⟨rfl, hj2⟩ := rng_at hj
          subst i5
          have hjm : (0 + i) * cst j + cst j ≤ 6 * cst j := by
            have := Nat.mul_le_mul_right (cst j) (show 0 + i + 1 ≤ 6 by omega)
            rw [Nat.add_mul, Nat.one_mul] at this
            exact this
          obtain ⟨x, d3, x1, x2, x3⟩ := hV _ d' 9 i4 (by unfold BIG; omega) ⟨by decide, by decide⟩
          refine ⟨_, x, [some d3, some (WD false ns ts st sp), some (.int ((j + 1 : Nat) : Int)), some (.int way'), some (.int (many : Int)), some (.int (0 + (i : Int)))], rfl, ?_, d3, by omega, ?_, ⟨?_, ?_⟩, x2.mono ?_, rfl⟩
          · unfold b_l_value_1
            simp (disch := omega) only [backF, List.length_cons, List.length_nil, Nat.reduceAdd, Nat.reduceLeDiff, Nat.zero_add, sseq, sif, sset, sret, sretv, sretn, spass, sbrk, scont, sdrop, sstore, saug, sunpO, bnames, toD, evar, emv, p1, p2, d2, pvar, pcst, pcall, pcons, pnil, dcons, dnil, dcall, dlst, dtupO, dtup, dfrz, ofO, Res.bind, isFrz, allFrz, frz, frzs, ecall, aslot, aval, anil, argF, isAtom, fnF, maskF, tfP, tfD, tfand, tfor, tfnot, toB, pIsa, tyN, isaT, dand, dor, dnot, sbad, tyes, List.getElem?_cons_zero, List.getElem?_cons_succ, List.getElem?_nil, List.set_cons_zero, List.set_cons_succ, Option.bind, Option.map, Bool.false_eq_true, if_false, if_true, reduceIte, List.map_cons, List.map_nil, List.replicate, List.nil_append, List.cons_append, List.any_cons, List.any_nil, id_eq, Bool.or_false, Bool.or_true, Bool.not_false, Bool.not_true, Bool.and_true, Bool.and_false, Bool.true_and, Bool.false_and, bname, sub_ok, hk1, frz_WD, x3]
          · rw [List.length_append]; show acc.length + 1 = _; omega
          · rw [allFrz_app, i3.1, allFrz, allFrz, isFrz_frz]; rfl
          · intro z hz
            rcases List.mem_append.mp hz with q | q
            · exact i3.2 z q
            · rw [List.mem_singleton.mp q]; exact x1.fz
          · have e : (0 + i + 1) * cst j = (0 + i) * cst j + cst j := by rw [Nat.add_mul, Nat.one_mul]
            omega)
        [some d2', some (WD false ns ts st sp), some (.int ((j + 1 : Nat) : Int)), some (.int way'), some (.int (many : Int)), none] ⟨d2', by omega, rfl, ⟨rfl, fun x hx => (by cases hx)⟩, k2.mono (by omega), rfl⟩
      subst i5
      simp only [rng_len, Nat.zero_add] at i2 i4
      rw [List.nil_append] at i2 i3
      have hmc := Nat.mul_le_mul_right (cst j) hm1
      refine ⟨.lst true xs, d', .lst (by omega) i3.1 i3.2, i4.mono (by rw [cst]; omega), fnF_ret (e := [some d', some (WD false ns ts st sp), some (.int ((j + 1 : Nat) : Int)), some (.int way'), some (.int (many : Int)), none]) ?_⟩
      show b_l_value _ _ _ _ [some d, some (WD false ns ts st sp), some (.int ((j + 1 : Nat) : Int)), some (.int way), none, none] = _
      unfold b_l_value
      rw [sseq_next h5]
      have hr : rngOk (many : Int) := ⟨by omega, by omega⟩
      have hl : (rngD 0 many).length ≤ 1000000 := by rw [rng_len]; omega
      simp (disch := omega) only [backF, List.length_cons, List.length_nil, Nat.reduceAdd, Nat.reduceLeDiff, Nat.zero_add, sseq, sif, sset, sret, sretv, sretn, spass, sbrk, scont, sdrop, sstore, saug, sunpO, bnames, toD, evar, emv, p1, p2, d2, pvar, pcst, pcall, pcons, pnil, dcons, dnil, dcall, dlst, dtupO, dtup, dfrz, ofO, Res.bind, isFrz, allFrz, frz, frzs, ecall, aslot, aval, anil, argF, isAtom, fnF, maskF, tfP, tfD, tfand, tfor, tfnot, toB, pIsa, tyN, isaT, dand, dor, dnot, sbad, tyes, List.getElem?_cons_zero, List.getElem?_cons_succ, List.getElem?_nil, List.set_cons_zero, List.set_cons_succ, Option.bind, Option.map, Bool.false_eq_true, if_false, if_true, reduceIte, List.map_cons, List.map_nil, List.replicate, List.nil_append, List.cons_append, List.any_cons, List.any_nil, id_eq, Bool.or_false, Bool.or_true, Bool.not_false, Bool.not_true, Bool.and_true, Bool.and_false, Bool.true_and, Bool.false_and, eq_ok, c2, lt_ok, c3, c4, decide_true, decide_false, t2, dix_ok m2 rfl, dcomp, srcR1d, hr, Int.toNat_natCast, compR, hl, wipeE, q1]
    · -- a dict
      obtain ⟨r3, d3, a3, b3, k3, t3⟩ := take_ok k2 6 (by unfold BIG; omega)
      by_cases c5 : r3 = 5
      · obtain ⟨r4, d4, a4, b4, k4, t4⟩ := take_ok k3 4 (by unfold BIG; omega)
        obtain ⟨x, d5, x1, x2, x3⟩ := hD _ d4 (8 + r4).toNat k4 (by unfold BIG; omega) (by omega)
        have e8 : (((8 + r4).toNat : Nat) : Int) = 8 + r4 := by omega
        rw [e8] at x3
        refine ⟨x, d5, x1, x2.mono (by rw [cst]; omega), fnF_ret (e := [some d5, some (WD false ns ts st sp), some (.int ((j + 1 : Nat) : Int)), some (.int way'), some (.int (8 + r4)), none]) ?_⟩
        show b_l_value _ _ _ _ [some d, some (WD false ns ts st sp), some (.int ((j + 1 : Nat) : Int)), some (.int way), none, none] = _
        unfold b_l_value
        rw [sseq_next h5]
        simp (disch := omega) only [backF, List.length_cons, List.length_nil, Nat.reduceAdd, Nat.reduceLeDiff, Nat.zero_add, sseq, sif, sset, sret, sretv, sretn, spass, sbrk, scont, sdrop, sstore, saug, sunpO, bnames, toD, evar, emv, p1, p2, d2, pvar, pcst, pcall, pcons, pnil, dcons, dnil, dcall, dlst, dtupO, dtup, dfrz, ofO, Res.bind, isFrz, allFrz, frz, frzs, ecall, aslot, aval, anil, argF, isAtom, fnF, maskF, tfP, tfD, tfand, tfor, tfnot, toB, pIsa, tyN, isaT, dand, dor, dnot, sbad, tyes, List.getElem?_cons_zero, List.getElem?_cons_succ, List.getElem?_nil, List.set_cons_zero, List.set_cons_succ, Option.bind, Option.map, Bool.false_eq_true, if_false, if_true, reduceIte, List.map_cons, List.map_nil, List.replicate, List.nil_append, List.cons_append, List.any_cons, List.any_nil, id_eq, Bool.or_false, Bool.or_true, Bool.not_false, Bool.not_true, Bool.and_true, Bool.and_false, Bool.true_and, Bool.false_and, eq_ok, c2, lt_ok, c3, c4, c5, decide_true, decide_false, t2, dix_ok m2 rfl, t3, t4, addA_ok, frz_WD, x3]
      · obtain ⟨x, d5, x1, x2, x3⟩ := hD _ d3 many k3 (by unfold BIG; omega) (by omega)
        refine ⟨x, d5, x1, x2.mono (by rw [cst]; omega), fnF_ret (e := [some d5, some (WD false ns ts st sp), some (.int ((j + 1 : Nat) : Int)), some (.int way'), some (.int (many : Int)), none]) ?_⟩
        show b_l_value _ _ _ _ [some d, some (WD false ns ts st sp), some (.int ((j + 1 : Nat) : Int)), some (.int way), none, none] = _
        unfold b_l_value
        rw [sseq_next h5]
        simp (disch := omega) only [backF, List.length_cons, List.length_nil, Nat.reduceAdd, Nat.reduceLeDiff, Nat.zero_add, sseq, sif, sset, sret, sretv, sretn, spass, sbrk, scont, sdrop, sstore, saug, sunpO, bnames, toD, evar, emv, p1, p2, d2, pvar, pcst, pcall, pcons, pnil, dcons, dnil, dcall, dlst, dtupO, dtup, dfrz, ofO, Res.bind, isFrz, allFrz, frz, frzs, ecall, aslot, aval, anil, argF, isAtom, fnF, maskF, tfP, tfD, tfand, tfor, tfnot, toB, pIsa, tyN, isaT, dand, dor, dnot, sbad, tyes, List.getElem?_cons_zero, List.getElem?_cons_succ, List.getElem?_nil, List.set_cons_zero, List.set_cons_succ, Option.bind, Option.map, Bool.false_eq_true, if_false, if_true, reduceIte, List.map_cons, List.map_nil, List.replicate, List.nil_append, List.cons_append, List.any_cons, List.any_nil, id_eq, Bool.or_false, Bool.or_true, Bool.not_false, Bool.not_true, Bool.and_true, Bool.and_false, Bool.true_and, Bool.false_and, eq_ok, c2, lt_ok, c3, c4, c5, decide_true, decide_false, t2, dix_ok m2 rfl, t3, frz_WD, x3]
theorem value_ok {ns ts : List (List Nat)} {st sp : Int} (w : WOk ns ts st sp) : ∀ (K : Nat) (k : Nat), k ≤ K → ∀ n, 2 * k + 1 ≤ n → VOk ns ts st sp k n
  | 0, k, hk, n, hn => by
    obtain ⟨m, rfl⟩ : ∃ m, n = m + 1 := ⟨n - 1, by omega⟩
    exact value_step w fun j e => by omega
  | K + 1, k, hk, n, hn => by
    obtain ⟨m, rfl⟩ : ∃ m, n = m + 1 := ⟨n - 1, by omega⟩
    refine value_step w fun j e => ?_
    subst e
    obtain ⟨m', rfl⟩ : ∃ m', m = m' + 1 := ⟨m - 1, by omega⟩
    exact ⟨value_ok w K j (by omega) _ (by omega), dict_step w fun k' hk' => value_ok w K k' (by omega) _ (by omega)⟩
end K79

namespace K79
open PySem PySem.NumText PySem.Builtin PyProof.Rows L2 DL
/-! ### samples, the deck -/
theorem samples_ok {b : Nat} {d : D} (h : Dk b d) (hb : b + 1000000 ≤ BIG) {ns ts : List (List Nat)} {st sp : Int} (w : WOk ns ts st sp) (o : Bool) (n : Nat) (hn : 7 ≤ n) (many : Nat) (hm : many ≤ 6) :
    ∃ xs d', xs.length = many ∧ allFrz xs = true ∧ (∀ x ∈ xs, VL 3 x) ∧ F_l_samples n [d, WD false ns ts st sp, .int many] = .ok (.lst true xs, [some d', none, none]) := by
  unfold BIG at hb
  have c3 : cst 3 = 57363 := by decide
  obtain ⟨r1, d1, a1, b1, k1, t1⟩ := take_ok h 6 (by unfold BIG; omega)
  obtain ⟨wo, m1, m2, _⟩ := atI_ok (ds := [D.int 9, .int 9, .int 1, .int 5, .int 7, .int 8]) (i := r1) a1 b1
  obtain ⟨way, hw, w1, w2⟩ : ∃ z : Int, wo = .int z ∧ 0 ≤ z ∧ z ≤ 9 := by
    simp only [List.mem_cons, List.not_mem_nil, or_false] at m1
    rcases m1 with rfl | rfl | rfl | rfl | rfl | rfl <;> exact ⟨_, rfl, by decide, by decide⟩
  subst hw
  obtain ⟨r2, d2', a2, b2, k2, t2⟩ := take_ok k1 4 (by unfold BIG; omega)
  obtain ⟨dp, g1, g2, _⟩ := atI_ok (ds := [D.int 2, .int 2, .int 1, .int 3]) (i := r2) a2 b2
  obtain ⟨deep, hd, e1⟩ : ∃ z : Nat, dp = .int (z : Int) ∧ z ≤ 3 := by
    simp only [List.mem_cons, List.not_mem_nil, or_false] at g1
    rcases g1 with rfl | rfl | rfl | rfl
    · exact ⟨2, rfl, by decide⟩
    · exact ⟨2, rfl, by decide⟩
    · exact ⟨1, rfl, by decide⟩
    · exact ⟨3, rfl, by decide⟩
  subst hd
  have cd := cst_le e1
  rw [c3] at cd
  obtain ⟨xs, e', q1, d', i1, i2, i3, i4, i5⟩ := comp_ind (bf := bname 5) (elt := b_l_samples_1 (F_l_value n)) (vs := [5])
    (fun i acc e => ∃ d', i ≤ 6 ∧ acc.length = i ∧ (allFrz acc = true ∧ ∀ x ∈ acc, VL 3 x) ∧ Dk (b + 2 + i * 57363) d' ∧ e = [some d', some (WD false ns ts st sp), some (.int (many : Int)), some (.int way), some (.int (deep : Int)), none]) (rngD 0 many) 0 [] (fun i d0 acc e hj ⟨d', i1, i2, i3, i4, i5⟩ => by
      obtain ⟨rfl, hj2⟩ := rng_at hj
      subst i5
      obtain ⟨x, d3, x1, x2, x3⟩ := value_ok w 3 deep e1 n (by omega) _ d' way i4 (by unfold BIG; omega) ⟨w1, w2⟩
      refine ⟨_, x, [some d3, some (WD false ns ts st sp), some (.int (many : Int)), some (.int way), some (.int (deep : Int)), some (.int (0 + (i : Int)))], rfl, ?_, d3, by omega, ?_, ⟨?_, ?_⟩, x2.mono (by omega), rfl⟩
      · unfold b_l_samples_1
        simp (disch := omega) only [backF, List.length_cons, List.length_nil, Nat.reduceAdd, Nat.reduceLeDiff, Nat.zero_add, sseq, sif, sset, sret, sretv, sretn, spass, sbrk, scont, sdrop, sstore, saug, sunpO, bnames, toD, evar, emv, p1, p2, d2, pvar, pcst, pcall, pcons, pnil, dcons, dnil, dcall, dlst, dtupO, dtup, dfrz, ofO, Res.bind, isFrz, allFrz, frz, frzs, ecall, aslot, aval, anil, argF, isAtom, fnF, maskF, tfP, tfD, tfand, tfor, tfnot, toB, pIsa, tyN, isaT, dand, dor, dnot, sbad, tyes, List.getElem?_cons_zero, List.getElem?_cons_succ, List.getElem?_nil, List.set_cons_zero, List.set_cons_succ, Option.bind, Option.map, Bool.false_eq_true, if_false, if_true, reduceIte, List.map_cons, List.map_nil, List.replicate, List.nil_append, List.cons_append, List.any_cons, List.any_nil, id_eq, Bool.or_false, Bool.or_true, Bool.not_false, Bool.not_true, Bool.and_true, Bool.and_false, Bool.true_and, Bool.false_and, bname, frz_WD, x3]
      · rw [List.length_append]; show acc.length + 1 = _; omega
      · rw [allFrz_app, i3.1, allFrz, allFrz, isFrz_frz]; rfl
      · intro z hz
        rcases List.mem_append.mp hz with q | q
        · exact i3.2 z q
        · rw [List.mem_singleton.mp q]; exact (x1.mono e1).fz)
    [some d2', some (WD false ns ts st sp), some (.int (many : Int)), some (.int way), some (.int (deep : Int)), none] ⟨d2', by omega, rfl, ⟨rfl, fun x hx => (by cases hx)⟩, k2.mono (by omega), rfl⟩
  subst i5
  simp only [rng_len, Nat.zero_add] at i2 i4
  rw [List.nil_append] at i2 i3
  refine ⟨xs, d', i2, i3.1, i3.2, ?_⟩
  unfold F_l_samples b_l_samples
  have hr : rngOk (many : Int) := ⟨by omega, by omega⟩
  have hl : (rngD 0 many).length ≤ 1000000 := by rw [rng_len]; omega
  simp (disch := omega) only [backF, List.length_cons, List.length_nil, Nat.reduceAdd, Nat.reduceLeDiff, Nat.zero_add, sseq, sif, sset, sret, sretv, sretn, spass, sbrk, scont, sdrop, sstore, saug, sunpO, bnames, toD, evar, emv, p1, p2, d2, pvar, pcst, pcall, pcons, pnil, dcons, dnil, dcall, dlst, dtupO, dtup, dfrz, ofO, Res.bind, isFrz, allFrz, frz, frzs, ecall, aslot, aval, anil, argF, isAtom, fnF, maskF, tfP, tfD, tfand, tfor, tfnot, toB, pIsa, tyN, isaT, dand, dor, dnot, sbad, tyes, List.getElem?_cons_zero, List.getElem?_cons_succ, List.getElem?_nil, List.set_cons_zero, List.set_cons_succ, Option.bind, Option.map, Bool.false_eq_true, if_false, if_true, reduceIte, List.map_cons, List.map_nil, List.replicate, List.nil_append, List.cons_append, List.any_cons, List.any_nil, id_eq, Bool.or_false, Bool.or_true, Bool.not_false, Bool.not_true, Bool.and_true, Bool.and_false, Bool.true_and, Bool.false_and, t1, dix_ok m2 rfl, t2, dix_ok g2 rfl, dcomp, srcR1d, hr, Int.toNat_natCast, compR, hl, wipeE, q1]
theorem deck_ok (ns : List Int) (h : ns.length ≤ 63) : ∃ d, Dk 0 d ∧ F_l_deck [.scr ns] = .ok (d, [none]) := by
  refine ⟨deckD ns.reverse (ns.sum + 7 * (ns.length : Nat)) 0, ⟨ns.reverse, _, 0, rfl, by rw [List.length_reverse]; omega, by decide, by decide⟩, ?_⟩
  have e1 : dSl (.scr ns) none (some 63) = some (.lst true (ns.map .int)) := by
    show some (D.lst true ((cutL ns none (some ((63 : Nat) : Int))).map .int)) = _
    rw [cutL_to, List.take_of_length_le h]
  have e2 : bList [.lst true (ns.map .int)] = some (.lst true (ns.map .int)) := by
    show (if allFrz (ns.map D.int) = true then some (D.lst true (ns.map .int)) else none) = _
    rw [if_pos (allFrz_int ns)]
  have e3 : bSum [.lst false (ns.map .int)] = some (.int ns.sum) := by
    show (intsOf (ns.map D.int)).map (fun ns => D.int ns.sum) = _
    rw [intsOf_of]; rfl
  have e4 : bLen [.lst false (ns.map .int)] = some (.int (ns.length : Nat)) := by
    show some (D.int ((ns.map D.int).length : Nat)) = _
    rw [List.length_map]
  unfold F_l_deck b_l_deck deckD
  simp (disch := omega) only [backF, List.length_cons, List.length_nil, Nat.reduceAdd, Nat.reduceLeDiff, Nat.zero_add, sseq, sif, sset, sret, sretv, sretn, spass, sbrk, scont, sdrop, sstore, saug, sunpO, bnames, toD, evar, emv, p1, p2, d2, pvar, pcst, pcall, pcons, pnil, dcons, dnil, dcall, dlst, dtupO, dtup, dfrz, ofO, Res.bind, isFrz, allFrz, frz, frzs, ecall, aslot, aval, anil, argF, isAtom, fnF, maskF, tfP, tfD, tfand, tfor, tfnot, toB, pIsa, tyN, isaT, dand, dor, dnot, sbad, tyes, List.getElem?_cons_zero, List.getElem?_cons_succ, List.getElem?_nil, List.set_cons_zero, List.set_cons_succ, Option.bind, Option.map, Bool.false_eq_true, if_false, if_true, reduceIte, List.map_cons, List.map_nil, List.replicate, List.nil_append, List.cons_append, List.any_cons, List.any_nil, id_eq, Bool.or_false, Bool.or_true, Bool.not_false, Bool.not_true, Bool.and_true, Bool.and_false, Bool.true_and, Bool.false_and, dsl, oNone, oSome, e1, e2, drev, frzs_int, allFrz_int, e3, e4, mul_ok, add_ok, List.map_reverse]
/-! ### numbers as texts -/
def dg (m : Nat) : List Nat := (Nat.toDigits 10 m).map Char.toNat
theorem dg_all (m : Nat) : AllDigits (dg m) := fun c hc => by
  obtain ⟨ch, hch, e⟩ := List.mem_map.mp hc
  rw [← e]
  exact PyProof.Rows.digit_range (Nat.isDigit_of_mem_toDigits (by decide) (by decide) hch)
theorem dg_ne (m : Nat) : dg m ≠ [] := fun e => by
  have h := toDigits_len_ge 10 m
  rw [List.map_eq_nil_iff.mp e] at h
  exact absurd h (by decide)
theorem showI_pos (m : Nat) : showI (m : Int) = dg m := PySem.W.KIN.signs_num m
theorem showI_neg (m : Nat) : showI (Int.negSucc m) = 45 :: dg (m + 1) := by
  unfold showI
  show (Str.ofString (toString (Int.negSucc m))).cps.toList = _
  rw [PyProof.Rows.signs_ofString]
  have e : toString (Int.negSucc m) = "-" ++ Nat.repr (m + 1) := rfl
  rw [e, String.toList_append, List.map_append, Nat.toList_repr]
  rfl
theorem showI_len {i : Int} (h : i.natAbs < 10 ^ 61) : (showI i).length ≤ 62 := by
  have := int_text_length_le10 (k := 61) (by decide) h
  unfold showI
  show (Str.ofString (toString i)).cps.toList.length ≤ _
  rw [PyProof.Rows.signs_ofString, List.length_map]
  rw [String.length_toList]
  omega
/-- minus or nothing, then digits -/
theorem showI_form (i : Int) : ∃ ds, AllDigits ds ∧ ds ≠ [] ∧ ((showI i = ds ∧ i = (digitsVal ds : Nat)) ∨ (showI i = 45 :: ds ∧ i = -((digitsVal ds : Nat) : Int))) := by
  cases i with
  | ofNat m => exact ⟨dg m, dg_all m, dg_ne m, .inl ⟨showI_pos m, by show (m : Int) = _; rw [show digitsVal (dg m) = m from PySem.W.KIN.val_back m]⟩⟩
  | negSucc m => exact ⟨dg (m + 1), dg_all _, dg_ne _, .inr ⟨showI_neg m, by rw [show digitsVal (dg (m + 1)) = m + 1 from PySem.W.KIN.val_back _]; rfl⟩⟩
theorem log_ok {i : Int} (h : i.natAbs < 10 ^ 61) : i.natAbs.log2 < 1920 := by
  have := lg_lt (n := i.natAbs) (Nat.lt_of_lt_of_le h (by omega))
  omega
theorem bStr_ok {i : Int} (h : i.natAbs < 10 ^ 61) : bStr [.int i] = some (.str (showI i)) := by
  show (if i.natAbs.log2 < 1920 then some (D.str (showI i)) else none) = _
  rw [if_pos (log_ok h)]
/-! ### quoting -/
def dbl : List Nat → List Nat
  | [] => []
  | c :: x => if c = 34 then 34 :: 34 :: dbl x else c :: dbl x
def qt (x : List Nat) : List Nat := 34 :: (dbl x ++ [34])
theorem dbl_len : ∀ x : List Nat, (dbl x).length ≤ 2 * x.length
  | [] => Nat.le_refl _
  | c :: x => by
    have := dbl_len x
    unfold dbl
    split <;> simp only [List.length_cons] <;> omega
theorem qt_len (x : List Nat) : (qt x).length ≤ 2 * x.length + 2 := by
  unfold qt
  have := dbl_len x
  rw [List.length_cons, List.length_append]
  show _ + 1 + 1 ≤ _
  omega
theorem dbl_app : ∀ x y : List Nat, dbl (x ++ y) = dbl x ++ dbl y
  | [], y => rfl
  | c :: x, y => by
    show (if c = 34 then 34 :: 34 :: dbl (x ++ y) else c :: dbl (x ++ y)) = (if c = 34 then 34 :: 34 :: dbl x else c :: dbl x) ++ dbl y
    rw [dbl_app x y]
    split <;> rfl
theorem repl_dbl : ∀ x : List Nat, PySem.StrLaws.replL [34] [34, 34] x = dbl x
  | [] => PySem.StrLaws.replL_nil
  | c :: x => by
    by_cases h : c = 34
    · subst h
      rw [PySem.StrLaws.replL_hit (by decide) rfl]
      show [34, 34] ++ PySem.StrLaws.replL [34] [34, 34] x = _
      rw [repl_dbl x]; rfl
    · rw [PySem.StrLaws.replL_miss (by intro e; exact h (List.cons.inj e).1), repl_dbl x]
      show _ = if c = 34 then 34 :: 34 :: dbl x else c :: dbl x
      rw [if_neg h]
theorem pquoted_ok (x : List Nat) (h : x.length ≤ 1000) : F_p_quoted [.str x] = .ok (.str (qt x), [none]) := by
  have hl := dbl_len x
  have e1 : prepl [34] [34] [34, 34] (pvar 0) [some (.str x)] = some (.str (34 :: dbl x)) := by
    show (if x.length + (x.length + 1) * 2 ≤ 16777216 ∧ 1 + (PySem.StrLaws.replL [34] [34, 34] x).length ≤ 16777216 then some (D.str ([34] ++ PySem.StrLaws.replL [34] [34, 34] x)) else none) = _
    rw [repl_dbl, if_pos ⟨by omega, by omega⟩]; rfl
  have hq : (34 :: dbl x).length + [34].length ≤ 16777216 := by show (dbl x).length + 1 + 1 ≤ _; omega
  unfold F_p_quoted b_p_quoted
  simp (disch := omega) only [backF, List.length_cons, List.length_nil, Nat.reduceAdd, Nat.reduceLeDiff, Nat.zero_add, sseq, sif, sset, sret, sretv, sretn, spass, sbrk, scont, sdrop, sstore, saug, sunpO, bnames, toD, evar, emv, p1, p2, d2, pvar, pcst, pcall, pcons, pnil, dcons, dnil, dcall, dlst, dtupO, dtup, dfrz, ofO, Res.bind, isFrz, allFrz, frz, frzs, ecall, aslot, aval, anil, argF, isAtom, fnF, maskF, tfP, tfD, tfand, tfor, tfnot, toB, pIsa, tyN, isaT, dand, dor, dnot, sbad, tyes, List.getElem?_cons_zero, List.getElem?_cons_succ, List.getElem?_nil, List.set_cons_zero, List.set_cons_succ, Option.bind, Option.map, Bool.false_eq_true, if_false, if_true, reduceIte, List.map_cons, List.map_nil, List.replicate, List.nil_append, List.cons_append, List.any_cons, List.any_nil, id_eq, Bool.or_false, Bool.or_true, Bool.not_false, Bool.not_true, Bool.and_true, Bool.and_false, Bool.true_and, Bool.false_and, e1, addSP hq]
  rfl
theorem lquoted_ok (x : List Nat) (h : x.length ≤ 1000) : F_l_quoted [.str x] = .ok (.str (qt x), [none]) := by
  obtain ⟨e', q1, o2, i1, i2⟩ := for_ind (bf := bname 2) (body := b_l_quoted_1)
    (fun i e => ∃ o2, i ≤ x.length ∧ e = [some (.str x), some (.str (34 :: dbl (x.take i))), o2]) (signsD x) 0 (fun j d0 e hj ⟨o2, i1, i2⟩ => by
      rw [Nat.zero_add] at i1 i2
      rw [Nat.zero_add]
      subst i2
      unfold signsD at hj
      rw [List.getElem?_map] at hj
      obtain ⟨c, hc, rfl⟩ := Option.map_eq_some_iff.mp hj
      have hjl := (List.getElem?_eq_some_iff.mp hc).1
      have ht : x.take (j + 1) = x.take j ++ [c] := by
        rw [List.take_add_one, hc]; rfl
      have hl := dbl_len (x.take j)
      rw [List.length_take] at hl
      have hl2 : (34 :: dbl (x.take j)).length + [c].length ≤ 16777216 := by show (dbl _).length + 1 + 1 ≤ _; omega
      have hl3 : (34 :: (dbl (x.take j) ++ [c])).length + [c].length ≤ 16777216 := by
        rw [List.length_cons, List.length_append]; show (dbl _).length + 1 + 1 + 1 ≤ _; omega
      refine ⟨_, [some (.str x), some (.str (34 :: dbl (x.take (j + 1)))), some (.str [c])], rfl, ?_, _, by omega, rfl⟩
      rw [ht, dbl_app]
      unfold b_l_quoted_1
      by_cases h34 : c = 34
      · subst h34
        have e1 : pEq (.str [34]) (.str [34]) = some (.bl true) := rfl
        simp (disch := omega) only [backF, List.length_cons, List.length_nil, Nat.reduceAdd, Nat.reduceLeDiff, Nat.zero_add, sseq, sif, sset, sret, sretv, sretn, spass, sbrk, scont, sdrop, sstore, saug, sunpO, bnames, toD, evar, emv, p1, p2, d2, pvar, pcst, pcall, pcons, pnil, dcons, dnil, dcall, dlst, dtupO, dtup, dfrz, ofO, Res.bind, isFrz, allFrz, frz, frzs, ecall, aslot, aval, anil, argF, isAtom, fnF, maskF, tfP, tfD, tfand, tfor, tfnot, toB, pIsa, tyN, isaT, dand, dor, dnot, sbad, tyes, List.getElem?_cons_zero, List.getElem?_cons_succ, List.getElem?_nil, List.set_cons_zero, List.set_cons_succ, Option.bind, Option.map, Bool.false_eq_true, if_false, if_true, reduceIte, List.map_cons, List.map_nil, List.replicate, List.nil_append, List.cons_append, List.any_cons, List.any_nil, id_eq, Bool.or_false, Bool.or_true, Bool.not_false, Bool.not_true, Bool.and_true, Bool.and_false, Bool.true_and, Bool.false_and, bname, addSP hl2, e1, addSP hl3]
        simp [dbl]
      · have e1 : pEq (.str [c]) (.str [34]) = some (.bl false) := by
          show some (D.bl (decide ([c] = [34]))) = _
          rw [decide_eq_false fun e => h34 (List.cons.inj e).1]
        simp (disch := omega) only [backF, List.length_cons, List.length_nil, Nat.reduceAdd, Nat.reduceLeDiff, Nat.zero_add, sseq, sif, sset, sret, sretv, sretn, spass, sbrk, scont, sdrop, sstore, saug, sunpO, bnames, toD, evar, emv, p1, p2, d2, pvar, pcst, pcall, pcons, pnil, dcons, dnil, dcall, dlst, dtupO, dtup, dfrz, ofO, Res.bind, isFrz, allFrz, frz, frzs, ecall, aslot, aval, anil, argF, isAtom, fnF, maskF, tfP, tfD, tfand, tfor, tfnot, toB, pIsa, tyN, isaT, dand, dor, dnot, sbad, tyes, List.getElem?_cons_zero, List.getElem?_cons_succ, List.getElem?_nil, List.set_cons_zero, List.set_cons_succ, Option.bind, Option.map, Bool.false_eq_true, if_false, if_true, reduceIte, List.map_cons, List.map_nil, List.replicate, List.nil_append, List.cons_append, List.any_cons, List.any_nil, id_eq, Bool.or_false, Bool.or_true, Bool.not_false, Bool.not_true, Bool.and_true, Bool.and_false, Bool.true_and, Bool.false_and, bname, addSP hl2, e1]
        simp [dbl, h34])
    [some (.str x), some (.str [34]), none] ⟨none, Nat.zero_le _, rfl⟩
  subst i2
  have hsl : (signsD x).length = x.length := by unfold signsD; rw [List.length_map]
  rw [hsl, Nat.zero_add, List.take_length] at q1
  have hl := dbl_len x
  have hq : (34 :: dbl x).length + [34].length ≤ 16777216 := by show (dbl x).length + 1 + 1 ≤ _; omega
  unfold F_l_quoted b_l_quoted
  simp (disch := omega) only [backF, List.length_cons, List.length_nil, Nat.reduceAdd, Nat.reduceLeDiff, Nat.zero_add, sseq, sif, sset, sret, sretv, sretn, spass, sbrk, scont, sdrop, sstore, saug, sunpO, bnames, toD, evar, emv, p1, p2, d2, pvar, pcst, pcall, pcons, pnil, dcons, dnil, dcall, dlst, dtupO, dtup, dfrz, ofO, Res.bind, isFrz, allFrz, frz, frzs, ecall, aslot, aval, anil, argF, isAtom, fnF, maskF, tfP, tfD, tfand, tfor, tfnot, toB, pIsa, tyN, isaT, dand, dor, dnot, sbad, tyes, List.getElem?_cons_zero, List.getElem?_cons_succ, List.getElem?_nil, List.set_cons_zero, List.set_cons_succ, Option.bind, Option.map, Bool.false_eq_true, if_false, if_true, reduceIte, List.map_cons, List.map_nil, List.replicate, List.nil_append, List.cons_append, List.any_cons, List.any_nil, id_eq, Bool.or_false, Bool.or_true, Bool.not_false, Bool.not_true, Bool.and_true, Bool.and_false, Bool.true_and, Bool.false_and, sfor, srcS, q1, addSP hq]
  rfl
end K79

namespace K79
open PySem PySem.NumText PySem.Builtin PyProof.Rows L2 DL
/-! ### the text of a value -/
def lkT (k : List Nat) : List (List Nat) → List (List Nat) → List Nat
  | k0 :: ks, t :: ts => if k0 = k then t else lkT k ks ts
  | _, _ => []
mutual
def wr : D → List Nat
  | .non => [110, 111, 116, 104, 105, 110, 103]
  | .bl b => if b = true then [121, 101, 115] else [110, 111]
  | .int i => showI i
  | .str x => qt x
  | .lst _ xs => 91 :: (joinT [44, 32] (wrs xs) ++ [93])
  | .dic _ ks xs => 123 :: (joinT [44, 32] ((sortT ks).map fun k => qt k ++ 58 :: 32 :: lkT k ks (wrs xs)) ++ [125])
  | _ => []
def wrs : List D → List (List Nat)
  | [] => []
  | x :: xs => wr x :: wrs xs
end
theorem wrs_eq : ∀ xs, wrs xs = xs.map wr
  | [] => rfl
  | x :: xs => by rw [wrs, wrs_eq xs]; rfl
theorem joinT_len {s : List Nat} {L : Nat} : ∀ l : List (List Nat), (∀ p ∈ l, p.length ≤ L) → (joinT s l).length ≤ l.length * (L + s.length)
  | [], _ => Nat.zero_le _
  | [p], h => by
    have := h p List.mem_cons_self
    show p.length ≤ 1 * _
    omega
  | p :: q :: r, h => by
    have h1 := h p List.mem_cons_self
    have h2 := joinT_len (s := s) (q :: r) fun z hz => h z (List.mem_cons_of_mem _ hz)
    show (p ++ (s ++ joinT s (q :: r))).length ≤ _
    rw [List.length_append, List.length_append, List.length_cons, Nat.add_mul]
    omega
theorem sum_le {L : Nat} : ∀ l : List (List Nat), (∀ p ∈ l, p.length ≤ L) → (l.map List.length).sum ≤ l.length * L
  | [], _ => Nat.zero_le _
  | p :: r, h => by
    have h1 := h p List.mem_cons_self
    have h2 := sum_le r fun z hz => h z (List.mem_cons_of_mem _ hz)
    rw [List.map_cons, List.sum_cons, List.length_cons, Nat.add_mul]
    omega
theorem lkT_mem {P : List Nat → Prop} (h0 : P []) (k : List Nat) : ∀ (ks ts : List (List Nat)), (∀ t ∈ ts, P t) → P (lkT k ks ts)
  | [], _, _ => by unfold lkT; exact h0
  | _ :: _, [], _ => by unfold lkT; exact h0
  | k0 :: ks, t :: ts, h => by
    unfold lkT
    split
    · exact h t List.mem_cons_self
    · exact lkT_mem h0 k ks ts fun z hz => h z (List.mem_cons_of_mem _ hz)
theorem sortT_mem {k : List Nat} {ks : List (List Nat)} : k ∈ sortT ks ↔ k ∈ ks := (sortT_perm ks).mem_iff
theorem sortT_len (ks : List (List Nat)) : (sortT ks).length = ks.length := (sortT_perm ks).length_eq
def Ln : Nat → Nat
  | 0 => 130
  | k + 1 => 11 * (Ln k + 130) + 10
theorem Ln_le : ∀ {k k' : Nat}, k ≤ k' → Ln k ≤ Ln k' := by
  intro k k' h
  induction h with
  | refl => exact Nat.le_refl _
  | step h ih => exact Nat.le_trans ih (by rw [Ln]; omega)
theorem Ln_4 {k : Nat} (h : k ≤ 4) : Ln k ≤ 4011490 := Nat.le_trans (Ln_le h) (by decide)
theorem Ln_0 (k : Nat) : 130 ≤ Ln k := Ln_le (Nat.zero_le k)
theorem leaf_len {x : D} (h : Leaf x) : (wr x).length ≤ 130 := by
  cases h with
  | non => rw [wr]; decide
  | bl b => rw [wr]; cases b <;> decide
  | int i h => rw [wr]; have := showI_len h; omega
  | str x h hl => rw [wr]; have := qt_len x; omega
theorem wr_len {k : Nat} {x : D} (h : VL k x) : (wr x).length ≤ Ln k := by
  induction h with
  | leaf h => exact Nat.le_trans (leaf_len h) (Ln_0 _)
  | @lst k o xs hl hz h ih =>
    rw [wr, wrs_eq, List.length_cons, List.length_append]
    have h1 := joinT_len (s := [44, 32]) (L := Ln k) (xs.map wr) fun p hp => by
      obtain ⟨x, hx, rfl⟩ := List.mem_map.mp hp
      exact ih x hx
    rw [List.length_map] at h1
    have h2 := Nat.mul_le_mul_right (Ln k + [44, 32].length) hl
    rw [Ln]
    show _ + 1 + 1 ≤ _
    have e : ([44, 32] : List Nat).length = 2 := rfl
    rw [e] at h1 h2
    omega
  | @dic k o ks xs hl hn h11 hk hz h ih =>
    rw [wr, wrs_eq, List.length_cons, List.length_append]
    have h1 := joinT_len (s := [44, 32]) (L := Ln k + 124) ((sortT ks).map fun k => qt k ++ 58 :: 32 :: lkT k ks (xs.map wr)) fun p hp => by
      obtain ⟨q, hq, rfl⟩ := List.mem_map.mp hp
      have h3 := qt_len q
      have h4 := (hk q (sortT_mem.mp hq)).2
      have h5 : (lkT q ks (xs.map wr)).length ≤ Ln k := lkT_mem (P := fun t => t.length ≤ Ln k) (Nat.zero_le _) q ks _ fun t ht => by
        obtain ⟨x, hx, rfl⟩ := List.mem_map.mp ht
        exact ih x hx
      rw [List.length_append, List.length_cons, List.length_cons]
      omega
    rw [List.length_map, sortT_len] at h1
    have h2 := Nat.mul_le_mul_right (Ln k + 124 + [44, 32].length) h11
    rw [Ln]
    show _ + 1 + 1 ≤ _
    have e : ([44, 32] : List Nat).length = 2 := rfl
    rw [e] at h1 h2
    omega
theorem djoin_ok {o : Bool} {s : List Nat} {l : List (List Nat)} {L : Nat} {fa : DF} {e e1 : DL.Env} (h : fa e = .ok (.lst o (l.map .str), e1)) (hl : l.length ≤ 11) (hs : s.length = 2) (hL : L ≤ 1000000 ∨ L ≤ 401149) (hp : ∀ p ∈ l, p.length ≤ L) : djoin (pcst (.str s)) fa e = .ok (.str (joinT s l), e1) := by
  have h1 := sum_le l hp
  have h2 : l.length * L ≤ 11 * L := Nat.mul_le_mul_right L hl
  unfold djoin pcst
  dsimp only
  rw [h]
  show (match strsOf (l.map .str) with
      | some l => if (l.map List.length).sum + l.length * s.length ≤ 16777216 then Res.ok (D.str (joinT s l), e1) else .bad
      | none => .bad) = _
  rw [strsOf_of]
  show (if (l.map List.length).sum + l.length * s.length ≤ 16777216 then Res.ok (D.str (joinT s l), e1) else .bad) = _
  rw [if_pos]
  rw [hs]
  omega
/-- the text of a name's value -/
theorem look_ok {k : List Nat} : ∀ {ks : List (List Nat)} {xs : List D}, k ∈ ks → ks.length = xs.length → ∃ x, x ∈ xs ∧ lookK k ks xs = some x ∧ lkT k ks (wrs xs) = wr x
  | [], _, h, _ => by cases h
  | _ :: _, [], _, h => by cases h
  | k0 :: ks, x :: xs, h, hl => by
    by_cases e : k0 = k
    · exact ⟨x, List.mem_cons_self, by rw [lookK, if_pos e], by rw [wrs, lkT, if_pos e]⟩
    · have hk : k ∈ ks := (List.mem_cons.mp h).resolve_left fun z => e z.symm
      obtain ⟨y, h1, h2, h3⟩ := look_ok hk (Nat.succ.inj hl)
      exact ⟨y, List.mem_cons_of_mem _ h1, by rw [lookK, if_neg e]; exact h2, by rw [wrs, lkT, if_neg e]; exact h3⟩
theorem frz_mem {xs : List D} (h : allFrz xs = true) {x : D} (hx : x ∈ xs) : isFrz x = true ∧ frz x = x := by
  rw [allFrz_eq] at h
  have := List.all_eq_true.mp h x hx
  exact ⟨this, frz_of x this⟩
theorem written_ok {k : Nat} {x : D} (h : VL k x) : k ≤ 4 → ∀ n, k + 1 ≤ n → ∃ o, F_l_written n [x] = .ok (.str (wr x), [o]) := by
  induction h with
  | leaf h =>
    intro hk n hn
    obtain ⟨m, rfl⟩ : ∃ m, n = m + 1 := ⟨n - 1, by omega⟩
    rw [F_l_written]
    unfold b_l_written
    cases h with
    | non => exact ⟨none, rfl⟩
    | bl b => cases b <;> exact ⟨none, rfl⟩
    | int i h =>
      refine ⟨none, ?_⟩
      have e1 : pIsN (.int i) .non = some (.bl false) := rfl
      simp (disch := omega) only [backF, List.length_cons, List.length_nil, Nat.reduceAdd, Nat.reduceLeDiff, Nat.zero_add, sseq, sif, sset, sret, sretv, sretn, spass, sbrk, scont, sdrop, sstore, saug, sunpO, bnames, toD, evar, emv, p1, p2, d2, pvar, pcst, pcall, pcons, pnil, dcons, dnil, dcall, dlst, dtupO, dtup, dfrz, ofO, Res.bind, isFrz, allFrz, frz, frzs, ecall, aslot, aval, anil, argF, isAtom, fnF, maskF, tfP, tfD, tfand, tfor, tfnot, toB, pIsa, tyN, isaT, dand, dor, dnot, sbad, tyes, List.getElem?_cons_zero, List.getElem?_cons_succ, List.getElem?_nil, List.set_cons_zero, List.set_cons_succ, Option.bind, Option.map, Bool.false_eq_true, if_false, if_true, reduceIte, List.map_cons, List.map_nil, List.replicate, List.nil_append, List.cons_append, List.any_cons, List.any_nil, id_eq, Bool.or_false, Bool.or_true, Bool.not_false, Bool.not_true, Bool.and_true, Bool.and_false, Bool.true_and, Bool.false_and, e1, String.reduceBEq, beq_self_eq_true, Bool.or_false, Bool.false_or, Bool.true_or, bStr_ok h]
      rw [wr]
    | str x h hl =>
      refine ⟨none, ?_⟩
      have e1 : pIsN (.str x) .non = some (.bl false) := rfl
      simp (disch := omega) only [backF, List.length_cons, List.length_nil, Nat.reduceAdd, Nat.reduceLeDiff, Nat.zero_add, sseq, sif, sset, sret, sretv, sretn, spass, sbrk, scont, sdrop, sstore, saug, sunpO, bnames, toD, evar, emv, p1, p2, d2, pvar, pcst, pcall, pcons, pnil, dcons, dnil, dcall, dlst, dtupO, dtup, dfrz, ofO, Res.bind, isFrz, allFrz, frz, frzs, ecall, aslot, aval, anil, argF, isAtom, fnF, maskF, tfP, tfD, tfand, tfor, tfnot, toB, pIsa, tyN, isaT, dand, dor, dnot, sbad, tyes, List.getElem?_cons_zero, List.getElem?_cons_succ, List.getElem?_nil, List.set_cons_zero, List.set_cons_succ, Option.bind, Option.map, Bool.false_eq_true, if_false, if_true, reduceIte, List.map_cons, List.map_nil, List.replicate, List.nil_append, List.cons_append, List.any_cons, List.any_nil, id_eq, Bool.or_false, Bool.or_true, Bool.not_false, Bool.not_true, Bool.and_true, Bool.and_false, Bool.true_and, Bool.false_and, e1, String.reduceBEq, beq_self_eq_true, Bool.or_false, Bool.false_or, Bool.true_or, lquoted_ok x (by omega)]
      rw [wr]
  | @lst k o xs hl hz h ih =>
    intro hk n hn
    obtain ⟨m, rfl⟩ : ∃ m, n = m + 1 := ⟨n - 1, by omega⟩
    rw [F_l_written]
    unfold b_l_written
    have e1 : pIsN (.lst o xs) .non = some (.bl false) := rfl
    have h4 := Ln_4 (show k ≤ 4 by omega)
    have h4' := Ln_4 hk
    have hlen : (wr (.lst o xs)).length ≤ Ln (k + 1) := wr_len (.lst hl hz h)
    have hc := comp_map (bf := bname 3) (elt := b_l_written_1 (F_l_written m)) (vs := [3]) [some (.lst false xs), none, none, none] (fun x => .str (wr x)) xs (fun x hx => by
      obtain ⟨o2, q⟩ := ih x hx (by omega) m (by omega)
      obtain ⟨z1, z2⟩ := frz_mem hz hx
      refine ⟨_, .str (wr x), [some (.lst false xs), none, none, some x], rfl, ?_, rfl, rfl⟩
      unfold b_l_written_1
      simp (disch := omega) only [backF, List.length_cons, List.length_nil, Nat.reduceAdd, Nat.reduceLeDiff, Nat.zero_add, sseq, sif, sset, sret, sretv, sretn, spass, sbrk, scont, sdrop, sstore, saug, sunpO, bnames, toD, evar, emv, p1, p2, d2, pvar, pcst, pcall, pcons, pnil, dcons, dnil, dcall, dlst, dtupO, dtup, dfrz, ofO, Res.bind, isFrz, allFrz, frz, frzs, ecall, aslot, aval, anil, argF, isAtom, fnF, maskF, tfP, tfD, tfand, tfor, tfnot, toB, pIsa, tyN, isaT, dand, dor, dnot, sbad, tyes, List.getElem?_cons_zero, List.getElem?_cons_succ, List.getElem?_nil, List.set_cons_zero, List.set_cons_succ, Option.bind, Option.map, Bool.false_eq_true, if_false, if_true, reduceIte, List.map_cons, List.map_nil, List.replicate, List.nil_append, List.cons_append, List.any_cons, List.any_nil, id_eq, Bool.or_false, Bool.or_true, Bool.not_false, Bool.not_true, Bool.and_true, Bool.and_false, Bool.true_and, Bool.false_and, bname, z2, q])
    have hx1 : xs.length ≤ 1000000 := by omega
    have hL : Ln k ≤ 401149 := by
      have := Ln_le (show k ≤ 3 by omega)
      have e : Ln 3 = 364550 := by decide
      omega
    have ej := djoin_ok (o := true) (s := [44, 32]) (l := xs.map wr) (L := Ln k) (fa := dcomp (srcL (evar 0)) (bname 3) tyes (b_l_written_1 (F_l_written m)) [3]) (e := [some (.lst o xs), none, none, none]) (e1 := [some (.lst false xs), none, none, none])
      (by simp (disch := omega) only [backF, List.length_cons, List.length_nil, Nat.reduceAdd, Nat.reduceLeDiff, Nat.zero_add, sseq, sif, sset, sret, sretv, sretn, spass, sbrk, scont, sdrop, sstore, saug, sunpO, bnames, toD, evar, emv, p1, p2, d2, pvar, pcst, pcall, pcons, pnil, dcons, dnil, dcall, dlst, dtupO, dtup, dfrz, ofO, Res.bind, isFrz, allFrz, frz, frzs, ecall, aslot, aval, anil, argF, isAtom, fnF, maskF, tfP, tfD, tfand, tfor, tfnot, toB, pIsa, tyN, isaT, dand, dor, dnot, sbad, tyes, List.getElem?_cons_zero, List.getElem?_cons_succ, List.getElem?_nil, List.set_cons_zero, List.set_cons_succ, Option.bind, Option.map, Bool.false_eq_true, if_false, if_true, reduceIte, List.map_cons, List.map_nil, List.replicate, List.nil_append, List.cons_append, List.any_cons, List.any_nil, id_eq, Bool.or_false, Bool.or_true, Bool.not_false, Bool.not_true, Bool.and_true, Bool.and_false, Bool.true_and, Bool.false_and, dcomp, srcL, frzs_of _ hz, compR, hx1, wipeE, hc, List.map_map]; rfl) (by rw [List.length_map]; exact hl) rfl (.inr hL) (fun p hp => by
        obtain ⟨x, hx, rfl⟩ := List.mem_map.mp hp
        exact wr_len (h x hx))
    rw [wr, wrs_eq, List.length_cons, List.length_append] at hlen
    have hlen2 : (joinT [44, 32] (xs.map wr)).length + 1 + 1 ≤ Ln (k + 1) := hlen
    have a1 : [91].length + (joinT [44, 32] (xs.map wr)).length ≤ 16777216 := by show 1 + _ ≤ _; omega
    have a2 : (91 :: joinT [44, 32] (xs.map wr)).length + [93].length ≤ 16777216 := by rw [List.length_cons]; show _ + 1 + 1 ≤ _; omega
    refine ⟨none, ?_⟩
    simp (disch := omega) only [backF, List.length_cons, List.length_nil, Nat.reduceAdd, Nat.reduceLeDiff, Nat.zero_add, sseq, sif, sset, sret, sretv, sretn, spass, sbrk, scont, sdrop, sstore, saug, sunpO, bnames, toD, evar, emv, p1, p2, d2, pvar, pcst, pcall, pcons, pnil, dcons, dnil, dcall, dlst, dtupO, dtup, dfrz, ofO, Res.bind, isFrz, allFrz, frz, frzs, ecall, aslot, aval, anil, argF, isAtom, fnF, maskF, tfP, tfD, tfand, tfor, tfnot, toB, pIsa, tyN, isaT, dand, dor, dnot, sbad, tyes, List.getElem?_cons_zero, List.getElem?_cons_succ, List.getElem?_nil, List.set_cons_zero, List.set_cons_succ, Option.bind, Option.map, Bool.false_eq_true, if_false, if_true, reduceIte, List.map_cons, List.map_nil, List.replicate, List.nil_append, List.cons_append, List.any_cons, List.any_nil, id_eq, Bool.or_false, Bool.or_true, Bool.not_false, Bool.not_true, Bool.and_true, Bool.and_false, Bool.true_and, Bool.false_and, e1, String.reduceBEq, beq_self_eq_true, Bool.or_false, Bool.false_or, Bool.true_or, ej, addS a1, addS a2]
    rw [wr, wrs_eq]
  | @dic k o ks xs hl hn h11 hk0 hz h ih =>
    intro hk n hn'
    obtain ⟨m, rfl⟩ : ∃ m, n = m + 1 := ⟨n - 1, by omega⟩
    rw [F_l_written]
    unfold b_l_written
    have e1 : pIsN (.dic o ks xs) .non = some (.bl false) := rfl
    have h4 := Ln_4 (show k ≤ 4 by omega)
    have h4' := Ln_4 hk
    have hlen : (wr (.dic o ks xs)).length ≤ Ln (k + 1) := wr_len (.dic hl hn h11 hk0 hz h)
    have hitem : ∀ q ∈ sortT ks, (qt q ++ 58 :: 32 :: lkT q ks (wrs xs)).length ≤ Ln k + 124 ∧ (qt q).length ≤ 122 ∧ (lkT q ks (wrs xs)).length ≤ Ln k := fun q hq => by
      have h3 := qt_len q
      have h4 := (hk0 q (sortT_mem.mp hq)).2
      have h5 : (lkT q ks (xs.map wr)).length ≤ Ln k := lkT_mem (P := fun t => t.length ≤ Ln k) (Nat.zero_le _) q ks _ fun t ht => by
        obtain ⟨x, hx, rfl⟩ := List.mem_map.mp ht
        exact wr_len (h x hx)
      rw [wrs_eq]
      refine ⟨?_, by omega, h5⟩
      rw [List.length_append, List.length_cons, List.length_cons]
      omega
    have hc := comp_map (bf := bname 2) (elt := b_l_written_2 F_l_quoted (F_l_written m)) (vs := [2]) [some (.dic false ks xs), none, none, none] (fun x => match x with | .str q => .str (qt q ++ 58 :: 32 :: lkT q ks (wrs xs)) | x => x) ((sortT ks).map .str) (fun d hd => by
      obtain ⟨q, hq, rfl⟩ := List.mem_map.mp hd
      have hqk := sortT_mem.mp hq
      obtain ⟨y, y1, y2, y3⟩ := look_ok hqk hl
      obtain ⟨o2, q2⟩ := ih y y1 (by omega) m (by omega)
      obtain ⟨z1, z2⟩ := frz_mem hz y1
      obtain ⟨i1, i2, i3⟩ := hitem q hq
      rw [y3] at i3
      have ql := lquoted_ok q (by have := (hk0 q hqk).2; omega)
      have ix : pIx (.dic false ks xs) (.str q) = some y := y2
      have a1 : (qt q).length + [58, 32].length ≤ 16777216 := by show _ + 2 ≤ _; omega
      have a2 : (qt q ++ [58, 32]).length + (wr y).length ≤ 16777216 := by rw [List.length_append]; show _ + 2 + _ ≤ _; omega
      refine ⟨_, .str (qt q ++ 58 :: 32 :: wr y), [some (.dic false ks xs), none, some (.str q), none], rfl, ?_, by show D.str (qt q ++ 58 :: 32 :: wr y) = D.str (qt q ++ 58 :: 32 :: lkT q ks (wrs xs)); rw [y3], rfl⟩
      unfold b_l_written_2
      simp (disch := omega) only [backF, List.length_cons, List.length_nil, Nat.reduceAdd, Nat.reduceLeDiff, Nat.zero_add, sseq, sif, sset, sret, sretv, sretn, spass, sbrk, scont, sdrop, sstore, saug, sunpO, bnames, toD, evar, emv, p1, p2, d2, pvar, pcst, pcall, pcons, pnil, dcons, dnil, dcall, dlst, dtupO, dtup, dfrz, ofO, Res.bind, isFrz, allFrz, frz, frzs, ecall, aslot, aval, anil, argF, isAtom, fnF, maskF, tfP, tfD, tfand, tfor, tfnot, toB, pIsa, tyN, isaT, dand, dor, dnot, sbad, tyes, List.getElem?_cons_zero, List.getElem?_cons_succ, List.getElem?_nil, List.set_cons_zero, List.set_cons_succ, Option.bind, Option.map, Bool.false_eq_true, if_false, if_true, reduceIte, List.map_cons, List.map_nil, List.replicate, List.nil_append, List.cons_append, List.any_cons, List.any_nil, id_eq, Bool.or_false, Bool.or_true, Bool.not_false, Bool.not_true, Bool.and_true, Bool.and_false, Bool.true_and, Bool.false_and, bname, ql, ix, z1, z2, q2, addS a1, addS a2, List.append_assoc])
    have em : ((sortT ks).map D.str).map (fun x => match x with | .str q => D.str (qt q ++ 58 :: 32 :: lkT q ks (wrs xs)) | x => x) = ((sortT ks).map fun q => qt q ++ 58 :: 32 :: lkT q ks (wrs xs)).map D.str := by
      rw [List.map_map, List.map_map]; rfl
    rw [em] at hc
    have hx1 : ((sortT ks).map D.str).length ≤ 1000000 := by rw [List.length_map, sortT_len]; omega
    have hL : Ln k ≤ 364550 := by
      have := Ln_le (show k ≤ 3 by omega)
      have e : Ln 3 = 364550 := by decide
      omega
    have bl : bList [.dic false ks xs] = some (.lst true (ks.map .str)) := rfl
    have bs : bSorted [.lst true (ks.map .str)] = some (.lst true ((sortT ks).map .str)) := by
      show (match strsOf (ks.map .str) with
        | some l => if l.length < 64 then some (D.lst true ((sortT l).map .str)) else none
        | none => none) = _
      rw [strsOf_of]
      show (if ks.length < 64 then _ else _) = _
      rw [if_pos (by omega)]
    have ej := djoin_ok (o := false) (s := [44, 32]) (l := (sortT ks).map fun q => qt q ++ 58 :: 32 :: lkT q ks (wrs xs)) (L := Ln k + 124) (fa := evar 1) (e := [some (.dic false ks xs), some (.lst true (((sortT ks).map fun q => qt q ++ 58 :: 32 :: lkT q ks (wrs xs)).map .str)), none, none]) (e1 := [some (.dic false ks xs), some (.lst false (((sortT ks).map fun q => qt q ++ 58 :: 32 :: lkT q ks (wrs xs)).map .str)), none, none])
      (by simp (disch := omega) only [backF, List.length_cons, List.length_nil, Nat.reduceAdd, Nat.reduceLeDiff, Nat.zero_add, sseq, sif, sset, sret, sretv, sretn, spass, sbrk, scont, sdrop, sstore, saug, sunpO, bnames, toD, evar, emv, p1, p2, d2, pvar, pcst, pcall, pcons, pnil, dcons, dnil, dcall, dlst, dtupO, dtup, dfrz, ofO, Res.bind, isFrz, allFrz, frz, frzs, ecall, aslot, aval, anil, argF, isAtom, fnF, maskF, tfP, tfD, tfand, tfor, tfnot, toB, pIsa, tyN, isaT, dand, dor, dnot, sbad, tyes, List.getElem?_cons_zero, List.getElem?_cons_succ, List.getElem?_nil, List.set_cons_zero, List.set_cons_succ, Option.bind, Option.map, Bool.false_eq_true, if_false, if_true, reduceIte, List.map_cons, List.map_nil, List.replicate, List.nil_append, List.cons_append, List.any_cons, List.any_nil, id_eq, Bool.or_false, Bool.or_true, Bool.not_false, Bool.not_true, Bool.and_true, Bool.and_false, Bool.true_and, Bool.false_and, frzs_str]) (by rw [List.length_map, sortT_len]; exact h11) rfl (.inr (by omega)) (fun p hp => by
        obtain ⟨q, hq, rfl⟩ := List.mem_map.mp hp
        exact (hitem q hq).1)
    rw [wr, List.length_cons, List.length_append] at hlen
    have hlen2 : (joinT [44, 32] ((sortT ks).map fun q => qt q ++ 58 :: 32 :: lkT q ks (wrs xs))).length + 1 + 1 ≤ Ln (k + 1) := hlen
    have a1 : [123].length + (joinT [44, 32] ((sortT ks).map fun q => qt q ++ 58 :: 32 :: lkT q ks (wrs xs))).length ≤ 16777216 := by show 1 + _ ≤ _; omega
    have a2 : (123 :: joinT [44, 32] ((sortT ks).map fun q => qt q ++ 58 :: 32 :: lkT q ks (wrs xs))).length + [125].length ≤ 16777216 := by rw [List.length_cons]; show _ + 1 + 1 ≤ _; omega
    refine ⟨none, ?_⟩
    simp (disch := omega) only [backF, List.length_cons, List.length_nil, Nat.reduceAdd, Nat.reduceLeDiff, Nat.zero_add, sseq, sif, sset, sret, sretv, sretn, spass, sbrk, scont, sdrop, sstore, saug, sunpO, bnames, toD, evar, emv, p1, p2, d2, pvar, pcst, pcall, pcons, pnil, dcons, dnil, dcall, dlst, dtupO, dtup, dfrz, ofO, Res.bind, isFrz, allFrz, frz, frzs, ecall, aslot, aval, anil, argF, isAtom, fnF, maskF, tfP, tfD, tfand, tfor, tfnot, toB, pIsa, tyN, isaT, dand, dor, dnot, sbad, tyes, List.getElem?_cons_zero, List.getElem?_cons_succ, List.getElem?_nil, List.set_cons_zero, List.set_cons_succ, Option.bind, Option.map, Bool.false_eq_true, if_false, if_true, reduceIte, List.map_cons, List.map_nil, List.replicate, List.nil_append, List.cons_append, List.any_cons, List.any_nil, id_eq, Bool.or_false, Bool.or_true, Bool.not_false, Bool.not_true, Bool.and_true, Bool.and_false, Bool.true_and, Bool.false_and, e1, String.reduceBEq, beq_self_eq_true, Bool.or_false, Bool.false_or, Bool.true_or, frzs_of _ hz, bl, bs, dcomp, srcL, frzs_str, compR, hx1, wipeE, hc, ej, addS a1, addS a2]
    rw [wr]
end K79

namespace K79
open PySem PySem.NumText PySem.Builtin PyProof.Rows L2 DL
/-! ### show_value says the same -/
theorem show_ok {k : Nat} {x : D} (h : VL k x) : k ≤ 4 → ∀ n, k + 1 ≤ n → ∃ o, F_p_show_value n [x] = .ok (.str (wr x), [o]) := by
  induction h with
  | leaf h =>
    intro hk n hn
    obtain ⟨m, rfl⟩ : ∃ m, n = m + 1 := ⟨n - 1, by omega⟩
    rw [F_p_show_value]
    unfold b_p_show_value
    cases h with
    | non => exact ⟨none, rfl⟩
    | bl b => cases b <;> exact ⟨none, rfl⟩
    | int i h =>
      refine ⟨none, ?_⟩
      have e1 : pIsN (.int i) .non = some (.bl false) := rfl
      simp (disch := omega) only [backF, List.length_cons, List.length_nil, Nat.reduceAdd, Nat.reduceLeDiff, Nat.zero_add, sseq, sif, sset, sret, sretv, sretn, spass, sbrk, scont, sdrop, sstore, saug, sunpO, bnames, toD, evar, emv, p1, p2, d2, pvar, pcst, pcall, pcons, pnil, dcons, dnil, dcall, dlst, dtupO, dtup, dfrz, ofO, Res.bind, isFrz, allFrz, frz, frzs, ecall, aslot, aval, anil, argF, isAtom, fnF, maskF, tfP, tfD, tfand, tfor, tfnot, toB, pIsa, tyN, isaT, dand, dor, dnot, sbad, tyes, List.getElem?_cons_zero, List.getElem?_cons_succ, List.getElem?_nil, List.set_cons_zero, List.set_cons_succ, Option.bind, Option.map, Bool.false_eq_true, if_false, if_true, reduceIte, List.map_cons, List.map_nil, List.replicate, List.nil_append, List.cons_append, List.any_cons, List.any_nil, id_eq, Bool.or_false, Bool.or_true, Bool.not_false, Bool.not_true, Bool.and_true, Bool.and_false, Bool.true_and, Bool.false_and, e1, String.reduceBEq, beq_self_eq_true, Bool.or_false, Bool.false_or, Bool.true_or, bStr_ok h]
      rw [wr]
    | str x h hl =>
      refine ⟨none, ?_⟩
      have e1 : pIsN (.str x) .non = some (.bl false) := rfl
      simp (disch := omega) only [backF, List.length_cons, List.length_nil, Nat.reduceAdd, Nat.reduceLeDiff, Nat.zero_add, sseq, sif, sset, sret, sretv, sretn, spass, sbrk, scont, sdrop, sstore, saug, sunpO, bnames, toD, evar, emv, p1, p2, d2, pvar, pcst, pcall, pcons, pnil, dcons, dnil, dcall, dlst, dtupO, dtup, dfrz, ofO, Res.bind, isFrz, allFrz, frz, frzs, ecall, aslot, aval, anil, argF, isAtom, fnF, maskF, tfP, tfD, tfand, tfor, tfnot, toB, pIsa, tyN, isaT, dand, dor, dnot, sbad, tyes, List.getElem?_cons_zero, List.getElem?_cons_succ, List.getElem?_nil, List.set_cons_zero, List.set_cons_succ, Option.bind, Option.map, Bool.false_eq_true, if_false, if_true, reduceIte, List.map_cons, List.map_nil, List.replicate, List.nil_append, List.cons_append, List.any_cons, List.any_nil, id_eq, Bool.or_false, Bool.or_true, Bool.not_false, Bool.not_true, Bool.and_true, Bool.and_false, Bool.true_and, Bool.false_and, e1, String.reduceBEq, beq_self_eq_true, Bool.or_false, Bool.false_or, Bool.true_or, pquoted_ok x (by omega)]
      rw [wr]
  | @lst k o xs hl hz h ih =>
    intro hk n hn
    obtain ⟨m, rfl⟩ : ∃ m, n = m + 1 := ⟨n - 1, by omega⟩
    rw [F_p_show_value]
    unfold b_p_show_value
    have h4' := Ln_4 hk
    have hlen : (wr (.lst o xs)).length ≤ Ln (k + 1) := wr_len (.lst hl hz h)
    have hc := comp_map (bf := bname 1) (elt := b_p_show_value_1 (F_p_show_value m)) (vs := [1]) [some (.lst false xs), none, none] (fun x => .str (wr x)) xs (fun x hx => by
      obtain ⟨o2, q⟩ := ih x hx (by omega) m (by omega)
      obtain ⟨z1, z2⟩ := frz_mem hz hx
      refine ⟨_, .str (wr x), [some (.lst false xs), some x, none], rfl, ?_, rfl, rfl⟩
      unfold b_p_show_value_1
      simp (disch := omega) only [backF, List.length_cons, List.length_nil, Nat.reduceAdd, Nat.reduceLeDiff, Nat.zero_add, sseq, sif, sset, sret, sretv, sretn, spass, sbrk, scont, sdrop, sstore, saug, sunpO, bnames, toD, evar, emv, p1, p2, d2, pvar, pcst, pcall, pcons, pnil, dcons, dnil, dcall, dlst, dtupO, dtup, dfrz, ofO, Res.bind, isFrz, allFrz, frz, frzs, ecall, aslot, aval, anil, argF, isAtom, fnF, maskF, tfP, tfD, tfand, tfor, tfnot, toB, pIsa, tyN, isaT, dand, dor, dnot, sbad, tyes, List.getElem?_cons_zero, List.getElem?_cons_succ, List.getElem?_nil, List.set_cons_zero, List.set_cons_succ, Option.bind, Option.map, Bool.false_eq_true, if_false, if_true, reduceIte, List.map_cons, List.map_nil, List.replicate, List.nil_append, List.cons_append, List.any_cons, List.any_nil, id_eq, Bool.or_false, Bool.or_true, Bool.not_false, Bool.not_true, Bool.and_true, Bool.and_false, Bool.true_and, Bool.false_and, bname, z2, q])
    have hx1 : xs.length ≤ 1000000 := by omega
    have hL : Ln k ≤ 401149 := by
      have := Ln_le (show k ≤ 3 by omega)
      have e : Ln 3 = 364550 := by decide
      omega
    have ej := djoin_ok (o := true) (s := [44, 32]) (l := xs.map wr) (L := Ln k) (fa := dcomp (srcL (evar 0)) (bname 1) tyes (b_p_show_value_1 (F_p_show_value m)) [1]) (e := [some (.lst o xs), none, none]) (e1 := [some (.lst false xs), none, none])
      (by simp (disch := omega) only [backF, List.length_cons, List.length_nil, Nat.reduceAdd, Nat.reduceLeDiff, Nat.zero_add, sseq, sif, sset, sret, sretv, sretn, spass, sbrk, scont, sdrop, sstore, saug, sunpO, bnames, toD, evar, emv, p1, p2, d2, pvar, pcst, pcall, pcons, pnil, dcons, dnil, dcall, dlst, dtupO, dtup, dfrz, ofO, Res.bind, isFrz, allFrz, frz, frzs, ecall, aslot, aval, anil, argF, isAtom, fnF, maskF, tfP, tfD, tfand, tfor, tfnot, toB, pIsa, tyN, isaT, dand, dor, dnot, sbad, tyes, List.getElem?_cons_zero, List.getElem?_cons_succ, List.getElem?_nil, List.set_cons_zero, List.set_cons_succ, Option.bind, Option.map, Bool.false_eq_true, if_false, if_true, reduceIte, List.map_cons, List.map_nil, List.replicate, List.nil_append, List.cons_append, List.any_cons, List.any_nil, id_eq, Bool.or_false, Bool.or_true, Bool.not_false, Bool.not_true, Bool.and_true, Bool.and_false, Bool.true_and, Bool.false_and, dcomp, srcL, frzs_of _ hz, compR, hx1, wipeE, hc, List.map_map]; rfl) (by rw [List.length_map]; exact hl) rfl (.inr hL) (fun p hp => by
        obtain ⟨x, hx, rfl⟩ := List.mem_map.mp hp
        exact wr_len (h x hx))
    rw [wr, wrs_eq, List.length_cons, List.length_append] at hlen
    have hlen2 : (joinT [44, 32] (xs.map wr)).length + 1 + 1 ≤ Ln (k + 1) := hlen
    have a1 : [91].length + (joinT [44, 32] (xs.map wr)).length ≤ 16777216 := by show 1 + _ ≤ _; omega
    have a2 : (91 :: joinT [44, 32] (xs.map wr)).length + [93].length ≤ 16777216 := by rw [List.length_cons]; show _ + 1 + 1 ≤ _; omega
    refine ⟨none, ?_⟩
    simp (disch := omega) only [backF, List.length_cons, List.length_nil, Nat.reduceAdd, Nat.reduceLeDiff, Nat.zero_add, sseq, sif, sset, sret, sretv, sretn, spass, sbrk, scont, sdrop, sstore, saug, sunpO, bnames, toD, evar, emv, p1, p2, d2, pvar, pcst, pcall, pcons, pnil, dcons, dnil, dcall, dlst, dtupO, dtup, dfrz, ofO, Res.bind, isFrz, allFrz, frz, frzs, ecall, aslot, aval, anil, argF, isAtom, fnF, maskF, tfP, tfD, tfand, tfor, tfnot, toB, pIsa, tyN, isaT, dand, dor, dnot, sbad, tyes, List.getElem?_cons_zero, List.getElem?_cons_succ, List.getElem?_nil, List.set_cons_zero, List.set_cons_succ, Option.bind, Option.map, Bool.false_eq_true, if_false, if_true, reduceIte, List.map_cons, List.map_nil, List.replicate, List.nil_append, List.cons_append, List.any_cons, List.any_nil, id_eq, Bool.or_false, Bool.or_true, Bool.not_false, Bool.not_true, Bool.and_true, Bool.and_false, Bool.true_and, Bool.false_and, String.reduceBEq, beq_self_eq_true, Bool.or_false, Bool.false_or, Bool.true_or, ej, addS a1, addS a2]
    rw [wr, wrs_eq]
  | @dic k o ks xs hl hn h11 hk0 hz h ih =>
    intro hk n hn'
    obtain ⟨m, rfl⟩ : ∃ m, n = m + 1 := ⟨n - 1, by omega⟩
    rw [F_p_show_value]
    unfold b_p_show_value
    have h4' := Ln_4 hk
    have hlen : (wr (.dic o ks xs)).length ≤ Ln (k + 1) := wr_len (.dic hl hn h11 hk0 hz h)
    have hitem : ∀ q ∈ sortT ks, (qt q ++ 58 :: 32 :: lkT q ks (wrs xs)).length ≤ Ln k + 124 ∧ (qt q).length ≤ 122 ∧ (lkT q ks (wrs xs)).length ≤ Ln k := fun q hq => by
      have h3 := qt_len q
      have h4 := (hk0 q (sortT_mem.mp hq)).2
      have h5 : (lkT q ks (xs.map wr)).length ≤ Ln k := lkT_mem (P := fun t => t.length ≤ Ln k) (Nat.zero_le _) q ks _ fun t ht => by
        obtain ⟨x, hx, rfl⟩ := List.mem_map.mp ht
        exact wr_len (h x hx)
      rw [wrs_eq]
      refine ⟨?_, by omega, h5⟩
      rw [List.length_append, List.length_cons, List.length_cons]
      omega
    have hLk := Ln_4 (show k ≤ 4 by omega)
    have hc := comp_map (bf := bname 2) (elt := b_p_show_value_2 F_p_quoted (F_p_show_value m)) (vs := [2]) [some (.dic false ks xs), none, none] (fun x => match x with | .str q => .str (qt q ++ 58 :: 32 :: lkT q ks (wrs xs)) | x => x) ((sortT ks).map .str) (fun d hd => by
      obtain ⟨q, hq, rfl⟩ := List.mem_map.mp hd
      have hqk := sortT_mem.mp hq
      obtain ⟨y, y1, y2, y3⟩ := look_ok hqk hl
      obtain ⟨o2, q2⟩ := ih y y1 (by omega) m (by omega)
      obtain ⟨z1, z2⟩ := frz_mem hz y1
      obtain ⟨i1, i2, i3⟩ := hitem q hq
      rw [y3] at i3
      have ql := pquoted_ok q (by have := (hk0 q hqk).2; omega)
      have ix : pIx (.dic false ks xs) (.str q) = some y := y2
      have a1 : (qt q).length + [58, 32].length ≤ 16777216 := by show _ + 2 ≤ _; omega
      have a2 : (qt q ++ [58, 32]).length + (wr y).length ≤ 16777216 := by rw [List.length_append]; show _ + 2 + _ ≤ _; omega
      refine ⟨_, .str (qt q ++ 58 :: 32 :: wr y), [some (.dic false ks xs), none, some (.str q)], rfl, ?_, by show D.str (qt q ++ 58 :: 32 :: wr y) = D.str (qt q ++ 58 :: 32 :: lkT q ks (wrs xs)); rw [y3], rfl⟩
      unfold b_p_show_value_2
      simp (disch := omega) only [backF, List.length_cons, List.length_nil, Nat.reduceAdd, Nat.reduceLeDiff, Nat.zero_add, sseq, sif, sset, sret, sretv, sretn, spass, sbrk, scont, sdrop, sstore, saug, sunpO, bnames, toD, evar, emv, p1, p2, d2, pvar, pcst, pcall, pcons, pnil, dcons, dnil, dcall, dlst, dtupO, dtup, dfrz, ofO, Res.bind, isFrz, allFrz, frz, frzs, ecall, aslot, aval, anil, argF, isAtom, fnF, maskF, tfP, tfD, tfand, tfor, tfnot, toB, pIsa, tyN, isaT, dand, dor, dnot, sbad, tyes, List.getElem?_cons_zero, List.getElem?_cons_succ, List.getElem?_nil, List.set_cons_zero, List.set_cons_succ, Option.bind, Option.map, Bool.false_eq_true, if_false, if_true, reduceIte, List.map_cons, List.map_nil, List.replicate, List.nil_append, List.cons_append, List.any_cons, List.any_nil, id_eq, Bool.or_false, Bool.or_true, Bool.not_false, Bool.not_true, Bool.and_true, Bool.and_false, Bool.true_and, Bool.false_and, bname, ql, ix, z1, z2, q2, addS a1, addS a2, List.append_assoc])
    have em : ((sortT ks).map D.str).map (fun x => match x with | .str q => D.str (qt q ++ 58 :: 32 :: lkT q ks (wrs xs)) | x => x) = ((sortT ks).map fun q => qt q ++ 58 :: 32 :: lkT q ks (wrs xs)).map D.str := by
      rw [List.map_map, List.map_map]; rfl
    rw [em] at hc
    have hx1 : ((sortT ks).map D.str).length ≤ 1000000 := by rw [List.length_map, sortT_len]; omega
    have hL : Ln k ≤ 364550 := by
      have := Ln_le (show k ≤ 3 by omega)
      have e : Ln 3 = 364550 := by decide
      omega
    have bs : bSorted [.dic false ks xs] = some (.lst true ((sortT ks).map .str)) := by
      show (if ks.length < 64 then _ else _) = _
      rw [if_pos (by omega)]
    have ej := djoin_ok (o := true) (s := [44, 32]) (l := (sortT ks).map fun q => qt q ++ 58 :: 32 :: lkT q ks (wrs xs)) (L := Ln k + 124) (fa := dcomp (srcL (dcall bSorted (dcons (evar 0) dnil))) (bname 2) tyes (b_p_show_value_2 F_p_quoted (F_p_show_value m)) [2]) (e := [some (.dic o ks xs), none, none]) (e1 := [some (.dic false ks xs), none, none])
      (by simp (disch := omega) only [backF, List.length_cons, List.length_nil, Nat.reduceAdd, Nat.reduceLeDiff, Nat.zero_add, sseq, sif, sset, sret, sretv, sretn, spass, sbrk, scont, sdrop, sstore, saug, sunpO, bnames, toD, evar, emv, p1, p2, d2, pvar, pcst, pcall, pcons, pnil, dcons, dnil, dcall, dlst, dtupO, dtup, dfrz, ofO, Res.bind, isFrz, allFrz, frz, frzs, ecall, aslot, aval, anil, argF, isAtom, fnF, maskF, tfP, tfD, tfand, tfor, tfnot, toB, pIsa, tyN, isaT, dand, dor, dnot, sbad, tyes, List.getElem?_cons_zero, List.getElem?_cons_succ, List.getElem?_nil, List.set_cons_zero, List.set_cons_succ, Option.bind, Option.map, Bool.false_eq_true, if_false, if_true, reduceIte, List.map_cons, List.map_nil, List.replicate, List.nil_append, List.cons_append, List.any_cons, List.any_nil, id_eq, Bool.or_false, Bool.or_true, Bool.not_false, Bool.not_true, Bool.and_true, Bool.and_false, Bool.true_and, Bool.false_and, frzs_of _ hz, bs, dcomp, srcL, frzs_str, compR, hx1, wipeE, hc]) (by rw [List.length_map, sortT_len]; exact h11) rfl (.inr (by omega)) (fun p hp => by
        obtain ⟨q, hq, rfl⟩ := List.mem_map.mp hp
        exact (hitem q hq).1)
    rw [wr, List.length_cons, List.length_append] at hlen
    have hlen2 : (joinT [44, 32] ((sortT ks).map fun q => qt q ++ 58 :: 32 :: lkT q ks (wrs xs))).length + 1 + 1 ≤ Ln (k + 1) := hlen
    have a1 : [123].length + (joinT [44, 32] ((sortT ks).map fun q => qt q ++ 58 :: 32 :: lkT q ks (wrs xs))).length ≤ 16777216 := by show 1 + _ ≤ _; omega
    have a2 : (123 :: joinT [44, 32] ((sortT ks).map fun q => qt q ++ 58 :: 32 :: lkT q ks (wrs xs))).length + [125].length ≤ 16777216 := by rw [List.length_cons]; show _ + 1 + 1 ≤ _; omega
    refine ⟨none, ?_⟩
    simp (disch := omega) only [backF, List.length_cons, List.length_nil, Nat.reduceAdd, Nat.reduceLeDiff, Nat.zero_add, sseq, sif, sset, sret, sretv, sretn, spass, sbrk, scont, sdrop, sstore, saug, sunpO, bnames, toD, evar, emv, p1, p2, d2, pvar, pcst, pcall, pcons, pnil, dcons, dnil, dcall, dlst, dtupO, dtup, dfrz, ofO, Res.bind, isFrz, allFrz, frz, frzs, ecall, aslot, aval, anil, argF, isAtom, fnF, maskF, tfP, tfD, tfand, tfor, tfnot, toB, pIsa, tyN, isaT, dand, dor, dnot, sbad, tyes, List.getElem?_cons_zero, List.getElem?_cons_succ, List.getElem?_nil, List.set_cons_zero, List.set_cons_succ, Option.bind, Option.map, Bool.false_eq_true, if_false, if_true, reduceIte, List.map_cons, List.map_nil, List.replicate, List.nil_append, List.cons_append, List.any_cons, List.any_nil, id_eq, Bool.or_false, Bool.or_true, Bool.not_false, Bool.not_true, Bool.and_true, Bool.and_false, Bool.true_and, Bool.false_and, String.reduceBEq, beq_self_eq_true, Bool.or_false, Bool.false_or, Bool.true_or, ej, addS a1, addS a2]
    rw [wr]
/-! ### is_text, is_value -/
theorem bAll_ok {α : Type} (o : Bool) (l : List α) : bAll [.lst o (l.map fun _ => .bl true)] = some (.bl true) := by
  have e : l.map (fun _ => D.bl true) = (l.map fun _ => true).map D.bl := by rw [List.map_map]; rfl
  show (blsOf (l.map fun _ => D.bl true)).map (fun ns => D.bl (ns.all id)) = _
  rw [e, blsOf_of]
  show some (D.bl ((l.map fun _ => true).all id)) = _
  have : (l.map fun _ => true).all id = true := by
    rw [List.all_map]; exact List.all_eq_true.mpr fun _ _ => rfl
  rw [this]
theorem istext_ok (x : List Nat) (h : TX x) (hl : x.length ≤ 1000) : F_p_is_text [.str x] = .ok (.bl true, [none]) := by
  have hc := comp_map (bf := bname 1) (elt := b_p_is_text_1) (vs := [1]) [some (.str x), none] (fun _ => .bl true) (signsD x) (fun d hd => by
    obtain ⟨c, hc, rfl⟩ := List.mem_map.mp hd
    refine ⟨_, .bl true, [some (.str x), some (.str [c])], rfl, ?_, rfl, rfl⟩
    have e1 : pIn (.str [c]) cSIGNS = some (.bl true) := by
      show some (D.bl (decide (c ∈ sg))) = _
      rw [decide_eq_true (h c hc)]
    unfold b_p_is_text_1
    simp (disch := omega) only [backF, List.length_cons, List.length_nil, Nat.reduceAdd, Nat.reduceLeDiff, Nat.zero_add, sseq, sif, sset, sret, sretv, sretn, spass, sbrk, scont, sdrop, sstore, saug, sunpO, bnames, toD, evar, emv, p1, p2, d2, pvar, pcst, pcall, pcons, pnil, dcons, dnil, dcall, dlst, dtupO, dtup, dfrz, ofO, Res.bind, isFrz, allFrz, frz, frzs, ecall, aslot, aval, anil, argF, isAtom, fnF, maskF, tfP, tfD, tfand, tfor, tfnot, toB, pIsa, tyN, isaT, dand, dor, dnot, sbad, tyes, List.getElem?_cons_zero, List.getElem?_cons_succ, List.getElem?_nil, List.set_cons_zero, List.set_cons_succ, Option.bind, Option.map, Bool.false_eq_true, if_false, if_true, reduceIte, List.map_cons, List.map_nil, List.replicate, List.nil_append, List.cons_append, List.any_cons, List.any_nil, id_eq, Bool.or_false, Bool.or_true, Bool.not_false, Bool.not_true, Bool.and_true, Bool.and_false, Bool.true_and, Bool.false_and, bname, e1])
  have hx1 : (signsD x).length ≤ 1000000 := by unfold signsD; rw [List.length_map]; omega
  unfold F_p_is_text b_p_is_text
  simp (disch := omega) only [backF, List.length_cons, List.length_nil, Nat.reduceAdd, Nat.reduceLeDiff, Nat.zero_add, sseq, sif, sset, sret, sretv, sretn, spass, sbrk, scont, sdrop, sstore, saug, sunpO, bnames, toD, evar, emv, p1, p2, d2, pvar, pcst, pcall, pcons, pnil, dcons, dnil, dcall, dlst, dtupO, dtup, dfrz, ofO, Res.bind, isFrz, allFrz, frz, frzs, ecall, aslot, aval, anil, argF, isAtom, fnF, maskF, tfP, tfD, tfand, tfor, tfnot, toB, pIsa, tyN, isaT, dand, dor, dnot, sbad, tyes, List.getElem?_cons_zero, List.getElem?_cons_succ, List.getElem?_nil, List.set_cons_zero, List.set_cons_succ, Option.bind, Option.map, Bool.false_eq_true, if_false, if_true, reduceIte, List.map_cons, List.map_nil, List.replicate, List.nil_append, List.cons_append, List.any_cons, List.any_nil, id_eq, Bool.or_false, Bool.or_true, Bool.not_false, Bool.not_true, Bool.and_true, Bool.and_false, Bool.true_and, Bool.false_and, String.reduceBEq, beq_self_eq_true, Bool.or_false, Bool.false_or, Bool.true_or, dcomp, srcS, compR, hx1, wipeE, hc, bAll_ok]
theorem isvalue_ok {k : Nat} {x : D} (h : VL k x) : ∀ n, k + 1 ≤ n → ∃ o, F_p_is_value n [x] = .ok (.bl true, [o]) := by
  induction h with
  | leaf h =>
    intro n hn
    obtain ⟨m, rfl⟩ : ∃ m, n = m + 1 := ⟨n - 1, by omega⟩
    rw [F_p_is_value]
    unfold b_p_is_value
    cases h with
    | non => exact ⟨_, rfl⟩
    | bl b => cases b <;> exact ⟨_, rfl⟩
    | int i h => exact ⟨_, rfl⟩
    | str x h hl =>
      refine ⟨none, ?_⟩
      have e1 : pIsN (.str x) .non = some (.bl false) := rfl
      simp (disch := omega) only [backF, List.length_cons, List.length_nil, Nat.reduceAdd, Nat.reduceLeDiff, Nat.zero_add, sseq, sif, sset, sret, sretv, sretn, spass, sbrk, scont, sdrop, sstore, saug, sunpO, bnames, toD, evar, emv, p1, p2, d2, pvar, pcst, pcall, pcons, pnil, dcons, dnil, dcall, dlst, dtupO, dtup, dfrz, ofO, Res.bind, isFrz, allFrz, frz, frzs, ecall, aslot, aval, anil, argF, isAtom, fnF, maskF, tfP, tfD, tfand, tfor, tfnot, toB, pIsa, tyN, isaT, dand, dor, dnot, sbad, tyes, List.getElem?_cons_zero, List.getElem?_cons_succ, List.getElem?_nil, List.set_cons_zero, List.set_cons_succ, Option.bind, Option.map, Bool.false_eq_true, if_false, if_true, reduceIte, List.map_cons, List.map_nil, List.replicate, List.nil_append, List.cons_append, List.any_cons, List.any_nil, id_eq, Bool.or_false, Bool.or_true, Bool.not_false, Bool.not_true, Bool.and_true, Bool.and_false, Bool.true_and, Bool.false_and, e1, String.reduceBEq, beq_self_eq_true, Bool.or_false, Bool.false_or, Bool.true_or, istext_ok x h (by omega)]
  | @lst k o xs hl hz h ih =>
    intro n hn
    obtain ⟨m, rfl⟩ : ∃ m, n = m + 1 := ⟨n - 1, by omega⟩
    rw [F_p_is_value]
    unfold b_p_is_value
    have e1 : pIsN (.lst o xs) .non = some (.bl false) := rfl
    have hc := comp_map (bf := bname 1) (elt := b_p_is_value_1 (F_p_is_value m)) (vs := [1]) [some (.lst false xs), none, none, none] (fun _ => .bl true) xs (fun x hx => by
      obtain ⟨o2, q⟩ := ih x hx m (by omega)
      obtain ⟨z1, z2⟩ := frz_mem hz hx
      refine ⟨_, .bl true, [some (.lst false xs), some x, none, none], rfl, ?_, rfl, rfl⟩
      unfold b_p_is_value_1
      simp (disch := omega) only [backF, List.length_cons, List.length_nil, Nat.reduceAdd, Nat.reduceLeDiff, Nat.zero_add, sseq, sif, sset, sret, sretv, sretn, spass, sbrk, scont, sdrop, sstore, saug, sunpO, bnames, toD, evar, emv, p1, p2, d2, pvar, pcst, pcall, pcons, pnil, dcons, dnil, dcall, dlst, dtupO, dtup, dfrz, ofO, Res.bind, isFrz, allFrz, frz, frzs, ecall, aslot, aval, anil, argF, isAtom, fnF, maskF, tfP, tfD, tfand, tfor, tfnot, toB, pIsa, tyN, isaT, dand, dor, dnot, sbad, tyes, List.getElem?_cons_zero, List.getElem?_cons_succ, List.getElem?_nil, List.set_cons_zero, List.set_cons_succ, Option.bind, Option.map, Bool.false_eq_true, if_false, if_true, reduceIte, List.map_cons, List.map_nil, List.replicate, List.nil_append, List.cons_append, List.any_cons, List.any_nil, id_eq, Bool.or_false, Bool.or_true, Bool.not_false, Bool.not_true, Bool.and_true, Bool.and_false, Bool.true_and, Bool.false_and, bname, z2, q])
    have hx1 : xs.length ≤ 1000000 := by omega
    refine ⟨none, ?_⟩
    simp (disch := omega) only [backF, List.length_cons, List.length_nil, Nat.reduceAdd, Nat.reduceLeDiff, Nat.zero_add, sseq, sif, sset, sret, sretv, sretn, spass, sbrk, scont, sdrop, sstore, saug, sunpO, bnames, toD, evar, emv, p1, p2, d2, pvar, pcst, pcall, pcons, pnil, dcons, dnil, dcall, dlst, dtupO, dtup, dfrz, ofO, Res.bind, isFrz, allFrz, frz, frzs, ecall, aslot, aval, anil, argF, isAtom, fnF, maskF, tfP, tfD, tfand, tfor, tfnot, toB, pIsa, tyN, isaT, dand, dor, dnot, sbad, tyes, List.getElem?_cons_zero, List.getElem?_cons_succ, List.getElem?_nil, List.set_cons_zero, List.set_cons_succ, Option.bind, Option.map, Bool.false_eq_true, if_false, if_true, reduceIte, List.map_cons, List.map_nil, List.replicate, List.nil_append, List.cons_append, List.any_cons, List.any_nil, id_eq, Bool.or_false, Bool.or_true, Bool.not_false, Bool.not_true, Bool.and_true, Bool.and_false, Bool.true_and, Bool.false_and, e1, String.reduceBEq, beq_self_eq_true, Bool.or_false, Bool.false_or, Bool.true_or, dcomp, srcL, frzs_of _ hz, compR, hx1, wipeE, hc, bAll_ok]
  | @dic k o ks xs hl hn h11 hk0 hz h ih =>
    intro n hn'
    obtain ⟨m, rfl⟩ : ∃ m, n = m + 1 := ⟨n - 1, by omega⟩
    rw [F_p_is_value]
    unfold b_p_is_value
    have e1 : pIsN (.dic o ks xs) .non = some (.bl false) := rfl
    have hc := comp_map (bf := btup [2, 3]) (elt := b_p_is_value_2 F_p_is_text (F_p_is_value m)) (vs := [2, 3]) [some (.dic false ks xs), none, none, none] (fun _ => .bl true) (zipD (ks.map .str) xs) (fun d hd => by
      obtain ⟨i, hi⟩ := List.getElem?_of_mem hd
      obtain ⟨a, y, h1, h2, rfl⟩ := zipD_get hi
      rw [List.getElem?_map] at h1
      obtain ⟨q, hq, rfl⟩ := Option.map_eq_some_iff.mp h1
      have hqk := List.mem_of_getElem? hq
      have hy := List.mem_of_getElem? h2
      obtain ⟨o2, q2⟩ := ih y hy m (by omega)
      obtain ⟨z1, z2⟩ := frz_mem hz hy
      refine ⟨_, .bl true, [some (.dic false ks xs), none, some (.str q), some y], rfl, ?_, rfl, rfl⟩
      unfold b_p_is_value_2
      simp (disch := omega) only [backF, List.length_cons, List.length_nil, Nat.reduceAdd, Nat.reduceLeDiff, Nat.zero_add, sseq, sif, sset, sret, sretv, sretn, spass, sbrk, scont, sdrop, sstore, saug, sunpO, bnames, toD, evar, emv, p1, p2, d2, pvar, pcst, pcall, pcons, pnil, dcons, dnil, dcall, dlst, dtupO, dtup, dfrz, ofO, Res.bind, isFrz, allFrz, frz, frzs, ecall, aslot, aval, anil, argF, isAtom, fnF, maskF, tfP, tfD, tfand, tfor, tfnot, toB, pIsa, tyN, isaT, dand, dor, dnot, sbad, tyes, List.getElem?_cons_zero, List.getElem?_cons_succ, List.getElem?_nil, List.set_cons_zero, List.set_cons_succ, Option.bind, Option.map, Bool.false_eq_true, if_false, if_true, reduceIte, List.map_cons, List.map_nil, List.replicate, List.nil_append, List.cons_append, List.any_cons, List.any_nil, id_eq, Bool.or_false, Bool.or_true, Bool.not_false, Bool.not_true, Bool.and_true, Bool.and_false, Bool.true_and, Bool.false_and, btup, bnames, istext_ok q (hk0 q hqk).1 (by have := (hk0 q hqk).2; omega), z2, q2])
    have hx1 : (zipD (ks.map .str) xs).length ≤ 1000000 := by rw [zipD_len, List.length_map]; omega
    refine ⟨none, ?_⟩
    simp (disch := omega) only [backF, List.length_cons, List.length_nil, Nat.reduceAdd, Nat.reduceLeDiff, Nat.zero_add, sseq, sif, sset, sret, sretv, sretn, spass, sbrk, scont, sdrop, sstore, saug, sunpO, bnames, toD, evar, emv, p1, p2, d2, pvar, pcst, pcall, pcons, pnil, dcons, dnil, dcall, dlst, dtupO, dtup, dfrz, ofO, Res.bind, isFrz, allFrz, frz, frzs, ecall, aslot, aval, anil, argF, isAtom, fnF, maskF, tfP, tfD, tfand, tfor, tfnot, toB, pIsa, tyN, isaT, dand, dor, dnot, sbad, tyes, List.getElem?_cons_zero, List.getElem?_cons_succ, List.getElem?_nil, List.set_cons_zero, List.set_cons_succ, Option.bind, Option.map, Bool.false_eq_true, if_false, if_true, reduceIte, List.map_cons, List.map_nil, List.replicate, List.nil_append, List.cons_append, List.any_cons, List.any_nil, id_eq, Bool.or_false, Bool.or_true, Bool.not_false, Bool.not_true, Bool.and_true, Bool.and_false, Bool.true_and, Bool.false_and, e1, String.reduceBEq, beq_self_eq_true, Bool.or_false, Bool.false_or, Bool.true_or, dcomp, srcD, dwD, frzs_of _ hz, compR, hx1, wipeE, hc, bAll_ok]
end K79

namespace K79
open PySem PySem.NumText PySem.Builtin PyProof.Rows L2 DL
/-! ### reading -/
theorem cut1 {x : List Nat} {a : Nat} : cutL x (some (a : Int)) (some ((a : Int) + 1)) = (x.drop a).take 1 := cutL_pt x a 1
theorem cut2 {x : List Nat} {a : Nat} : cutL x (some (a : Int)) (some ((a : Int) + 2)) = (x.drop a).take 2 := cutL_pt x a 2
theorem eqS {x y : List Nat} : pEq (.str x) (.str y) = some (.bl (decide (x = y))) := rfl
theorem neS {x y : List Nat} : pNe (.str x) (.str y) = some (.bl (!decide (x = y))) := rfl
theorem lenS {x : List Nat} (h : x.length ≤ 16777216) : bLen [.str x] = some (.int (x.length : Nat)) := by
  show (if x.length ≤ 16777216 then some (D.int (x.length : Nat)) else none) = _
  rw [if_pos h]
/-- what may stand behind a value -/
def RO (r : List Nat) : Prop := r = [] ∨ ∃ c r', r = c :: r' ∧ (c = 44 ∨ c = 93 ∨ c = 125 ∨ c = 58)
theorem drop_add {t w r : List Nat} {a : Nat} (h : t.drop a = w ++ r) : t.drop (a + w.length) = r := by
  rw [← List.drop_drop, h, List.drop_left]
theorem drop_lt {t r : List Nat} {c a : Nat} (h : t.drop a = c :: r) : a < t.length ∧ t[a]? = some c ∧ t.drop (a + 1) = r := by
  have hl : a < t.length := by
    by_cases q : a < t.length
    · exact q
    · rw [List.drop_eq_nil_of_le (by omega)] at h; cases h
  refine ⟨hl, ?_, ?_⟩
  · have := congrArg (·[0]?) h
    simpa using this
  · have := drop_add (w := [c]) (r := r) h
    exact this
theorem at_sign {t r : List Nat} {c a : Nat} (h : t.drop a = c :: r) (hl : t.length ≤ 16777216) : pIx (.str t) (.int (a : Nat)) = some (.str [c]) := by
  obtain ⟨h1, h2, _⟩ := drop_lt h
  refine ixS hl ?_
  unfold atI
  rw [ixN_ok (by omega) (by omega)]
  exact h2
theorem place_ok {t w r : List Nat} {a : Nat} (hl : t.length ≤ 4000) (h : t.drop a = w ++ r) : F_p_place_behind [.str t, .int (a : Nat), .str w] = .ok (.int ((a + w.length : Nat) : Int), [none, none, none]) := by
  have htl : t.length ≤ 16777216 := by omega
  have hw : w.length ≤ 16777216 := by
    have := congrArg List.length h
    rw [List.length_drop, List.length_append] at this
    omega
  have e1 : cutL t (some (a : Int)) (some ((a : Int) + (w.length : Nat))) = w := by
    rw [cutL_pt, h, List.take_left]
  have e2 : ((a + w.length : Nat) : Int) = (a : Int) + (w.length : Nat) := by omega
  unfold F_p_place_behind b_p_place_behind
  rw [e2]
  simp (disch := omega) only [backF, List.length_cons, List.length_nil, Nat.reduceAdd, Nat.reduceLeDiff, Nat.zero_add, sseq, sif, sset, sret, sretv, sretn, spass, sbrk, scont, sdrop, sstore, saug, sunpO, bnames, toD, evar, emv, p1, p2, d2, pvar, pcst, pcall, pcons, pnil, dcons, dnil, dcall, dlst, dtupO, dtup, dfrz, ofO, Res.bind, isFrz, allFrz, frz, frzs, ecall, aslot, aval, anil, argF, isAtom, fnF, maskF, tfP, tfD, tfand, tfor, tfnot, toB, pIsa, tyN, isaT, dand, dor, dnot, sbad, tyes, List.getElem?_cons_zero, List.getElem?_cons_succ, List.getElem?_nil, List.set_cons_zero, List.set_cons_succ, Option.bind, Option.map, Bool.false_eq_true, if_false, if_true, reduceIte, List.map_cons, List.map_nil, List.replicate, List.nil_append, List.cons_append, List.any_cons, List.any_nil, id_eq, Bool.or_false, Bool.or_true, Bool.not_false, Bool.not_true, Bool.and_true, Bool.and_false, Bool.true_and, Bool.false_and, psl, oSome, lenS hw, add_ok, slS htl, e1, neS, decide_true]
theorem rquoted_ok {t x r : List Nat} {a : Nat} (hl : t.length ≤ 4000) (h : t.drop a = qt x ++ r) (hr : RO r) : F_p_read_quoted [.str t, .int (a : Nat)] = .ok (.otu [.str x, .int ((a + (qt x).length : Nat) : Int)], [none, none]) := by
  have htl : t.length ≤ 16777216 := by omega
  have h0 : t.drop a = [34] ++ (dbl x ++ 34 :: r) := by rw [h]; unfold qt; simp
  have hp := place_ok hl h0
  have h1 := drop_add h0
  have hql : (qt x).length = (dbl x).length + 2 := by unfold qt; simp
  have hw := wh_ind (c := b_p_read_quoted_1) (b := b_p_read_quoted_2)
    (fun m e => ∃ (p : Nat) (done rem : List Nat), m = rem.length ∧ x = done ++ rem ∧ t.drop p = dbl rem ++ 34 :: r ∧ p + (dbl rem).length + 1 = a + (qt x).length ∧ done.length ≤ p ∧ e = [some (.str t), some (.int (p : Nat)), some (.str done)])
    (fun f => ∃ p : Int, f = .ret (.otu [.str x, .int ((a + (qt x).length : Nat) : Int)]) [some (.str t), some (.int p), none])
    (fun ⟨_, z⟩ => by cases z) (fun m e ⟨p, done, rem, g1, g2, g3, g4, g6, g5⟩ => by
      subst g5
      have hne : ∃ c q, t.drop p = c :: q := by
        rw [g3]
        cases hd : dbl rem with
        | nil => exact ⟨_, _, rfl⟩
        | cons c q => exact ⟨_, _, rfl⟩
      obtain ⟨c, q, hcq⟩ := hne
      obtain ⟨l1, l2, l3⟩ := drop_lt hcq
      have sg1 := at_sign hcq htl
      refine .inr ⟨[some (.str t), some (.int (p : Nat)), some (.str done)], ?_, ?_⟩
      · unfold b_p_read_quoted_1
        have e : decide ((p : Int) < (t.length : Nat)) = true := decide_eq_true (by omega)
        simp (disch := omega) only [backF, List.length_cons, List.length_nil, Nat.reduceAdd, Nat.reduceLeDiff, Nat.zero_add, sseq, sif, sset, sret, sretv, sretn, spass, sbrk, scont, sdrop, sstore, saug, sunpO, bnames, toD, evar, emv, p1, p2, d2, pvar, pcst, pcall, pcons, pnil, dcons, dnil, dcall, dlst, dtupO, dtup, dfrz, ofO, Res.bind, isFrz, allFrz, frz, frzs, ecall, aslot, aval, anil, argF, isAtom, fnF, maskF, tfP, tfD, tfand, tfor, tfnot, toB, pIsa, tyN, isaT, dand, dor, dnot, sbad, tyes, List.getElem?_cons_zero, List.getElem?_cons_succ, List.getElem?_nil, List.set_cons_zero, List.set_cons_succ, Option.bind, Option.map, Bool.false_eq_true, if_false, if_true, reduceIte, List.map_cons, List.map_nil, List.replicate, List.nil_append, List.cons_append, List.any_cons, List.any_nil, id_eq, Bool.or_false, Bool.or_true, Bool.not_false, Bool.not_true, Bool.and_true, Bool.and_false, Bool.true_and, Bool.false_and, lenS htl, lt_ok, e]
      · cases rem with
        | nil =>
          refine .inr (.inr ⟨_, [some (.str t), some (.int (p : Nat)), none], ?_, ((p : Nat) : Int), rfl⟩)
          have hc : c = 34 ∧ q = r := by
            rw [g3] at hcq
            exact ⟨(List.cons.inj hcq).1.symm, (List.cons.inj hcq).2.symm⟩
          obtain ⟨rfl, rfl⟩ := hc
          have e1 : decide ((t.drop p).take 2 = [34, 34]) = false := decide_eq_false fun z => by
            rw [hcq] at z
            rcases hr with rfl | ⟨c', r', rfl, hc'⟩
            · simp at z
            · have := (List.cons.inj (List.cons.inj z).2).1
              omega
          have e2 : ((a + (qt x).length : Nat) : Int) = (p : Int) + 1 := by
            have : (dbl []).length = 0 := rfl
            omega
          have e3 : x = done := by rw [g2, List.append_nil]
          rw [e2, e3]
          unfold b_p_read_quoted_2
          simp (disch := omega) only [backF, List.length_cons, List.length_nil, Nat.reduceAdd, Nat.reduceLeDiff, Nat.zero_add, sseq, sif, sset, sret, sretv, sretn, spass, sbrk, scont, sdrop, sstore, saug, sunpO, bnames, toD, evar, emv, p1, p2, d2, pvar, pcst, pcall, pcons, pnil, dcons, dnil, dcall, dlst, dtupO, dtup, dfrz, ofO, Res.bind, isFrz, allFrz, frz, frzs, ecall, aslot, aval, anil, argF, isAtom, fnF, maskF, tfP, tfD, tfand, tfor, tfnot, toB, pIsa, tyN, isaT, dand, dor, dnot, sbad, tyes, List.getElem?_cons_zero, List.getElem?_cons_succ, List.getElem?_nil, List.set_cons_zero, List.set_cons_succ, Option.bind, Option.map, Bool.false_eq_true, if_false, if_true, reduceIte, List.map_cons, List.map_nil, List.replicate, List.nil_append, List.cons_append, List.any_cons, List.any_nil, id_eq, Bool.or_false, Bool.or_true, Bool.not_false, Bool.not_true, Bool.and_true, Bool.and_false, Bool.true_and, Bool.false_and, psl, oSome, add_ok, slS htl, cut2, eqS, e1, sg1, decide_true]
        | cons d rem =>
          left
          have hd : done.length + [d].length ≤ 16777216 := by show _ + 1 ≤ _; omega
          by_cases h34 : d = 34
          · subst h34
            have hdb : dbl (34 :: rem) = 34 :: 34 :: dbl rem := rfl
            rw [hdb] at g3 g4
            have e1 : decide ((t.drop p).take 2 = [34, 34]) = true := decide_eq_true (by rw [g3]; rfl)
            have e2 : ((p + 2 : Nat) : Int) = (p : Int) + 2 := by omega
            refine ⟨[some (.str t), some (.int ((p + 2 : Nat) : Int)), some (.str (done ++ [34]))], rem.length, ?_, by rw [g1]; exact Nat.lt_succ_self _, p + 2, done ++ [34], rem, rfl, by rw [g2, List.append_assoc]; rfl, drop_add (w := [34, 34]) g3, by rw [List.length_cons, List.length_cons] at g4; omega, by rw [List.length_append]; show _ + 1 ≤ _; omega, rfl⟩
            rw [e2]
            unfold b_p_read_quoted_2
            simp (disch := omega) only [backF, List.length_cons, List.length_nil, Nat.reduceAdd, Nat.reduceLeDiff, Nat.zero_add, sseq, sif, sset, sret, sretv, sretn, spass, sbrk, scont, sdrop, sstore, saug, sunpO, bnames, toD, evar, emv, p1, p2, d2, pvar, pcst, pcall, pcons, pnil, dcons, dnil, dcall, dlst, dtupO, dtup, dfrz, ofO, Res.bind, isFrz, allFrz, frz, frzs, ecall, aslot, aval, anil, argF, isAtom, fnF, maskF, tfP, tfD, tfand, tfor, tfnot, toB, pIsa, tyN, isaT, dand, dor, dnot, sbad, tyes, List.getElem?_cons_zero, List.getElem?_cons_succ, List.getElem?_nil, List.set_cons_zero, List.set_cons_succ, Option.bind, Option.map, Bool.false_eq_true, if_false, if_true, reduceIte, List.map_cons, List.map_nil, List.replicate, List.nil_append, List.cons_append, List.any_cons, List.any_nil, id_eq, Bool.or_false, Bool.or_true, Bool.not_false, Bool.not_true, Bool.and_true, Bool.and_false, Bool.true_and, Bool.false_and, psl, oSome, add_ok, slS htl, cut2, eqS, e1, addSP hd]
          · have hdb : dbl (d :: rem) = d :: dbl rem := by
              show (if d = 34 then _ else _) = _
              rw [if_neg h34]
            rw [hdb] at g3 g4
            have hc : c = d := by
              rw [g3] at hcq
              exact (List.cons.inj hcq).1.symm
            subst hc
            have e1 : decide ((t.drop p).take 2 = [34, 34]) = false := decide_eq_false fun z => by
              rw [g3] at z
              exact h34 (List.cons.inj z).1
            have e3 : decide ([c] = [34]) = false := decide_eq_false fun z => h34 (List.cons.inj z).1
            have e2 : ((p + 1 : Nat) : Int) = (p : Int) + 1 := by omega
            refine ⟨[some (.str t), some (.int ((p + 1 : Nat) : Int)), some (.str (done ++ [c]))], rem.length, ?_, by rw [g1]; exact Nat.lt_succ_self _, p + 1, done ++ [c], rem, rfl, by rw [g2, List.append_assoc]; rfl, drop_add (w := [c]) g3, by rw [List.length_cons] at g4; omega, by rw [List.length_append]; show _ + 1 ≤ _; omega, rfl⟩
            rw [e2]
            unfold b_p_read_quoted_2
            simp (disch := omega) only [backF, List.length_cons, List.length_nil, Nat.reduceAdd, Nat.reduceLeDiff, Nat.zero_add, sseq, sif, sset, sret, sretv, sretn, spass, sbrk, scont, sdrop, sstore, saug, sunpO, bnames, toD, evar, emv, p1, p2, d2, pvar, pcst, pcall, pcons, pnil, dcons, dnil, dcall, dlst, dtupO, dtup, dfrz, ofO, Res.bind, isFrz, allFrz, frz, frzs, ecall, aslot, aval, anil, argF, isAtom, fnF, maskF, tfP, tfD, tfand, tfor, tfnot, toB, pIsa, tyN, isaT, dand, dor, dnot, sbad, tyes, List.getElem?_cons_zero, List.getElem?_cons_succ, List.getElem?_nil, List.set_cons_zero, List.set_cons_succ, Option.bind, Option.map, Bool.false_eq_true, if_false, if_true, reduceIte, List.map_cons, List.map_nil, List.replicate, List.nil_append, List.cons_append, List.any_cons, List.any_nil, id_eq, Bool.or_false, Bool.or_true, Bool.not_false, Bool.not_true, Bool.and_true, Bool.and_false, Bool.true_and, Bool.false_and, psl, oSome, add_ok, slS htl, cut2, eqS, e1, sg1, e3, addSP hd])
    x.length [some (.str t), some (.int ((a + 1 : Nat) : Int)), some (.str [])] ⟨a + 1, [], x, rfl, rfl, h1, by omega, Nat.zero_le _, rfl⟩
  obtain ⟨e, hw⟩ := hw
  unfold F_p_read_quoted b_p_read_quoted
  have hp' : F_p_place_behind [.str t, .int (a : Nat), .str [34]] = .ok (.int ((a + 1 : Nat) : Int), [none, none, none]) := hp
  simp (disch := omega) only [backF, List.length_cons, List.length_nil, Nat.reduceAdd, Nat.reduceLeDiff, Nat.zero_add, sseq, sif, sset, sret, sretv, sretn, spass, sbrk, scont, sdrop, sstore, saug, sunpO, bnames, toD, evar, emv, p1, p2, d2, pvar, pcst, pcall, pcons, pnil, dcons, dnil, dcall, dlst, dtupO, dtup, dfrz, ofO, Res.bind, isFrz, allFrz, frz, frzs, ecall, aslot, aval, anil, argF, isAtom, fnF, maskF, tfP, tfD, tfand, tfor, tfnot, toB, pIsa, tyN, isaT, dand, dor, dnot, sbad, tyes, List.getElem?_cons_zero, List.getElem?_cons_succ, List.getElem?_nil, List.set_cons_zero, List.set_cons_succ, Option.bind, Option.map, Bool.false_eq_true, if_false, if_true, reduceIte, List.map_cons, List.map_nil, List.replicate, List.nil_append, List.cons_append, List.any_cons, List.any_nil, id_eq, Bool.or_false, Bool.or_true, Bool.not_false, Bool.not_true, Bool.and_true, Bool.and_false, Bool.true_and, Bool.false_and, hp', hw]
/-! numbers -/
theorem dig_sign {c : Nat} (h : 48 ≤ c ∧ c ≤ 57) : pIn (.str [c]) cFIGURES = some (.bl true) := by
  show some (D.bl (decide (c ∈ [48, 49, 50, 51, 52, 53, 54, 55, 56, 57]))) = _
  rw [decide_eq_true]
  simp only [List.mem_cons, List.not_mem_nil, or_false]
  omega
theorem dig_not {c : Nat} (h : ¬ (48 ≤ c ∧ c ≤ 57)) : pIn (.str [c]) cFIGURES = some (.bl false) := by
  show some (D.bl (decide (c ∈ [48, 49, 50, 51, 52, 53, 54, 55, 56, 57]))) = _
  rw [decide_eq_false]
  simp only [List.mem_cons, List.not_mem_nil, or_false]
  omega
theorem showI_back {i : Int} (h : i.natAbs < 10 ^ 61) : bInt [.str (showI i)] = some (.int i) := by
  have hl := showI_len h
  show (if (showI i).length ≤ 640 then (PySem.intText? (Sx (showI i))).map D.int else none) = _
  rw [if_pos (by omega)]
  obtain ⟨ds, d1, d2', d3⟩ := showI_form i
  rcases d3 with ⟨e1, e2⟩ | ⟨e1, e2⟩
  · rw [e1] at hl ⊢
    have hx : (Sx ds).cps.toList = ds := by simp [Sx]
    rw [intText_digits (x := Sx ds) (by rw [hx]; exact d1) (by rw [hx]; exact d2') (by rw [Sx_len]; omega), hx, ← e2]
    rfl
  · rw [e1] at hl ⊢
    have hx : (Sx (45 :: ds)).cps.toList = 45 :: ds := by simp [Sx]
    rw [intText_neg (x := Sx (45 :: ds)) hx d1 d2' (by rw [Sx_len]; omega), ← e2]
    rfl
theorem rnumber_ok {t r : List Nat} {i : Int} {a : Nat} (hl : t.length ≤ 4000) (hi : i.natAbs < 10 ^ 61) (h : t.drop a = showI i ++ r) (hr : RO r) : F_p_read_number [.str t, .int (a : Nat)] = .ok (.otu [.int i, .int ((a + (showI i).length : Nat) : Int)], [none, none]) := by
  have htl : t.length ≤ 16777216 := by omega
  obtain ⟨ds, d1, d2', d3⟩ := showI_form i
  -- where the figures begin
  obtain ⟨b, hb1, hb2, hb3, hb4⟩ : ∃ b : Nat, t.drop b = ds ++ r ∧ b + ds.length = a + (showI i).length ∧ (decide ((t.drop a).take 1 = [45]) = true → b = a + 1) ∧ (decide ((t.drop a).take 1 = [45]) = false → b = a) := by
    rcases d3 with ⟨e1, _⟩ | ⟨e1, _⟩
    · refine ⟨a, by rw [h, e1], by rw [e1], fun z => ?_, fun _ => rfl⟩
      have z' := of_decide_eq_true z
      rw [h, e1] at z'
      cases ds with
      | nil => exact absurd rfl d2'
      | cons c ds =>
        have e : c = 45 := (List.cons.inj z').1
        have := d1 c List.mem_cons_self
        omega
    · refine ⟨a + 1, drop_add (w := [45]) (by rw [h, e1]; rfl), by rw [e1, List.length_cons]; omega, fun _ => rfl, fun z => ?_⟩
      have z' := of_decide_eq_false z
      exact absurd (by rw [h, e1]; rfl) z'
  have hbl : b ≤ t.length := by
    have := congrArg List.length hb1
    rw [List.length_drop, List.length_append] at this
    have h0 : 0 < ds.length := List.length_pos_iff.mpr d2'
    omega
  have hdl : ds.length ≤ 4000 := by
    have := congrArg List.length hb1
    rw [List.length_drop, List.length_append] at this
    omega
  have hw := wh_ind (c := b_p_read_number_1) (b := b_p_read_number_2)
    (fun m e => ∃ (p : Nat) (rem : List Nat), m = rem.length ∧ AllDigits rem ∧ t.drop p = rem ++ r ∧ p + rem.length = b + ds.length ∧ e = [some (.str t), some (.int (a : Nat)), some (.int (b : Nat)), some (.int (p : Nat))])
    (fun f => f = .next [some (.str t), some (.int (a : Nat)), some (.int (b : Nat)), some (.int ((b + ds.length : Nat) : Int))])
    (fun z => by cases z) (fun m e ⟨p, rem, g1, g2, g3, g4, g5⟩ => by
      subst g5
      cases rem with
      | nil =>
        left
        refine ⟨_, ?_, rfl⟩
        have ep : p = b + ds.length := g4
        rw [← ep]
        rcases hr with rfl | ⟨c, r', rfl, hc⟩
        · have hpl : t.length ≤ p := List.drop_eq_nil_iff.mp g3
          have e : decide ((p : Int) < (t.length : Nat)) = false := decide_eq_false (by omega)
          unfold b_p_read_number_1
          simp (disch := omega) only [backF, List.length_cons, List.length_nil, Nat.reduceAdd, Nat.reduceLeDiff, Nat.zero_add, sseq, sif, sset, sret, sretv, sretn, spass, sbrk, scont, sdrop, sstore, saug, sunpO, bnames, toD, evar, emv, p1, p2, d2, pvar, pcst, pcall, pcons, pnil, dcons, dnil, dcall, dlst, dtupO, dtup, dfrz, ofO, Res.bind, isFrz, allFrz, frz, frzs, ecall, aslot, aval, anil, argF, isAtom, fnF, maskF, tfP, tfD, tfand, tfor, tfnot, toB, pIsa, tyN, isaT, dand, dor, dnot, sbad, tyes, List.getElem?_cons_zero, List.getElem?_cons_succ, List.getElem?_nil, List.set_cons_zero, List.set_cons_succ, Option.bind, Option.map, Bool.false_eq_true, if_false, if_true, reduceIte, List.map_cons, List.map_nil, List.replicate, List.nil_append, List.cons_append, List.any_cons, List.any_nil, id_eq, Bool.or_false, Bool.or_true, Bool.not_false, Bool.not_true, Bool.and_true, Bool.and_false, Bool.true_and, Bool.false_and, lenS htl, lt_ok, e]
        · have g3' : t.drop p = c :: r' := g3
          obtain ⟨l1, l2, l3⟩ := drop_lt g3'
          have sg1 := at_sign g3' htl
          have e : decide ((p : Int) < (t.length : Nat)) = true := decide_eq_true (by omega)
          unfold b_p_read_number_1
          simp (disch := omega) only [backF, List.length_cons, List.length_nil, Nat.reduceAdd, Nat.reduceLeDiff, Nat.zero_add, sseq, sif, sset, sret, sretv, sretn, spass, sbrk, scont, sdrop, sstore, saug, sunpO, bnames, toD, evar, emv, p1, p2, d2, pvar, pcst, pcall, pcons, pnil, dcons, dnil, dcall, dlst, dtupO, dtup, dfrz, ofO, Res.bind, isFrz, allFrz, frz, frzs, ecall, aslot, aval, anil, argF, isAtom, fnF, maskF, tfP, tfD, tfand, tfor, tfnot, toB, pIsa, tyN, isaT, dand, dor, dnot, sbad, tyes, List.getElem?_cons_zero, List.getElem?_cons_succ, List.getElem?_nil, List.set_cons_zero, List.set_cons_succ, Option.bind, Option.map, Bool.false_eq_true, if_false, if_true, reduceIte, List.map_cons, List.map_nil, List.replicate, List.nil_append, List.cons_append, List.any_cons, List.any_nil, id_eq, Bool.or_false, Bool.or_true, Bool.not_false, Bool.not_true, Bool.and_true, Bool.and_false, Bool.true_and, Bool.false_and, lenS htl, lt_ok, e, sg1, dig_not (show ¬ (48 ≤ c ∧ c ≤ 57) by omega)]
      | cons d rem =>
        right
        have g3' : t.drop p = d :: (rem ++ r) := g3
        obtain ⟨l1, l2, l3⟩ := drop_lt g3'
        have sg1 := at_sign g3' htl
        have e : decide ((p : Int) < (t.length : Nat)) = true := decide_eq_true (by omega)
        have hd := g2 d List.mem_cons_self
        refine ⟨[some (.str t), some (.int (a : Nat)), some (.int (b : Nat)), some (.int (p : Nat))], ?_, .inl ⟨[some (.str t), some (.int (a : Nat)), some (.int (b : Nat)), some (.int ((p + 1 : Nat) : Int))], rem.length, ?_, by rw [g1]; exact Nat.lt_succ_self _, p + 1, rem, rfl, fun c hc => g2 c (List.mem_cons_of_mem _ hc), l3, by rw [List.length_cons] at g4; omega, rfl⟩⟩
        · unfold b_p_read_number_1
          simp (disch := omega) only [backF, List.length_cons, List.length_nil, Nat.reduceAdd, Nat.reduceLeDiff, Nat.zero_add, sseq, sif, sset, sret, sretv, sretn, spass, sbrk, scont, sdrop, sstore, saug, sunpO, bnames, toD, evar, emv, p1, p2, d2, pvar, pcst, pcall, pcons, pnil, dcons, dnil, dcall, dlst, dtupO, dtup, dfrz, ofO, Res.bind, isFrz, allFrz, frz, frzs, ecall, aslot, aval, anil, argF, isAtom, fnF, maskF, tfP, tfD, tfand, tfor, tfnot, toB, pIsa, tyN, isaT, dand, dor, dnot, sbad, tyes, List.getElem?_cons_zero, List.getElem?_cons_succ, List.getElem?_nil, List.set_cons_zero, List.set_cons_succ, Option.bind, Option.map, Bool.false_eq_true, if_false, if_true, reduceIte, List.map_cons, List.map_nil, List.replicate, List.nil_append, List.cons_append, List.any_cons, List.any_nil, id_eq, Bool.or_false, Bool.or_true, Bool.not_false, Bool.not_true, Bool.and_true, Bool.and_false, Bool.true_and, Bool.false_and, lenS htl, lt_ok, e, sg1, dig_sign hd]
        · have e2 : ((p + 1 : Nat) : Int) = (p : Int) + 1 := by omega
          rw [e2]
          unfold b_p_read_number_2
          simp (disch := omega) only [backF, List.length_cons, List.length_nil, Nat.reduceAdd, Nat.reduceLeDiff, Nat.zero_add, sseq, sif, sset, sret, sretv, sretn, spass, sbrk, scont, sdrop, sstore, saug, sunpO, bnames, toD, evar, emv, p1, p2, d2, pvar, pcst, pcall, pcons, pnil, dcons, dnil, dcall, dlst, dtupO, dtup, dfrz, ofO, Res.bind, isFrz, allFrz, frz, frzs, ecall, aslot, aval, anil, argF, isAtom, fnF, maskF, tfP, tfD, tfand, tfor, tfnot, toB, pIsa, tyN, isaT, dand, dor, dnot, sbad, tyes, List.getElem?_cons_zero, List.getElem?_cons_succ, List.getElem?_nil, List.set_cons_zero, List.set_cons_succ, Option.bind, Option.map, Bool.false_eq_true, if_false, if_true, reduceIte, List.map_cons, List.map_nil, List.replicate, List.nil_append, List.cons_append, List.any_cons, List.any_nil, id_eq, Bool.or_false, Bool.or_true, Bool.not_false, Bool.not_true, Bool.and_true, Bool.and_false, Bool.true_and, Bool.false_and, add_ok])
    ds.length [some (.str t), some (.int (a : Nat)), some (.int (b : Nat)), some (.int (b : Nat))] ⟨b, ds, rfl, d1, hb1, rfl, rfl⟩
  have h0 : 0 < ds.length := List.length_pos_iff.mpr d2'
  have en : decide (((b + ds.length : Nat) : Int) = (b : Nat)) = false := decide_eq_false (by omega)
  have ec : cutL t (some (a : Int)) (some ((b + ds.length : Nat) : Int)) = showI i := by
    rw [hb2, cutL_nat, h, show a + (showI i).length - a = (showI i).length by omega, List.take_left]
  have eb := showI_back hi
  unfold F_p_read_number b_p_read_number
  rw [← hb2]
  by_cases hm : (t.drop a).take 1 = [45]
  · have e1 := decide_eq_true hm
    have hba := hb3 e1
    have e2 : ((b : Nat) : Int) = (a : Int) + 1 := by omega
    rw [e2] at hw en
    simp (disch := omega) only [backF, List.length_cons, List.length_nil, Nat.reduceAdd, Nat.reduceLeDiff, Nat.zero_add, sseq, sif, sset, sret, sretv, sretn, spass, sbrk, scont, sdrop, sstore, saug, sunpO, bnames, toD, evar, emv, p1, p2, d2, pvar, pcst, pcall, pcons, pnil, dcons, dnil, dcall, dlst, dtupO, dtup, dfrz, ofO, Res.bind, isFrz, allFrz, frz, frzs, ecall, aslot, aval, anil, argF, isAtom, fnF, maskF, tfP, tfD, tfand, tfor, tfnot, toB, pIsa, tyN, isaT, dand, dor, dnot, sbad, tyes, List.getElem?_cons_zero, List.getElem?_cons_succ, List.getElem?_nil, List.set_cons_zero, List.set_cons_succ, Option.bind, Option.map, Bool.false_eq_true, if_false, if_true, reduceIte, List.map_cons, List.map_nil, List.replicate, List.nil_append, List.cons_append, List.any_cons, List.any_nil, id_eq, Bool.or_false, Bool.or_true, Bool.not_false, Bool.not_true, Bool.and_true, Bool.and_false, Bool.true_and, Bool.false_and, psl, oSome, add_ok, slS htl, cut1, eqS, e1, hw, eq_ok, en, ec, eb]
  · have e1 := decide_eq_false hm
    have hba := hb4 e1
    have e2 : ((b : Nat) : Int) = (a : Int) := by omega
    rw [e2] at hw en
    simp (disch := omega) only [backF, List.length_cons, List.length_nil, Nat.reduceAdd, Nat.reduceLeDiff, Nat.zero_add, sseq, sif, sset, sret, sretv, sretn, spass, sbrk, scont, sdrop, sstore, saug, sunpO, bnames, toD, evar, emv, p1, p2, d2, pvar, pcst, pcall, pcons, pnil, dcons, dnil, dcall, dlst, dtupO, dtup, dfrz, ofO, Res.bind, isFrz, allFrz, frz, frzs, ecall, aslot, aval, anil, argF, isAtom, fnF, maskF, tfP, tfD, tfand, tfor, tfnot, toB, pIsa, tyN, isaT, dand, dor, dnot, sbad, tyes, List.getElem?_cons_zero, List.getElem?_cons_succ, List.getElem?_nil, List.set_cons_zero, List.set_cons_succ, Option.bind, Option.map, Bool.false_eq_true, if_false, if_true, reduceIte, List.map_cons, List.map_nil, List.replicate, List.nil_append, List.cons_append, List.any_cons, List.any_nil, id_eq, Bool.or_false, Bool.or_true, Bool.not_false, Bool.not_true, Bool.and_true, Bool.and_false, Bool.true_and, Bool.false_and, psl, oSome, add_ok, slS htl, cut1, eqS, e1, hw, eq_ok, en, ec, eb]
end K79

namespace K79
open PySem PySem.NumText PySem.Builtin PyProof.Rows L2 DL
/-! ### what is read -/
def lkD (k : List Nat) : List (List Nat) → List D → D
  | k0 :: ks, d :: ds => if k0 = k then d else lkD k ks ds
  | _, _ => .non
mutual
def rd : D → D
  | .lst _ xs => .lst true (rds xs)
  | .dic _ ks xs => .dic true (sortT ks) ((sortT ks).map fun k => lkD k ks (rds xs))
  | x => x
def rds : List D → List D
  | [] => []
  | x :: xs => frz (rd x) :: rds xs
end
theorem rds_eq : ∀ xs, rds xs = xs.map fun x => frz (rd x)
  | [] => rfl
  | x :: xs => by rw [rds, rds_eq xs]; rfl
theorem rd_leaf {x : D} (h : Leaf x) : rd x = x := by cases h <;> rw [rd] <;> intros <;> contradiction
theorem look2 {k : List Nat} : ∀ {ks : List (List Nat)} {xs : List D}, k ∈ ks → ks.length = xs.length → ∃ x, x ∈ xs ∧ lookK k ks xs = some x ∧ lkT k ks (wrs xs) = wr x ∧ lkD k ks (rds xs) = frz (rd x)
  | [], _, h, _ => by cases h
  | _ :: _, [], _, h => by cases h
  | k0 :: ks, x :: xs, h, hl => by
    by_cases e : k0 = k
    · exact ⟨x, List.mem_cons_self, by rw [lookK, if_pos e], by rw [wrs, lkT, if_pos e], by rw [rds, lkD, if_pos e]⟩
    · have hk : k ∈ ks := (List.mem_cons.mp h).resolve_left fun z => e z.symm
      obtain ⟨y, h1, h2, h3, h4⟩ := look2 hk (Nat.succ.inj hl)
      exact ⟨y, List.mem_cons_of_mem _ h1, by rw [lookK, if_neg e]; exact h2, by rw [wrs, lkT, if_neg e]; exact h3, by rw [rds, lkD, if_neg e]; exact h4⟩
theorem wr_frz {k : Nat} {x : D} (h : VL k x) : wr (frz x) = wr x := by
  cases h with
  | leaf h => rw [h.fz.2.1]
  | lst hl hz h => rw [DL.frz, frzs_of _ hz, wr, wr]
  | dic hl hn h11 hk hz h => rw [DL.frz, frzs_of _ hz, wr, wr]
theorem lkT_map {k : List Nat} {ks : List (List Nat)} {f : List Nat → D} : ∀ {l : List (List Nat)}, k ∈ l → lkT k l (wrs (l.map f)) = wr (f k)
  | [], h => by cases h
  | q :: l, h => by
    rw [List.map_cons, wrs, lkT]
    by_cases e : q = k
    · rw [if_pos e, e]
    · rw [if_neg e]; exact lkT_map (ks := ks) ((List.mem_cons.mp h).resolve_left fun z => e z.symm)
theorem sort_sort (ks : List (List Nat)) : sortT (sortT ks) = sortT ks := asc_unique (sortT_perm _) (sortT_asc _) (sortT_asc _)
theorem rd_ok {k : Nat} {x : D} (h : VL k x) : VL k (rd x) ∧ wr (rd x) = wr x := by
  induction h with
  | leaf h => rw [rd_leaf h]; exact ⟨.leaf h, rfl⟩
  | @lst k o xs hl hz h ih =>
    rw [rd, rds_eq, wr, wr, wrs_eq, wrs_eq, List.map_map]
    refine ⟨.lst (by rw [List.length_map]; exact hl) ?_ fun y hy => ?_, ?_⟩
    · rw [allFrz_eq, List.all_map]
      exact List.all_eq_true.mpr fun _ _ => isFrz_frz _
    · obtain ⟨x, hx, rfl⟩ := List.mem_map.mp hy
      exact (ih x hx).1.fz
    · have : xs.map (wr ∘ fun x => frz (rd x)) = xs.map wr := List.map_congr_left fun x hx => by
        show wr (frz (rd x)) = _
        rw [wr_frz (ih x hx).1, (ih x hx).2]
      rw [this]
  | @dic k o ks xs hl hn h11 hk hz h ih =>
    rw [rd, wr, wr, sort_sort]
    refine ⟨.dic (by rw [List.length_map]) ((sortT_perm ks).nodup_iff.mpr hn) (by rw [sortT_len]; exact h11) (fun q hq => hk q (sortT_mem.mp hq)) ?_ fun y hy => ?_, ?_⟩
    · rw [allFrz_eq, List.all_map]
      refine List.all_eq_true.mpr fun q hq => ?_
      obtain ⟨y, y1, y2, y3, y4⟩ := look2 (sortT_mem.mp hq) hl
      show isFrz (lkD q ks (rds xs)) = true
      rw [y4]; exact isFrz_frz _
    · obtain ⟨q, hq, rfl⟩ := List.mem_map.mp hy
      obtain ⟨y, y1, y2, y3, y4⟩ := look2 (sortT_mem.mp hq) hl
      rw [y4]
      exact (ih y y1).1.fz
    · have : (sortT ks).map (fun q => qt q ++ 58 :: 32 :: lkT q (sortT ks) (wrs ((sortT ks).map fun k => lkD k ks (rds xs)))) = (sortT ks).map fun q => qt q ++ 58 :: 32 :: lkT q ks (wrs xs) := List.map_congr_left fun q hq => by
        obtain ⟨y, y1, y2, y3, y4⟩ := look2 (sortT_mem.mp hq) hl
        rw [lkT_map (ks := ks) hq, y4, y3, wr_frz (ih y y1).1, (ih y y1).2]
      rw [this]
theorem frz2 (d : D) : frz (frz d) = frz d := frz_of _ (isFrz_frz d)
/-- the first sign tells the kind -/
theorem wr_head {k : Nat} {x : D} (h : VL k x) : ∃ c q, wr x = c :: q ∧ c ≠ 93 ∧ c ≠ 125 := by
  cases h with
  | leaf h =>
    cases h with
    | non => exact ⟨110, _, rfl, by decide, by decide⟩
    | bl b => cases b <;> exact ⟨_, _, rfl, by decide, by decide⟩
    | int i hi =>
      obtain ⟨ds, d1, d2', d3⟩ := showI_form i
      rw [wr]
      rcases d3 with ⟨e, _⟩ | ⟨e, _⟩
      · cases ds with
        | nil => exact absurd rfl d2'
        | cons c ds => exact ⟨c, ds, e, by have := d1 c List.mem_cons_self; omega, by have := d1 c List.mem_cons_self; omega⟩
      · exact ⟨45, ds, e, by decide, by decide⟩
    | str x h hl => exact ⟨34, _, by rw [wr]; rfl, by decide, by decide⟩
  | lst hl hz h => exact ⟨91, _, by rw [wr], by decide, by decide⟩
  | dic hl hn h11 hk hz h => exact ⟨123, _, by rw [wr], by decide, by decide⟩
def RdOk (x : D) (n : Nat) : Prop := ∀ (t r : List Nat) (a : Nat), t.length ≤ 4000 → t.drop a = wr x ++ r → RO r → F_p_read_at n [.str t, .int (a : Nat)] = .ok (.otu [rd x, .int ((a + (wr x).length : Nat) : Int)], [none, none])
theorem take1 {t q : List Nat} {a c : Nat} (h : t.drop a = c :: q) : (t.drop a).take 1 = [c] := by rw [h]; rfl
theorem one_ne {c d : Nat} (h : c ≠ d) : decide ([c] = [d]) = false := decide_eq_false fun z => h (List.cons.inj z).1
theorem list_ok {o : Bool} {xs : List D} {m k : Nat} (hk : ∀ x ∈ xs, VL k x) (hx : xs.length ≤ 11) (ih : ∀ x ∈ xs, RdOk x m) {t r : List Nat} {a : Nat} (hl : t.length ≤ 4000) (h : t.drop a = wr (.lst o xs) ++ r) :
    F_p_read_list (m + 1) [.str t, .int (a : Nat)] = .ok (.otu [.lst true (rds xs), .int ((a + (wr (.lst o xs)).length : Nat) : Int)], [none, none]) := by
  have htl : t.length ≤ 16777216 := by omega
  rw [wr, wrs_eq] at h ⊢
  have h0 : t.drop a = [91] ++ (joinT [44, 32] (xs.map wr) ++ 93 :: r) := by rw [h]; simp
  have hp : F_p_place_behind [.str t, .int (a : Nat), .str [91]] = .ok (.int ((a + 1 : Nat) : Int), [none, none, none]) := place_ok hl h0
  have h1 := drop_add h0
  have hlen : (91 :: (joinT [44, 32] (xs.map wr) ++ [93])).length = (joinT [44, 32] (xs.map wr)).length + 2 := by simp
  rw [hlen, rds_eq]
  rw [F_p_read_list]
  unfold b_p_read_list
  cases xs with
  | nil =>
    have h1' : t.drop (a + 1) = 93 :: r := h1
    have e1 : decide ((t.drop (a + 1)).take 1 = [93]) = true := decide_eq_true (take1 h1')
    have e2 : ((a + ((joinT [44, 32] (([] : List D).map wr)).length + 2) : Nat) : Int) = ((a + 1 : Nat) : Int) + 1 := by
      show ((a + (0 + 2) : Nat) : Int) = _
      omega
    rw [e2]
    simp (disch := omega) only [backF, List.length_cons, List.length_nil, Nat.reduceAdd, Nat.reduceLeDiff, Nat.zero_add, sseq, sif, sset, sret, sretv, sretn, spass, sbrk, scont, sdrop, sstore, saug, sunpO, bnames, toD, evar, emv, p1, p2, d2, pvar, pcst, pcall, pcons, pnil, dcons, dnil, dcall, dlst, dtupO, dtup, dfrz, ofO, Res.bind, isFrz, allFrz, frz, frzs, ecall, aslot, aval, anil, argF, isAtom, fnF, maskF, tfP, tfD, tfand, tfor, tfnot, toB, pIsa, tyN, isaT, dand, dor, dnot, sbad, tyes, List.getElem?_cons_zero, List.getElem?_cons_succ, List.getElem?_nil, List.set_cons_zero, List.set_cons_succ, Option.bind, Option.map, Bool.false_eq_true, if_false, if_true, reduceIte, List.map_cons, List.map_nil, List.replicate, List.nil_append, List.cons_append, List.any_cons, List.any_nil, id_eq, Bool.or_false, Bool.or_true, Bool.not_false, Bool.not_true, Bool.and_true, Bool.and_false, Bool.true_and, Bool.false_and, hp, psl, oSome, add_ok, slS htl, cut1, eqS, e1]
  | cons x0 xs0 =>
    obtain ⟨c0, q0, w0, w1, w2⟩ := wr_head (hk x0 List.mem_cons_self)
    have hj0 : ∃ q, joinT [44, 32] ((x0 :: xs0).map wr) ++ 93 :: r = c0 :: q := by
      cases xs0 with
      | nil => exact ⟨q0 ++ 93 :: r, by show wr x0 ++ 93 :: r = _; rw [w0]; rfl⟩
      | cons y ys => exact ⟨_, by show (wr x0 ++ _) ++ 93 :: r = _; rw [w0]; rfl⟩
    obtain ⟨q1, hj0⟩ := hj0
    have e1 : decide ((t.drop (a + 1)).take 1 = [93]) = false := decide_eq_false fun z => by
      have h1' := h1
      rw [show a + [91].length = a + 1 from rfl, hj0] at h1'
      rw [take1 h1'] at z
      exact w1 (List.cons.inj z).1
    have hw := wh_ind (c := b_p_read_list_1) (b := b_p_read_list_2 F_p_place_behind (F_p_read_at m))
      (fun n e => ∃ (p : Nat) (done : List D) (x : D) (rem : List D) (o3 : Option D), n = rem.length ∧ x0 :: xs0 = done ++ x :: rem ∧ t.drop p = joinT [44, 32] ((x :: rem).map wr) ++ 93 :: r ∧ p + (joinT [44, 32] ((x :: rem).map wr)).length + 1 = a + ((joinT [44, 32] ((x0 :: xs0).map wr)).length + 2) ∧ e = [some (.str t), some (.int (p : Nat)), some (.lst true (done.map fun x => frz (rd x))), o3])
      (fun f => ∃ p o3, f = .ret (.otu [.lst true ((x0 :: xs0).map fun x => frz (rd x)), .int ((a + ((joinT [44, 32] ((x0 :: xs0).map wr)).length + 2) : Nat) : Int)]) [some (.str t), p, none, o3])
      (fun ⟨_, _, z⟩ => by cases z) (fun n e ⟨p, done, x, rem, o3, g1, g2, g3, g4, g5⟩ => by
        subst g5
        right
        refine ⟨[some (.str t), some (.int (p : Nat)), some (.lst true (done.map fun x => frz (rd x))), o3], rfl, ?_⟩
        have hxm : x ∈ x0 :: xs0 := by rw [g2]; exact List.mem_append_right _ List.mem_cons_self
        have hdl : (done.map fun x => frz (rd x)).length < 1000000 := by
          have := congrArg List.length g2
          rw [List.length_append, List.length_cons, List.length_cons] at this
          rw [List.length_map]
          rw [List.length_cons] at hx
          omega
        cases rem with
        | nil =>
          have g3' : t.drop p = wr x ++ 93 :: r := g3
          have hr := ih x hxm t (93 :: r) p hl g3' (.inr ⟨93, r, rfl, .inr (.inl rfl)⟩)
          have h3 := drop_add g3'
          have e3 : decide ((t.drop (p + (wr x).length)).take 1 = [93]) = true := decide_eq_true (take1 h3)
          have e4 : ((a + ((joinT [44, 32] ((x0 :: xs0).map wr)).length + 2) : Nat) : Int) = ((p + (wr x).length : Nat) : Int) + 1 := by
            have : joinT [44, 32] ([x].map wr) = wr x := rfl
            rw [this] at g4
            omega
          refine .inr (.inr ⟨_, [some (.str t), some (.int ((p + (wr x).length : Nat) : Int)), none, some (frz (rd x))], ?_, some (.int ((p + (wr x).length : Nat) : Int)), some (frz (rd x)), rfl⟩)
          rw [e4, g2, List.map_append]
          unfold b_p_read_list_2
          simp (disch := omega) only [backF, List.length_cons, List.length_nil, Nat.reduceAdd, Nat.reduceLeDiff, Nat.zero_add, sseq, sif, sset, sret, sretv, sretn, spass, sbrk, scont, sdrop, sstore, saug, sunpO, bnames, toD, evar, emv, p1, p2, d2, pvar, pcst, pcall, pcons, pnil, dcons, dnil, dcall, dlst, dtupO, dtup, dfrz, ofO, Res.bind, isFrz, allFrz, frz, frzs, ecall, aslot, aval, anil, argF, isAtom, fnF, maskF, tfP, tfD, tfand, tfor, tfnot, toB, pIsa, tyN, isaT, dand, dor, dnot, sbad, tyes, List.getElem?_cons_zero, List.getElem?_cons_succ, List.getElem?_nil, List.set_cons_zero, List.set_cons_succ, Option.bind, Option.map, Bool.false_eq_true, if_false, if_true, reduceIte, List.map_cons, List.map_nil, List.replicate, List.nil_append, List.cons_append, List.any_cons, List.any_nil, id_eq, Bool.or_false, Bool.or_true, Bool.not_false, Bool.not_true, Bool.and_true, Bool.and_false, Bool.true_and, Bool.false_and, hr, mapp, hdl, frz2, psl, oSome, add_ok, slS htl, cut1, eqS, e3]
        | cons y rem =>
          left
          have g3' : t.drop p = wr x ++ (44 :: 32 :: (joinT [44, 32] ((y :: rem).map wr) ++ 93 :: r)) := by
            rw [g3]
            show (wr x ++ ([44, 32] ++ joinT [44, 32] ((y :: rem).map wr))) ++ 93 :: r = _
            simp
          have hr := ih x hxm t _ p hl g3' (.inr ⟨44, _, rfl, .inl rfl⟩)
          have h3 := drop_add g3'
          have e3 : decide ((t.drop (p + (wr x).length)).take 1 = [93]) = false := by
            rw [take1 h3]; exact one_ne (by decide)
          have hp2 : F_p_place_behind [.str t, .int ((p + (wr x).length : Nat) : Int), .str [44, 32]] = .ok (.int ((p + (wr x).length + 2 : Nat) : Int), [none, none, none]) := place_ok (w := [44, 32]) hl h3
          refine ⟨[some (.str t), some (.int ((p + (wr x).length + 2 : Nat) : Int)), some (.lst true ((done ++ [x]).map fun x => frz (rd x))), some (frz (rd x))], rem.length, ?_, by rw [g1]; exact Nat.lt_succ_self _, p + (wr x).length + 2, done ++ [x], y, rem, _, rfl, by rw [g2, List.append_assoc]; rfl, drop_add (w := [44, 32]) h3, ?_, rfl⟩
          · rw [List.map_append]
            unfold b_p_read_list_2
            simp (disch := omega) only [backF, List.length_cons, List.length_nil, Nat.reduceAdd, Nat.reduceLeDiff, Nat.zero_add, sseq, sif, sset, sret, sretv, sretn, spass, sbrk, scont, sdrop, sstore, saug, sunpO, bnames, toD, evar, emv, p1, p2, d2, pvar, pcst, pcall, pcons, pnil, dcons, dnil, dcall, dlst, dtupO, dtup, dfrz, ofO, Res.bind, isFrz, allFrz, frz, frzs, ecall, aslot, aval, anil, argF, isAtom, fnF, maskF, tfP, tfD, tfand, tfor, tfnot, toB, pIsa, tyN, isaT, dand, dor, dnot, sbad, tyes, List.getElem?_cons_zero, List.getElem?_cons_succ, List.getElem?_nil, List.set_cons_zero, List.set_cons_succ, Option.bind, Option.map, Bool.false_eq_true, if_false, if_true, reduceIte, List.map_cons, List.map_nil, List.replicate, List.nil_append, List.cons_append, List.any_cons, List.any_nil, id_eq, Bool.or_false, Bool.or_true, Bool.not_false, Bool.not_true, Bool.and_true, Bool.and_false, Bool.true_and, Bool.false_and, hr, mapp, hdl, frz2, psl, oSome, add_ok, slS htl, cut1, eqS, e3, hp2]
          · have : (joinT [44, 32] ((x :: y :: rem).map wr)).length = (wr x).length + (2 + (joinT [44, 32] ((y :: rem).map wr)).length) := by
              show (wr x ++ ([44, 32] ++ joinT [44, 32] ((y :: rem).map wr))).length = _
              rw [List.length_append, List.length_append]; rfl
            omega)
      xs0.length [some (.str t), some (.int ((a + 1 : Nat) : Int)), some (.lst true []), none] ⟨a + 1, [], x0, xs0, none, rfl, rfl, h1, by omega, rfl⟩
    obtain ⟨p, o3, hw⟩ := hw
    generalize (x0 :: xs0).map (fun x => frz (rd x)) = L at hw ⊢
    generalize (joinT [44, 32] ((x0 :: xs0).map wr)).length = J at hw ⊢
    simp (disch := omega) only [backF, List.length_cons, List.length_nil, Nat.reduceAdd, Nat.reduceLeDiff, Nat.zero_add, sseq, sif, sset, sret, sretv, sretn, spass, sbrk, scont, sdrop, sstore, saug, sunpO, bnames, toD, evar, emv, p1, p2, d2, pvar, pcst, pcall, pcons, pnil, dcons, dnil, dcall, dlst, dtupO, dtup, dfrz, ofO, Res.bind, isFrz, allFrz, frz, frzs, ecall, aslot, aval, anil, argF, isAtom, fnF, maskF, tfP, tfD, tfand, tfor, tfnot, toB, pIsa, tyN, isaT, dand, dor, dnot, sbad, tyes, List.getElem?_cons_zero, List.getElem?_cons_succ, List.getElem?_nil, List.set_cons_zero, List.set_cons_succ, Option.bind, Option.map, Bool.false_eq_true, if_false, if_true, reduceIte, List.map_cons, List.map_nil, List.replicate, List.nil_append, List.cons_append, List.any_cons, List.any_nil, id_eq, Bool.or_false, Bool.or_true, Bool.not_false, Bool.not_true, Bool.and_true, Bool.and_false, Bool.true_and, Bool.false_and, hp, psl, oSome, add_ok, slS htl, cut1, eqS, e1, hw]
theorem nodup_split {α : Type} {l a b : List α} {x : α} (h : l.Nodup) (e : l = a ++ x :: b) : x ∉ a := by
  rw [e] at h
  exact fun z => (List.nodup_append.mp h).2.2 x z x List.mem_cons_self rfl
theorem dict_ok {o : Bool} {ks : List (List Nat)} {xs : List D} {m k : Nat} (hk : ∀ x ∈ xs, VL k x) (hn : ks.Nodup) (hll : ks.length = xs.length) (hx : ks.length ≤ 11) (ih : ∀ x ∈ xs, RdOk x m) {t r : List Nat} {a : Nat} (hl : t.length ≤ 4000) (h : t.drop a = wr (.dic o ks xs) ++ r) :
    F_p_read_dict (m + 1) [.str t, .int (a : Nat)] = .ok (.otu [rd (.dic o ks xs), .int ((a + (wr (.dic o ks xs)).length : Nat) : Int)], [none, none]) := by
  have htl : t.length ≤ 16777216 := by omega
  rw [wr] at h ⊢
  rw [rd]
  generalize hS : sortT ks = S at h ⊢
  have hSm : ∀ q ∈ S, q ∈ ks := fun q hq => sortT_mem.mp (by rw [hS]; exact hq)
  have hSn : S.Nodup := by rw [← hS]; exact (sortT_perm ks).nodup_iff.mpr hn
  have hSl : S.length ≤ 11 := by rw [← hS, sortT_len]; exact hx
  generalize hI : (fun q => qt q ++ 58 :: 32 :: lkT q ks (wrs xs)) = it at h ⊢
  generalize hg : (fun q => lkD q ks (rds xs)) = g
  have h0 : t.drop a = [123] ++ (joinT [44, 32] (S.map it) ++ 125 :: r) := by rw [h]; simp
  have hp : F_p_place_behind [.str t, .int (a : Nat), .str [123]] = .ok (.int ((a + 1 : Nat) : Int), [none, none, none]) := place_ok hl h0
  have h1 := drop_add h0
  have hlen : (123 :: (joinT [44, 32] (S.map it) ++ [125])).length = (joinT [44, 32] (S.map it)).length + 2 := by simp
  rw [hlen]
  rw [F_p_read_dict]
  unfold b_p_read_dict
  cases S with
  | nil =>
    have h1' : t.drop (a + 1) = 125 :: r := h1
    have e1 : decide ((t.drop (a + 1)).take 1 = [125]) = true := decide_eq_true (take1 h1')
    have e2 : ((a + ((joinT [44, 32] (([] : List (List Nat)).map it)).length + 2) : Nat) : Int) = ((a + 1 : Nat) : Int) + 1 := by
      show ((a + (0 + 2) : Nat) : Int) = _
      omega
    rw [e2]
    simp (disch := omega) only [backF, List.length_cons, List.length_nil, Nat.reduceAdd, Nat.reduceLeDiff, Nat.zero_add, sseq, sif, sset, sret, sretv, sretn, spass, sbrk, scont, sdrop, sstore, saug, sunpO, bnames, toD, evar, emv, p1, p2, d2, pvar, pcst, pcall, pcons, pnil, dcons, dnil, dcall, dlst, dtupO, dtup, dfrz, ofO, Res.bind, isFrz, allFrz, frz, frzs, ecall, aslot, aval, anil, argF, isAtom, fnF, maskF, tfP, tfD, tfand, tfor, tfnot, toB, pIsa, tyN, isaT, dand, dor, dnot, sbad, tyes, List.getElem?_cons_zero, List.getElem?_cons_succ, List.getElem?_nil, List.set_cons_zero, List.set_cons_succ, Option.bind, Option.map, Bool.false_eq_true, if_false, if_true, reduceIte, List.map_cons, List.map_nil, List.replicate, List.nil_append, List.cons_append, List.any_cons, List.any_nil, id_eq, Bool.or_false, Bool.or_true, Bool.not_false, Bool.not_true, Bool.and_true, Bool.and_false, Bool.true_and, Bool.false_and, hp, ddic0, psl, oSome, add_ok, slS htl, cut1, eqS, e1]
  | cons x0 xs0 =>
    have hit : ∀ q, it q = qt q ++ 58 :: 32 :: lkT q ks (wrs xs) := fun q => by rw [← hI]
    have hqt : ∀ q, ∃ z, it q = 34 :: z := fun q => ⟨_, by rw [hit]; rfl⟩
    have hj0 : ∃ q, joinT [44, 32] ((x0 :: xs0).map it) ++ 125 :: r = 34 :: q := by
      obtain ⟨z, hz⟩ := hqt x0
      cases xs0 with
      | nil => exact ⟨z ++ 125 :: r, by show it x0 ++ 125 :: r = _; rw [hz]; rfl⟩
      | cons y ys => exact ⟨_, by show (it x0 ++ _) ++ 125 :: r = _; rw [hz]; rfl⟩
    obtain ⟨q1, hj0⟩ := hj0
    have e1 : decide ((t.drop (a + 1)).take 1 = [125]) = false := by
      have h1' := h1
      rw [show a + [123].length = a + 1 from rfl, hj0] at h1'
      rw [take1 h1']; exact one_ne (by decide)
    have hw := wh_ind (c := b_p_read_dict_1) (b := b_p_read_dict_2 F_p_place_behind (F_p_read_at m) F_p_read_quoted)
      (fun n e => ∃ (p : Nat) (done : List (List Nat)) (x : List Nat) (rem : List (List Nat)) (o3 o4 : Option D), n = rem.length ∧ x0 :: xs0 = done ++ x :: rem ∧ t.drop p = joinT [44, 32] ((x :: rem).map it) ++ 125 :: r ∧ p + (joinT [44, 32] ((x :: rem).map it)).length + 1 = a + ((joinT [44, 32] ((x0 :: xs0).map it)).length + 2) ∧ e = [some (.str t), some (.int (p : Nat)), some (.dic true done (done.map g)), o3, o4])
      (fun f => ∃ p o3 o4, f = .ret (.otu [.dic true (x0 :: xs0) ((x0 :: xs0).map g), .int ((a + ((joinT [44, 32] ((x0 :: xs0).map it)).length + 2) : Nat) : Int)]) [some (.str t), p, none, o3, o4])
      (fun ⟨_, _, _, z⟩ => by cases z) (fun n e ⟨p, done, x, rem, o3, o4, g1, g2, g3, g4, g5⟩ => by
        subst g5
        right
        refine ⟨[some (.str t), some (.int (p : Nat)), some (.dic true done (done.map g)), o3, o4], rfl, ?_⟩
        have hxm : x ∈ x0 :: xs0 := by rw [g2]; exact List.mem_append_right _ List.mem_cons_self
        have hdn : x ∉ done := nodup_split hSn g2
        have hdl : done.length < 1000000 := by
          have := congrArg List.length g2
          rw [List.length_append, List.length_cons, List.length_cons] at this
          rw [List.length_cons] at hSl
          omega
        obtain ⟨y, y1, y2, y3, y4⟩ := look2 (hSm x hxm) hll
        have hgx : g x = frz (rd y) := by rw [← hg]; exact y4
        have hpk : putKey done x = done ++ [x] := by unfold putKey; rw [if_neg hdn]
        have hpv : putVal x (frz (rd y)) done (done.map g) = done.map g ++ [frz (rd y)] := putVal_end hdn (by rw [List.length_map])
        have hix : it x = qt x ++ 58 :: 32 :: wr y := by rw [hit, y3]
        cases rem with
        | nil =>
          have g3' : t.drop p = qt x ++ (58 :: 32 :: (wr y ++ 125 :: r)) := by
            rw [g3]
            show it x ++ 125 :: r = _
            rw [hix]; simp
          have hq := rquoted_ok hl g3' (.inr ⟨58, _, rfl, .inr (.inr (.inr rfl))⟩)
          have h2 := drop_add g3'
          have hp2 : F_p_place_behind [.str t, .int ((p + (qt x).length : Nat) : Int), .str [58, 32]] = .ok (.int ((p + (qt x).length + 2 : Nat) : Int), [none, none, none]) := place_ok (w := [58, 32]) hl h2
          have h3 : t.drop (p + (qt x).length + 2) = wr y ++ 125 :: r := drop_add (w := [58, 32]) h2
          have hr := ih y y1 t (125 :: r) _ hl h3 (.inr ⟨125, r, rfl, .inr (.inr (.inl rfl))⟩)
          have h4 := drop_add h3
          have e3 : decide ((t.drop (p + (qt x).length + 2 + (wr y).length)).take 1 = [125]) = true := decide_eq_true (take1 h4)
          have e4 : ((a + ((joinT [44, 32] ((x0 :: xs0).map it)).length + 2) : Nat) : Int) = ((p + (qt x).length + 2 + (wr y).length : Nat) : Int) + 1 := by
            have e5 : (joinT [44, 32] ([x].map it)).length = (qt x).length + ((wr y).length + 2) := by
              show (it x).length = _
              rw [hix, List.length_append]; rfl
            omega
          refine .inr (.inr ⟨_, [some (.str t), some (.int ((p + (qt x).length + 2 + (wr y).length : Nat) : Int)), none, some (.str x), some (frz (rd y))], ?_, some (.int ((p + (qt x).length + 2 + (wr y).length : Nat) : Int)), some (.str x), some (frz (rd y)), rfl⟩)
          rw [e4, g2, List.map_append]
          unfold b_p_read_dict_2
          simp (disch := omega) only [backF, List.length_cons, List.length_nil, Nat.reduceAdd, Nat.reduceLeDiff, Nat.zero_add, sseq, sif, sset, sret, sretv, sretn, spass, sbrk, scont, sdrop, sstore, saug, sunpO, bnames, toD, evar, emv, p1, p2, d2, pvar, pcst, pcall, pcons, pnil, dcons, dnil, dcall, dlst, dtupO, dtup, dfrz, ofO, Res.bind, isFrz, allFrz, frz, frzs, ecall, aslot, aval, anil, argF, isAtom, fnF, maskF, tfP, tfD, tfand, tfor, tfnot, toB, pIsa, tyN, isaT, dand, dor, dnot, sbad, tyes, List.getElem?_cons_zero, List.getElem?_cons_succ, List.getElem?_nil, List.set_cons_zero, List.set_cons_succ, Option.bind, Option.map, Bool.false_eq_true, if_false, if_true, reduceIte, List.map_cons, List.map_nil, List.replicate, List.nil_append, List.cons_append, List.any_cons, List.any_nil, id_eq, Bool.or_false, Bool.or_true, Bool.not_false, Bool.not_true, Bool.and_true, Bool.and_false, Bool.true_and, Bool.false_and, hq, hp2, hr, sdput, hdl, frz2, hpk, hpv, hgx, psl, oSome, add_ok, slS htl, cut1, eqS, e3]
        | cons z rem =>
          left
          have g3' : t.drop p = qt x ++ (58 :: 32 :: (wr y ++ 44 :: 32 :: (joinT [44, 32] ((z :: rem).map it) ++ 125 :: r))) := by
            rw [g3]
            show (it x ++ ([44, 32] ++ joinT [44, 32] ((z :: rem).map it))) ++ 125 :: r = _
            rw [hix]; simp
          have hq := rquoted_ok hl g3' (.inr ⟨58, _, rfl, .inr (.inr (.inr rfl))⟩)
          have h2 := drop_add g3'
          have hp2 : F_p_place_behind [.str t, .int ((p + (qt x).length : Nat) : Int), .str [58, 32]] = .ok (.int ((p + (qt x).length + 2 : Nat) : Int), [none, none, none]) := place_ok (w := [58, 32]) hl h2
          have h3 : t.drop (p + (qt x).length + 2) = wr y ++ 44 :: 32 :: (joinT [44, 32] ((z :: rem).map it) ++ 125 :: r) := drop_add (w := [58, 32]) h2
          have hr := ih y y1 t _ _ hl h3 (.inr ⟨44, _, rfl, .inl rfl⟩)
          have h4 := drop_add h3
          have e3 : decide ((t.drop (p + (qt x).length + 2 + (wr y).length)).take 1 = [125]) = false := by
            rw [take1 h4]; exact one_ne (by decide)
          have hp3 : F_p_place_behind [.str t, .int ((p + (qt x).length + 2 + (wr y).length : Nat) : Int), .str [44, 32]] = .ok (.int ((p + (qt x).length + 2 + (wr y).length + 2 : Nat) : Int), [none, none, none]) := place_ok (w := [44, 32]) hl h4
          refine ⟨[some (.str t), some (.int ((p + (qt x).length + 2 + (wr y).length + 2 : Nat) : Int)), some (.dic true (done ++ [x]) ((done ++ [x]).map g)), some (.str x), some (frz (rd y))], rem.length, ?_, by rw [g1]; exact Nat.lt_succ_self _, p + (qt x).length + 2 + (wr y).length + 2, done ++ [x], z, rem, _, _, rfl, by rw [g2, List.append_assoc]; rfl, drop_add (w := [44, 32]) h4, ?_, rfl⟩
          · rw [List.map_append]
            unfold b_p_read_dict_2
            simp (disch := omega) only [backF, List.length_cons, List.length_nil, Nat.reduceAdd, Nat.reduceLeDiff, Nat.zero_add, sseq, sif, sset, sret, sretv, sretn, spass, sbrk, scont, sdrop, sstore, saug, sunpO, bnames, toD, evar, emv, p1, p2, d2, pvar, pcst, pcall, pcons, pnil, dcons, dnil, dcall, dlst, dtupO, dtup, dfrz, ofO, Res.bind, isFrz, allFrz, frz, frzs, ecall, aslot, aval, anil, argF, isAtom, fnF, maskF, tfP, tfD, tfand, tfor, tfnot, toB, pIsa, tyN, isaT, dand, dor, dnot, sbad, tyes, List.getElem?_cons_zero, List.getElem?_cons_succ, List.getElem?_nil, List.set_cons_zero, List.set_cons_succ, Option.bind, Option.map, Bool.false_eq_true, if_false, if_true, reduceIte, List.map_cons, List.map_nil, List.replicate, List.nil_append, List.cons_append, List.any_cons, List.any_nil, id_eq, Bool.or_false, Bool.or_true, Bool.not_false, Bool.not_true, Bool.and_true, Bool.and_false, Bool.true_and, Bool.false_and, hq, hp2, hr, sdput, hdl, frz2, hpk, hpv, hgx, psl, oSome, add_ok, slS htl, cut1, eqS, e3, hp3]
          · have : (joinT [44, 32] ((x :: z :: rem).map it)).length = (qt x).length + ((wr y).length + 2) + (2 + (joinT [44, 32] ((z :: rem).map it)).length) := by
              show (it x ++ ([44, 32] ++ joinT [44, 32] ((z :: rem).map it))).length = _
              rw [List.length_append, List.length_append, hix, List.length_append]; rfl
            omega)
      xs0.length [some (.str t), some (.int ((a + 1 : Nat) : Int)), some (.dic true [] []), none, none] ⟨a + 1, [], x0, xs0, none, none, rfl, rfl, h1, by omega, rfl⟩
    obtain ⟨p, o3, o4, hw⟩ := hw
    generalize (x0 :: xs0).map g = L at hw ⊢
    generalize (joinT [44, 32] ((x0 :: xs0).map it)).length = J at hw ⊢
    simp (disch := omega) only [backF, List.length_cons, List.length_nil, Nat.reduceAdd, Nat.reduceLeDiff, Nat.zero_add, sseq, sif, sset, sret, sretv, sretn, spass, sbrk, scont, sdrop, sstore, saug, sunpO, bnames, toD, evar, emv, p1, p2, d2, pvar, pcst, pcall, pcons, pnil, dcons, dnil, dcall, dlst, dtupO, dtup, dfrz, ofO, Res.bind, isFrz, allFrz, frz, frzs, ecall, aslot, aval, anil, argF, isAtom, fnF, maskF, tfP, tfD, tfand, tfor, tfnot, toB, pIsa, tyN, isaT, dand, dor, dnot, sbad, tyes, List.getElem?_cons_zero, List.getElem?_cons_succ, List.getElem?_nil, List.set_cons_zero, List.set_cons_succ, Option.bind, Option.map, Bool.false_eq_true, if_false, if_true, reduceIte, List.map_cons, List.map_nil, List.replicate, List.nil_append, List.cons_append, List.any_cons, List.any_nil, id_eq, Bool.or_false, Bool.or_true, Bool.not_false, Bool.not_true, Bool.and_true, Bool.and_false, Bool.true_and, Bool.false_and, hp, ddic0, psl, oSome, add_ok, slS htl, cut1, eqS, e1, hw]
end K79

namespace K79
open PySem PySem.NumText PySem.Builtin PyProof.Rows L2 DL
theorem word_ne {t q w : List Nat} {a c d n : Nat} (h : t.drop a = c :: q) (hc : c ≠ d) : decide ((t.drop a).take (n + 1) = d :: w) = false := decide_eq_false fun z => by
  rw [h] at z
  exact hc (List.cons.inj z).1
theorem c7 {t : List Nat} {a : Nat} : cutL t (some (a : Int)) (some ((a : Int) + ((7 : Nat) : Int))) = (t.drop a).take 7 := cutL_pt t a 7
theorem c2 {t : List Nat} {a : Nat} : cutL t (some (a : Int)) (some ((a : Int) + ((2 : Nat) : Int))) = (t.drop a).take 2 := cutL_pt t a 2
theorem c3 {t : List Nat} {a : Nat} : cutL t (some (a : Int)) (some ((a : Int) + ((3 : Nat) : Int))) = (t.drop a).take 3 := cutL_pt t a 3
theorem n7 : bLen [.str [110, 111, 116, 104, 105, 110, 103]] = some (.int ((7 : Nat) : Int)) := rfl
theorem n2 : bLen [.str [110, 111]] = some (.int ((2 : Nat) : Int)) := rfl
theorem n3 : bLen [.str [121, 101, 115]] = some (.int ((3 : Nat) : Int)) := rfl
theorem castadd (a b : Nat) : ((a + b : Nat) : Int) = (a : Int) + ((b : Nat) : Int) := Int.natCast_add a b
theorem read_ok {k : Nat} {x : D} (h : VL k x) : ∀ n, 2 * k + 1 ≤ n → RdOk x n := by
  induction h with
  | leaf h =>
    intro n hn t r a hl ht hr
    obtain ⟨m, rfl⟩ : ∃ m, n = m + 1 := ⟨n - 1, by omega⟩
    have htl : t.length ≤ 16777216 := by omega
    rw [F_p_read_at]
    rw [rd_leaf h]
    unfold b_p_read_at
    cases h with
    | non =>
      rw [wr] at ht ⊢
      have h1 : t.drop a = 110 :: ([111, 116, 104, 105, 110, 103] ++ r) := ht
      have e1 : (t.drop a).take 1 = [110] := take1 h1
      have w1 : decide ((t.drop a).take 7 = [110, 111, 116, 104, 105, 110, 103]) = true := decide_eq_true (by rw [ht]; rfl)
      have s1 : decide (([110] : List Nat) = [34]) = false := by decide
      have s2 : decide (([110] : List Nat) = [91]) = false := by decide
      have s3 : decide (([110] : List Nat) = [123]) = false := by decide
      show _ = Res.ok (D.otu [.non, .int ((a + 7 : Nat) : Int)], [none, none])
      rw [castadd a 7]
      simp (disch := omega) only [backF, List.length_cons, List.length_nil, Nat.reduceAdd, Nat.reduceLeDiff, Nat.zero_add, sseq, sif, sset, sret, sretv, sretn, spass, sbrk, scont, sdrop, sstore, saug, sunpO, bnames, toD, evar, emv, p1, p2, d2, pvar, pcst, pcall, pcons, pnil, dcons, dnil, dcall, dlst, dtupO, dtup, dfrz, ofO, Res.bind, isFrz, allFrz, frz, frzs, ecall, aslot, aval, anil, argF, isAtom, fnF, maskF, tfP, tfD, tfand, tfor, tfnot, toB, pIsa, tyN, isaT, dand, dor, dnot, sbad, tyes, List.getElem?_cons_zero, List.getElem?_cons_succ, List.getElem?_nil, List.set_cons_zero, List.set_cons_succ, Option.bind, Option.map, Bool.false_eq_true, if_false, if_true, reduceIte, List.map_cons, List.map_nil, List.replicate, List.nil_append, List.cons_append, List.any_cons, List.any_nil, id_eq, Bool.or_false, Bool.or_true, Bool.not_false, Bool.not_true, Bool.and_true, Bool.and_false, Bool.true_and, Bool.false_and, psl, oSome, add_ok, slS htl, cut1, e1, eqS, s1, s2, s3, sfor, srcT, cWORDS, sforL, btup, b_p_read_at_1, n7, c7, w1]
    | bl b =>
      cases b with
      | false =>
        rw [wr] at ht ⊢
        have h1 : t.drop a = 110 :: ([111] ++ r) := ht
        have e1 : (t.drop a).take 1 = [110] := take1 h1
        have w1 : decide ((t.drop a).take 7 = [110, 111, 116, 104, 105, 110, 103]) = false := decide_eq_false fun z => by
          rw [h1] at z
          have z2 := congrArg (·[2]?) z
          rcases hr with rfl | ⟨c, r', rfl, hc⟩
          · simp at z2
          · simp at z2
            omega
        have w2 : decide ((t.drop a).take 2 = [110, 111]) = true := decide_eq_true (by rw [h1]; rfl)
        have s1 : decide (([110] : List Nat) = [34]) = false := by decide
        have s2 : decide (([110] : List Nat) = [91]) = false := by decide
        have s3 : decide (([110] : List Nat) = [123]) = false := by decide
        show _ = Res.ok (D.otu [.bl false, .int ((a + 2 : Nat) : Int)], [none, none])
        rw [castadd a 2]
        simp (disch := omega) only [backF, List.length_cons, List.length_nil, Nat.reduceAdd, Nat.reduceLeDiff, Nat.zero_add, sseq, sif, sset, sret, sretv, sretn, spass, sbrk, scont, sdrop, sstore, saug, sunpO, bnames, toD, evar, emv, p1, p2, d2, pvar, pcst, pcall, pcons, pnil, dcons, dnil, dcall, dlst, dtupO, dtup, dfrz, ofO, Res.bind, isFrz, allFrz, frz, frzs, ecall, aslot, aval, anil, argF, isAtom, fnF, maskF, tfP, tfD, tfand, tfor, tfnot, toB, pIsa, tyN, isaT, dand, dor, dnot, sbad, tyes, List.getElem?_cons_zero, List.getElem?_cons_succ, List.getElem?_nil, List.set_cons_zero, List.set_cons_succ, Option.bind, Option.map, Bool.false_eq_true, if_false, if_true, reduceIte, List.map_cons, List.map_nil, List.replicate, List.nil_append, List.cons_append, List.any_cons, List.any_nil, id_eq, Bool.or_false, Bool.or_true, Bool.not_false, Bool.not_true, Bool.and_true, Bool.and_false, Bool.true_and, Bool.false_and, psl, oSome, add_ok, slS htl, cut1, e1, eqS, s1, s2, s3, sfor, srcT, cWORDS, sforL, btup, b_p_read_at_1, n7, c7, w1, n2, c2, w2]
      | true =>
        rw [wr] at ht ⊢
        have h1 : t.drop a = 121 :: ([101, 115] ++ r) := ht
        have e1 : (t.drop a).take 1 = [121] := take1 h1
        have w1 : decide ((t.drop a).take 7 = [110, 111, 116, 104, 105, 110, 103]) = false := word_ne h1 (by decide)
        have w2 : decide ((t.drop a).take 2 = [110, 111]) = false := word_ne h1 (by decide)
        have w3 : decide ((t.drop a).take 3 = [121, 101, 115]) = true := decide_eq_true (by rw [h1]; rfl)
        have s1 : decide (([121] : List Nat) = [34]) = false := by decide
        have s2 : decide (([121] : List Nat) = [91]) = false := by decide
        have s3 : decide (([121] : List Nat) = [123]) = false := by decide
        show _ = Res.ok (D.otu [.bl true, .int ((a + 3 : Nat) : Int)], [none, none])
        rw [castadd a 3]
        simp (disch := omega) only [backF, List.length_cons, List.length_nil, Nat.reduceAdd, Nat.reduceLeDiff, Nat.zero_add, sseq, sif, sset, sret, sretv, sretn, spass, sbrk, scont, sdrop, sstore, saug, sunpO, bnames, toD, evar, emv, p1, p2, d2, pvar, pcst, pcall, pcons, pnil, dcons, dnil, dcall, dlst, dtupO, dtup, dfrz, ofO, Res.bind, isFrz, allFrz, frz, frzs, ecall, aslot, aval, anil, argF, isAtom, fnF, maskF, tfP, tfD, tfand, tfor, tfnot, toB, pIsa, tyN, isaT, dand, dor, dnot, sbad, tyes, List.getElem?_cons_zero, List.getElem?_cons_succ, List.getElem?_nil, List.set_cons_zero, List.set_cons_succ, Option.bind, Option.map, Bool.false_eq_true, if_false, if_true, reduceIte, List.map_cons, List.map_nil, List.replicate, List.nil_append, List.cons_append, List.any_cons, List.any_nil, id_eq, Bool.or_false, Bool.or_true, Bool.not_false, Bool.not_true, Bool.and_true, Bool.and_false, Bool.true_and, Bool.false_and, psl, oSome, add_ok, slS htl, cut1, e1, eqS, s1, s2, s3, sfor, srcT, cWORDS, sforL, btup, b_p_read_at_1, n7, c7, w1, n2, c2, w2, n3, c3, w3]
    | int i hi =>
      rw [wr] at ht ⊢
      have hnum := rnumber_ok hl hi ht hr
      obtain ⟨c, q, hq, hc⟩ : ∃ c q, showI i = c :: q ∧ (c = 45 ∨ (48 ≤ c ∧ c ≤ 57)) := by
        obtain ⟨ds, d1, d2', d3⟩ := showI_form i
        rcases d3 with ⟨e, _⟩ | ⟨e, _⟩
        · cases ds with
          | nil => exact absurd rfl d2'
          | cons c ds => exact ⟨c, ds, e, .inr (d1 c List.mem_cons_self)⟩
        · exact ⟨45, ds, e, .inl rfl⟩
      have h1 : t.drop a = c :: (q ++ r) := by rw [ht, hq]; rfl
      have e1 : (t.drop a).take 1 = [c] := take1 h1
      have w1 : decide ((t.drop a).take 7 = [110, 111, 116, 104, 105, 110, 103]) = false := word_ne h1 (by omega)
      have w2 : decide ((t.drop a).take 2 = [110, 111]) = false := word_ne h1 (by omega)
      have w3 : decide ((t.drop a).take 3 = [121, 101, 115]) = false := word_ne h1 (by omega)
      have s1 : decide ([c] = [34]) = false := one_ne (by omega)
      have s2 : decide ([c] = [91]) = false := one_ne (by omega)
      have s3 : decide ([c] = [123]) = false := one_ne (by omega)
      simp (disch := omega) only [backF, List.length_cons, List.length_nil, Nat.reduceAdd, Nat.reduceLeDiff, Nat.zero_add, sseq, sif, sset, sret, sretv, sretn, spass, sbrk, scont, sdrop, sstore, saug, sunpO, bnames, toD, evar, emv, p1, p2, d2, pvar, pcst, pcall, pcons, pnil, dcons, dnil, dcall, dlst, dtupO, dtup, dfrz, ofO, Res.bind, isFrz, allFrz, frz, frzs, ecall, aslot, aval, anil, argF, isAtom, fnF, maskF, tfP, tfD, tfand, tfor, tfnot, toB, pIsa, tyN, isaT, dand, dor, dnot, sbad, tyes, List.getElem?_cons_zero, List.getElem?_cons_succ, List.getElem?_nil, List.set_cons_zero, List.set_cons_succ, Option.bind, Option.map, Bool.false_eq_true, if_false, if_true, reduceIte, List.map_cons, List.map_nil, List.replicate, List.nil_append, List.cons_append, List.any_cons, List.any_nil, id_eq, Bool.or_false, Bool.or_true, Bool.not_false, Bool.not_true, Bool.and_true, Bool.and_false, Bool.true_and, Bool.false_and, psl, oSome, add_ok, slS htl, cut1, e1, eqS, s1, s2, s3, sfor, srcT, cWORDS, sforL, btup, b_p_read_at_1, n7, c7, w1, n2, c2, w2, n3, c3, w3, hnum]
    | str x hx hxl =>
      rw [wr] at ht ⊢
      have hq := rquoted_ok hl ht hr
      have h1 : t.drop a = 34 :: ((dbl x ++ [34]) ++ r) := by rw [ht]; rfl
      have e1 : (t.drop a).take 1 = [34] := take1 h1
      simp (disch := omega) only [backF, List.length_cons, List.length_nil, Nat.reduceAdd, Nat.reduceLeDiff, Nat.zero_add, sseq, sif, sset, sret, sretv, sretn, spass, sbrk, scont, sdrop, sstore, saug, sunpO, bnames, toD, evar, emv, p1, p2, d2, pvar, pcst, pcall, pcons, pnil, dcons, dnil, dcall, dlst, dtupO, dtup, dfrz, ofO, Res.bind, isFrz, allFrz, frz, frzs, ecall, aslot, aval, anil, argF, isAtom, fnF, maskF, tfP, tfD, tfand, tfor, tfnot, toB, pIsa, tyN, isaT, dand, dor, dnot, sbad, tyes, List.getElem?_cons_zero, List.getElem?_cons_succ, List.getElem?_nil, List.set_cons_zero, List.set_cons_succ, Option.bind, Option.map, Bool.false_eq_true, if_false, if_true, reduceIte, List.map_cons, List.map_nil, List.replicate, List.nil_append, List.cons_append, List.any_cons, List.any_nil, id_eq, Bool.or_false, Bool.or_true, Bool.not_false, Bool.not_true, Bool.and_true, Bool.and_false, Bool.true_and, Bool.false_and, psl, oSome, add_ok, slS htl, cut1, e1, eqS, decide_true, hq]
  | @lst k o xs hl0 hz h ih =>
    intro n hn t r a hl ht hr
    obtain ⟨m, rfl⟩ : ∃ m, n = m + 1 + 1 := ⟨n - 2, by omega⟩
    have htl : t.length ≤ 16777216 := by omega
    have hli := list_ok (o := o) (m := m) h hl0 (fun x hx => ih x hx m (by omega)) hl ht
    have h1 : ∃ q, t.drop a = 91 :: q := by rw [ht, wr]; exact ⟨_, rfl⟩
    obtain ⟨q, h1⟩ := h1
    have e1 : (t.drop a).take 1 = [91] := take1 h1
    have s1 : decide (([91] : List Nat) = [34]) = false := by decide
    rw [F_p_read_at, rd]
    unfold b_p_read_at
    simp (disch := omega) only [backF, List.length_cons, List.length_nil, Nat.reduceAdd, Nat.reduceLeDiff, Nat.zero_add, sseq, sif, sset, sret, sretv, sretn, spass, sbrk, scont, sdrop, sstore, saug, sunpO, bnames, toD, evar, emv, p1, p2, d2, pvar, pcst, pcall, pcons, pnil, dcons, dnil, dcall, dlst, dtupO, dtup, dfrz, ofO, Res.bind, isFrz, allFrz, frz, frzs, ecall, aslot, aval, anil, argF, isAtom, fnF, maskF, tfP, tfD, tfand, tfor, tfnot, toB, pIsa, tyN, isaT, dand, dor, dnot, sbad, tyes, List.getElem?_cons_zero, List.getElem?_cons_succ, List.getElem?_nil, List.set_cons_zero, List.set_cons_succ, Option.bind, Option.map, Bool.false_eq_true, if_false, if_true, reduceIte, List.map_cons, List.map_nil, List.replicate, List.nil_append, List.cons_append, List.any_cons, List.any_nil, id_eq, Bool.or_false, Bool.or_true, Bool.not_false, Bool.not_true, Bool.and_true, Bool.and_false, Bool.true_and, Bool.false_and, psl, oSome, add_ok, slS htl, cut1, e1, eqS, s1, decide_true, hli]
  | @dic k o ks xs hll hn0 h11 hk hz h ih =>
    intro n hn t r a hl ht hr
    obtain ⟨m, rfl⟩ : ∃ m, n = m + 1 + 1 := ⟨n - 2, by omega⟩
    have htl : t.length ≤ 16777216 := by omega
    have hli := dict_ok (o := o) (m := m) h hn0 hll h11 (fun x hx => ih x hx m (by omega)) hl ht
    have h1 : ∃ q, t.drop a = 123 :: q := by rw [ht, wr]; exact ⟨_, rfl⟩
    obtain ⟨q, h1⟩ := h1
    have e1 : (t.drop a).take 1 = [123] := take1 h1
    have s1 : decide (([123] : List Nat) = [34]) = false := by decide
    have s2 : decide (([123] : List Nat) = [91]) = false := by decide
    rw [F_p_read_at]
    unfold b_p_read_at
    generalize rd (.dic o ks xs) = R at hli ⊢
    simp (disch := omega) only [backF, List.length_cons, List.length_nil, Nat.reduceAdd, Nat.reduceLeDiff, Nat.zero_add, sseq, sif, sset, sret, sretv, sretn, spass, sbrk, scont, sdrop, sstore, saug, sunpO, bnames, toD, evar, emv, p1, p2, d2, pvar, pcst, pcall, pcons, pnil, dcons, dnil, dcall, dlst, dtupO, dtup, dfrz, ofO, Res.bind, isFrz, allFrz, frz, frzs, ecall, aslot, aval, anil, argF, isAtom, fnF, maskF, tfP, tfD, tfand, tfor, tfnot, toB, pIsa, tyN, isaT, dand, dor, dnot, sbad, tyes, List.getElem?_cons_zero, List.getElem?_cons_succ, List.getElem?_nil, List.set_cons_zero, List.set_cons_succ, Option.bind, Option.map, Bool.false_eq_true, if_false, if_true, reduceIte, List.map_cons, List.map_nil, List.replicate, List.nil_append, List.cons_append, List.any_cons, List.any_nil, id_eq, Bool.or_false, Bool.or_true, Bool.not_false, Bool.not_true, Bool.and_true, Bool.and_false, Bool.true_and, Bool.false_and, psl, oSome, add_ok, slS htl, cut1, e1, eqS, s1, s2, decide_true, hli]
theorem rvalue_ok {k : Nat} {x : D} (h : VL k x) (hk : k ≤ 4) (hl : (wr x).length ≤ 4000) (n : Nat) (hn : 2 * k + 1 ≤ n) : F_p_read_value n [.str (wr x)] = .ok (rd x, [none]) := by
  obtain ⟨r1, r2⟩ := rd_ok h
  have hr := read_ok h n hn (wr x) [] 0 hl (by rw [List.drop_zero, List.append_nil]) (.inl rfl)
  have hr' : F_p_read_at n [.str (wr x), .int 0] = _ := hr
  obtain ⟨o1, hv⟩ := isvalue_ok r1.fz n (by omega)
  obtain ⟨o2, hs⟩ := show_ok r1.fz hk n (by omega)
  rw [wr_frz r1, r2] at hs
  unfold F_p_read_value b_p_read_value
  simp (disch := omega) only [backF, List.length_cons, List.length_nil, Nat.reduceAdd, Nat.reduceLeDiff, Nat.zero_add, sseq, sif, sset, sret, sretv, sretn, spass, sbrk, scont, sdrop, sstore, saug, sunpO, bnames, toD, evar, emv, p1, p2, d2, pvar, pcst, pcall, pcons, pnil, dcons, dnil, dcall, dlst, dtupO, dtup, dfrz, ofO, Res.bind, isFrz, allFrz, frz, frzs, ecall, aslot, aval, anil, argF, isAtom, fnF, maskF, tfP, tfD, tfand, tfor, tfnot, toB, pIsa, tyN, isaT, dand, dor, dnot, sbad, tyes, List.getElem?_cons_zero, List.getElem?_cons_succ, List.getElem?_nil, List.set_cons_zero, List.set_cons_succ, Option.bind, Option.map, Bool.false_eq_true, if_false, if_true, reduceIte, List.map_cons, List.map_nil, List.replicate, List.nil_append, List.cons_append, List.any_cons, List.any_nil, id_eq, Bool.or_false, Bool.or_true, Bool.not_false, Bool.not_true, Bool.and_true, Bool.and_false, Bool.true_and, Bool.false_and, String.reduceBEq, beq_self_eq_true, Bool.or_false, Bool.false_or, Bool.true_or, hr', hv, hs, neS, decide_true]
end K79

namespace K79
open PySem PySem.NumText PySem.Builtin PyProof.Rows L2 DL
/-! ### same -/
theorem notin_ok {α : Type} (o : Bool) (l : List α) : pNotIn (.bl false) (.lst o (l.map fun _ => .bl true)) = some (.bl true) := by
  have hi : ∀ l : List α, inD (.bl false) (l.map fun _ => .bl true) = some false := by
    intro l
    induction l with
    | nil => rfl
    | cons x l ih =>
      show (inD (.bl false) (l.map fun _ => .bl true)).map (fun b => eqV (.bl true) (.bl false) || b) = _
      rw [ih]; rfl
  show (((inD (.bl false) (l.map fun _ => D.bl true)).map D.bl).bind fun d => match d with
    | .bl b => some (D.bl (!b))
    | _ => none) = _
  rw [hi]; rfl
theorem eq_strs (ks : List (List Nat)) (h : ∀ x ∈ ks, TX x) (o o2 : Bool) : pNe (.lst o (ks.map .str)) (.lst o2 (ks.map .str)) = some (.bl false) := by
  have hp : ∀ ks : List (List Nat), toPys (ks.map .str) = some (ks.map fun x => .str (Sx x)) := by
    intro ks
    induction ks with
    | nil => rfl
    | cons c cs ih =>
      show ((toPy (.str c)).bind fun p => (toPys (cs.map .str)).map fun ps => p :: ps) = _
      rw [ih]; rfl
  have e1 : ∀ o, toPy (.lst o (ks.map .str)) = some (.list (ks.map fun x => .str (Sx x))) := fun o => by
    show (toPys _).map PyData.list = _
    rw [hp]; rfl
  have e2 : eqD (.lst o (ks.map .str)) (.lst o2 (ks.map .str)) = match toPy (.lst o (ks.map .str)), toPy (.lst o2 (ks.map .str)) with
    | some p, some q => if (SeqAt.shaped p && SeqAt.shaped q) = true then some (PyData.eqv p q) else none
    | _, _ => none := rfl
  have hs : SeqAt.shaped (.list (ks.map fun x => .str (Sx x))) = true := shaped_flat fun p hp => by
    obtain ⟨c, hc, rfl⟩ := List.mem_map.mp hp
    refine ⟨?_, by simp [PyData.depth]⟩
    simp only [PyData.canLay0, PyData.strOk]
    rw [Array.all_eq_true_iff_forall_mem]
    intro z hz
    have hz2 : z ∈ c := by simpa [Sx] using hz
    have := h c hc z hz2
    have hm : ∀ z ∈ sg, z < 0x110000 := by decide
    exact decide_eq_true (hm z this)
  have he : ∀ ks : List (List Nat), PyData.eqvAll (ks.map fun x => .str (Sx x)) (ks.map fun x => .str (Sx x)) = true := by
    intro ks
    induction ks with
    | nil => simp [PyData.eqvAll]
    | cons c cs ih => simp [PyData.eqvAll, PyData.eqv, ih]
  unfold pNe
  rw [e2, e1, e1]
  dsimp only
  rw [hs]
  simp only [PyData.eqv, he, Bool.and_self, if_true, Option.map]
  rfl
theorem lookK_map {k : List Nat} {f : List Nat → D} : ∀ {l : List (List Nat)}, k ∈ l → lookK k l (l.map f) = some (f k)
  | [], h => by cases h
  | q :: l, h => by
    rw [List.map_cons, lookK]
    by_cases e : q = k
    · rw [if_pos e, e]
    · rw [if_neg e]; exact lookK_map ((List.mem_cons.mp h).resolve_left fun z => e z.symm)
theorem same_ok {k : Nat} {x : D} (h : VL k x) : ∀ n, k + 1 ≤ n → ∃ o1 o2, F_l_same n [frz (rd x), frz x] = .ok (.bl true, [o1, o2]) := by
  induction h with
  | leaf h =>
    intro n hn
    obtain ⟨m, rfl⟩ : ∃ m, n = m + 1 := ⟨n - 1, by omega⟩
    rw [rd_leaf h, h.fz.2.1, F_l_same]
    unfold b_l_same
    cases h with
    | non => exact ⟨_, _, rfl⟩
    | bl b => cases b <;> exact ⟨_, _, rfl⟩
    | int i h =>
      refine ⟨none, none, ?_⟩
      simp (disch := omega) only [backF, List.length_cons, List.length_nil, Nat.reduceAdd, Nat.reduceLeDiff, Nat.zero_add, sseq, sif, sset, sret, sretv, sretn, spass, sbrk, scont, sdrop, sstore, saug, sunpO, bnames, toD, evar, emv, p1, p2, d2, pvar, pcst, pcall, pcons, pnil, dcons, dnil, dcall, dlst, dtupO, dtup, dfrz, ofO, Res.bind, isFrz, allFrz, frz, frzs, ecall, aslot, aval, anil, argF, isAtom, fnF, maskF, tfP, tfD, tfand, tfor, tfnot, toB, pIsa, tyN, isaT, dand, dor, dnot, sbad, tyes, List.getElem?_cons_zero, List.getElem?_cons_succ, List.getElem?_nil, List.set_cons_zero, List.set_cons_succ, Option.bind, Option.map, Bool.false_eq_true, if_false, if_true, reduceIte, List.map_cons, List.map_nil, List.replicate, List.nil_append, List.cons_append, List.any_cons, List.any_nil, id_eq, Bool.or_false, Bool.or_true, Bool.not_false, Bool.not_true, Bool.and_true, Bool.and_false, Bool.true_and, Bool.false_and, String.reduceBEq, beq_self_eq_true, Bool.or_false, Bool.false_or, Bool.true_or, eq_ok, decide_true]
    | str x h hl =>
      refine ⟨none, none, ?_⟩
      simp (disch := omega) only [backF, List.length_cons, List.length_nil, Nat.reduceAdd, Nat.reduceLeDiff, Nat.zero_add, sseq, sif, sset, sret, sretv, sretn, spass, sbrk, scont, sdrop, sstore, saug, sunpO, bnames, toD, evar, emv, p1, p2, d2, pvar, pcst, pcall, pcons, pnil, dcons, dnil, dcall, dlst, dtupO, dtup, dfrz, ofO, Res.bind, isFrz, allFrz, frz, frzs, ecall, aslot, aval, anil, argF, isAtom, fnF, maskF, tfP, tfD, tfand, tfor, tfnot, toB, pIsa, tyN, isaT, dand, dor, dnot, sbad, tyes, List.getElem?_cons_zero, List.getElem?_cons_succ, List.getElem?_nil, List.set_cons_zero, List.set_cons_succ, Option.bind, Option.map, Bool.false_eq_true, if_false, if_true, reduceIte, List.map_cons, List.map_nil, List.replicate, List.nil_append, List.cons_append, List.any_cons, List.any_nil, id_eq, Bool.or_false, Bool.or_true, Bool.not_false, Bool.not_true, Bool.and_true, Bool.and_false, Bool.true_and, Bool.false_and, String.reduceBEq, beq_self_eq_true, Bool.or_false, Bool.false_or, Bool.true_or, eqS, decide_true]
  | @lst k o xs hl hz h ih =>
    intro n hn
    obtain ⟨m, rfl⟩ : ∃ m, n = m + 1 := ⟨n - 1, by omega⟩
    have hzr : allFrz (rds xs) = true := by
      rw [rds_eq, allFrz_eq, List.all_map]
      exact List.all_eq_true.mpr fun _ _ => isFrz_frz _
    rw [rd, DL.frz, DL.frz, frzs_of _ hz, frzs_of _ hzr, F_l_same]
    unfold b_l_same
    have n1 : ∀ ys : List D, pIsN (.lst false ys) .non = some (.bl false) := fun _ => rfl
    have q1 : pNe (.bl true) (.bl true) = some (.bl false) := rfl
    have q2 : pNe (.bl false) (.bl false) = some (.bl false) := rfl
    have hc := comp_map (bf := btup [3, 4]) (elt := b_l_same_2 (F_l_same m)) (vs := [3, 4]) [some (.lst false (rds xs)), some (.lst false xs), none, none, none] (fun _ => .bl true) (zipD (rds xs) xs) (fun d hd => by
      obtain ⟨i, hi⟩ := List.getElem?_of_mem hd
      obtain ⟨a, y, h1, h2, rfl⟩ := zipD_get hi
      rw [rds_eq, List.getElem?_map, h2] at h1
      have ha : a = frz (rd y) := (Option.some.inj h1).symm
      subst ha
      have hy := List.mem_of_getElem? h2
      obtain ⟨o1, o2, q⟩ := ih y hy m (by omega)
      refine ⟨_, .bl true, [some (.lst false (rds xs)), some (.lst false xs), none, some (frz (rd y)), some y], rfl, ?_, rfl, rfl⟩
      unfold b_l_same_2
      simp (disch := omega) only [backF, List.length_cons, List.length_nil, Nat.reduceAdd, Nat.reduceLeDiff, Nat.zero_add, sseq, sif, sset, sret, sretv, sretn, spass, sbrk, scont, sdrop, sstore, saug, sunpO, bnames, toD, evar, emv, p1, p2, d2, pvar, pcst, pcall, pcons, pnil, dcons, dnil, dcall, dlst, dtupO, dtup, dfrz, ofO, Res.bind, isFrz, allFrz, frz, frzs, ecall, aslot, aval, anil, argF, isAtom, fnF, maskF, tfP, tfD, tfand, tfor, tfnot, toB, pIsa, tyN, isaT, dand, dor, dnot, sbad, tyes, List.getElem?_cons_zero, List.getElem?_cons_succ, List.getElem?_nil, List.set_cons_zero, List.set_cons_succ, Option.bind, Option.map, Bool.false_eq_true, if_false, if_true, reduceIte, List.map_cons, List.map_nil, List.replicate, List.nil_append, List.cons_append, List.any_cons, List.any_nil, id_eq, Bool.or_false, Bool.or_true, Bool.not_false, Bool.not_true, Bool.and_true, Bool.and_false, Bool.true_and, Bool.false_and, btup, bnames, frz2, q])
    have hx1 : (zipD (rds xs) xs).length ≤ 1000000 := by rw [zipD_len, rds_eq, List.length_map]; omega
    have el : bLen [.lst false (rds xs)] = some (.int (xs.length : Nat)) := by
      show some (D.int ((rds xs).length : Nat)) = _
      rw [rds_eq, List.length_map]
    have el2 : bLen [.lst false xs] = some (.int (xs.length : Nat)) := rfl
    refine ⟨none, none, ?_⟩
    simp (disch := omega) only [backF, List.length_cons, List.length_nil, Nat.reduceAdd, Nat.reduceLeDiff, Nat.zero_add, sseq, sif, sset, sret, sretv, sretn, spass, sbrk, scont, sdrop, sstore, saug, sunpO, bnames, toD, evar, emv, p1, p2, d2, pvar, pcst, pcall, pcons, pnil, dcons, dnil, dcall, dlst, dtupO, dtup, dfrz, ofO, Res.bind, isFrz, allFrz, frz, frzs, ecall, aslot, aval, anil, argF, isAtom, fnF, maskF, tfP, tfD, tfand, tfor, tfnot, toB, pIsa, tyN, isaT, dand, dor, dnot, sbad, tyes, List.getElem?_cons_zero, List.getElem?_cons_succ, List.getElem?_nil, List.set_cons_zero, List.set_cons_succ, Option.bind, Option.map, Bool.false_eq_true, if_false, if_true, reduceIte, List.map_cons, List.map_nil, List.replicate, List.nil_append, List.cons_append, List.any_cons, List.any_nil, id_eq, Bool.or_false, Bool.or_true, Bool.not_false, Bool.not_true, Bool.and_true, Bool.and_false, Bool.true_and, Bool.false_and, String.reduceBEq, beq_self_eq_true, Bool.or_false, Bool.false_or, Bool.true_or, n1, q1, q2, el, el2, eq_ok, decide_true, dcomp, srcZ, frzs_of _ hz, frzs_of _ hzr, compR, hx1, wipeE, hc, notin_ok]
  | @dic k o ks xs hll hn0 h11 hk hz h ih =>
    intro n hn
    obtain ⟨m, rfl⟩ : ∃ m, n = m + 1 := ⟨n - 1, by omega⟩
    have hzr : allFrz ((sortT ks).map fun k => lkD k ks (rds xs)) = true := by
      rw [allFrz_eq, List.all_map]
      refine List.all_eq_true.mpr fun q hq => ?_
      obtain ⟨y, y1, y2, y3, y4⟩ := look2 (sortT_mem.mp hq) hll
      show isFrz (lkD q ks (rds xs)) = true
      rw [y4]; exact isFrz_frz _
    rw [rd, DL.frz, DL.frz, frzs_of _ hz, frzs_of _ hzr, F_l_same]
    unfold b_l_same
    have n1 : ∀ qs ys, pIsN (.dic false qs ys) .non = some (.bl false) := fun _ _ => rfl
    have b1 : bSorted [.dic false (sortT ks) ((sortT ks).map fun k => lkD k ks (rds xs))] = some (.lst true ((sortT ks).map .str)) := by
      show (if (sortT ks).length < 64 then some (D.lst true ((sortT (sortT ks)).map .str)) else _) = _
      rw [if_pos (by rw [sortT_len]; omega), sort_sort]
    have b2 : bSorted [.dic false ks xs] = some (.lst true ((sortT ks).map .str)) := by
      show (if ks.length < 64 then some (D.lst true ((sortT ks).map .str)) else _) = _
      rw [if_pos (by omega)]
    have es := eq_strs (sortT ks) (fun q hq => (hk q (sortT_mem.mp hq)).1) true true
    have hc := comp_map (bf := bname 2) (elt := b_l_same_1 (F_l_same m)) (vs := [2]) [some (.dic false (sortT ks) ((sortT ks).map fun k => lkD k ks (rds xs))), some (.dic false ks xs), none, none, none] (fun _ => .bl true) ((sortT ks).map .str) (fun d hd => by
      obtain ⟨q, hq, rfl⟩ := List.mem_map.mp hd
      obtain ⟨y, y1, y2, y3, y4⟩ := look2 (sortT_mem.mp hq) hll
      obtain ⟨z1, z2⟩ := frz_mem hz y1
      obtain ⟨o1, o2, r⟩ := ih y y1 m (by omega)
      rw [z2] at r
      have i1 : pIx (.dic false (sortT ks) ((sortT ks).map fun k => lkD k ks (rds xs))) (.str q) = some (frz (rd y)) := by
        show lookK q (sortT ks) ((sortT ks).map fun k => lkD k ks (rds xs)) = _
        rw [lookK_map hq, y4]
      have i2 : pIx (.dic false ks xs) (.str q) = some y := y2
      refine ⟨_, .bl true, [some (.dic false (sortT ks) ((sortT ks).map fun k => lkD k ks (rds xs))), some (.dic false ks xs), some (.str q), none, none], rfl, ?_, rfl, rfl⟩
      unfold b_l_same_1
      simp (disch := omega) only [backF, List.length_cons, List.length_nil, Nat.reduceAdd, Nat.reduceLeDiff, Nat.zero_add, sseq, sif, sset, sret, sretv, sretn, spass, sbrk, scont, sdrop, sstore, saug, sunpO, bnames, toD, evar, emv, p1, p2, d2, pvar, pcst, pcall, pcons, pnil, dcons, dnil, dcall, dlst, dtupO, dtup, dfrz, ofO, Res.bind, isFrz, allFrz, frz, frzs, ecall, aslot, aval, anil, argF, isAtom, fnF, maskF, tfP, tfD, tfand, tfor, tfnot, toB, pIsa, tyN, isaT, dand, dor, dnot, sbad, tyes, List.getElem?_cons_zero, List.getElem?_cons_succ, List.getElem?_nil, List.set_cons_zero, List.set_cons_succ, Option.bind, Option.map, Bool.false_eq_true, if_false, if_true, reduceIte, List.map_cons, List.map_nil, List.replicate, List.nil_append, List.cons_append, List.any_cons, List.any_nil, id_eq, Bool.or_false, Bool.or_true, Bool.not_false, Bool.not_true, Bool.and_true, Bool.and_false, Bool.true_and, Bool.false_and, bname, i1, i2, isFrz_frz, z1, frz2, z2, r])
    have hx1 : ((sortT ks).map D.str).length ≤ 1000000 := by rw [List.length_map, sortT_len]; omega
    refine ⟨none, none, ?_⟩
    simp (disch := omega) only [backF, List.length_cons, List.length_nil, Nat.reduceAdd, Nat.reduceLeDiff, Nat.zero_add, sseq, sif, sset, sret, sretv, sretn, spass, sbrk, scont, sdrop, sstore, saug, sunpO, bnames, toD, evar, emv, p1, p2, d2, pvar, pcst, pcall, pcons, pnil, dcons, dnil, dcall, dlst, dtupO, dtup, dfrz, ofO, Res.bind, isFrz, allFrz, frz, frzs, ecall, aslot, aval, anil, argF, isAtom, fnF, maskF, tfP, tfD, tfand, tfor, tfnot, toB, pIsa, tyN, isaT, dand, dor, dnot, sbad, tyes, List.getElem?_cons_zero, List.getElem?_cons_succ, List.getElem?_nil, List.set_cons_zero, List.set_cons_succ, Option.bind, Option.map, Bool.false_eq_true, if_false, if_true, reduceIte, List.map_cons, List.map_nil, List.replicate, List.nil_append, List.cons_append, List.any_cons, List.any_nil, id_eq, Bool.or_false, Bool.or_true, Bool.not_false, Bool.not_true, Bool.and_true, Bool.and_false, Bool.true_and, Bool.false_and, String.reduceBEq, beq_self_eq_true, Bool.or_false, Bool.false_or, Bool.true_or, n1, frzs_of _ hz, frzs_of _ hzr, b1, b2, es, dcomp, srcD, dwD, compR, hx1, wipeE, hc, notin_ok]
/-! ### the law -/
theorem right_ok {k : Nat} {x : D} (h : VL k x) (hk : k ≤ 4) (n : Nat) (hn : 9 ≤ n) : ∃ o, F_l_read_right n [x] = .ok (.bl true, [o]) := by
  obtain ⟨o1, hw⟩ := written_ok h.fz hk n (by omega)
  rw [wr_frz h] at hw
  have hlen := wr_len h
  have h4 := Ln_4 hk
  have htl : (wr x).length ≤ 16777216 := by omega
  unfold F_l_read_right b_l_read_right
  have gt_ok : ∀ i j : Int, pGt (.int i) (.int j) = some (.bl (decide (j < i))) := fun _ _ => rfl
  by_cases hl : (wr x).length ≤ 4000
  · have hv := rvalue_ok h hk hl n (by omega)
    obtain ⟨o2, o3, hs⟩ := same_ok h n (by omega)
    have hf := for_ind (bf := bname 2) (body := b_l_read_right_1 (F_l_same n) (F_p_read_value n)) (fun i e => ∃ o2 o3, e = [some x, some (.str (wr x)), o2, o3]) (rngD 0 2) 0 (fun j d0 e hj ⟨o2, o3, he⟩ => by
      subst he
      obtain ⟨rfl, _⟩ := rng_at hj
      cases h with
      | leaf h =>
        refine ⟨_, [some x, some (.str (wr x)), some (.int (0 + (j : Int))), some (rd x)], rfl, ?_, _, _, rfl⟩
        rw [rd_leaf h, h.fz.2.1] at hs
        rw [rd_leaf h] at hv ⊢
        unfold b_l_read_right_1
        cases h <;> simp (disch := omega) only [backF, List.length_cons, List.length_nil, Nat.reduceAdd, Nat.reduceLeDiff, Nat.zero_add, sseq, sif, sset, sret, sretv, sretn, spass, sbrk, scont, sdrop, sstore, saug, sunpO, bnames, toD, evar, emv, p1, p2, d2, pvar, pcst, pcall, pcons, pnil, dcons, dnil, dcall, dlst, dtupO, dtup, dfrz, ofO, Res.bind, isFrz, allFrz, frz, frzs, ecall, aslot, aval, anil, argF, isAtom, fnF, maskF, tfP, tfD, tfand, tfor, tfnot, toB, pIsa, tyN, isaT, dand, dor, dnot, sbad, tyes, List.getElem?_cons_zero, List.getElem?_cons_succ, List.getElem?_nil, List.set_cons_zero, List.set_cons_succ, Option.bind, Option.map, Bool.false_eq_true, if_false, if_true, reduceIte, List.map_cons, List.map_nil, List.replicate, List.nil_append, List.cons_append, List.any_cons, List.any_nil, id_eq, Bool.or_false, Bool.or_true, Bool.not_false, Bool.not_true, Bool.and_true, Bool.and_false, Bool.true_and, Bool.false_and, bname, hv, hs, String.reduceBEq, beq_self_eq_true, Bool.or_false, Bool.false_or, Bool.true_or]
      | @lst k o xs hl hz h =>
        refine ⟨_, [some (.lst o xs), some (.str (wr (.lst o xs))), some (.int (0 + (j : Int))), some (.lst true (rds xs ++ [.str [97, 32, 116, 101, 120, 116, 32, 109, 111, 114, 101]]))], rfl, ?_, _, _, rfl⟩
        have hzr : allFrz (rds xs) = true := by
          rw [rds_eq, allFrz_eq, List.all_map]
          exact List.all_eq_true.mpr fun _ _ => isFrz_frz _
        have hxl : (rds xs).length < 1000000 := by rw [rds_eq, List.length_map]; omega
        generalize wr (.lst o xs) = W at hv hs ⊢
        rw [rd] at hv hs
        rw [DL.frz, DL.frz, frzs_of _ hz, frzs_of _ hzr] at hs
        unfold b_l_read_right_1
        simp (disch := omega) only [backF, List.length_cons, List.length_nil, Nat.reduceAdd, Nat.reduceLeDiff, Nat.zero_add, sseq, sif, sset, sret, sretv, sretn, spass, sbrk, scont, sdrop, sstore, saug, sunpO, bnames, toD, evar, emv, p1, p2, d2, pvar, pcst, pcall, pcons, pnil, dcons, dnil, dcall, dlst, dtupO, dtup, dfrz, ofO, Res.bind, isFrz, allFrz, frz, frzs, ecall, aslot, aval, anil, argF, isAtom, fnF, maskF, tfP, tfD, tfand, tfor, tfnot, toB, pIsa, tyN, isaT, dand, dor, dnot, sbad, tyes, List.getElem?_cons_zero, List.getElem?_cons_succ, List.getElem?_nil, List.set_cons_zero, List.set_cons_succ, Option.bind, Option.map, Bool.false_eq_true, if_false, if_true, reduceIte, List.map_cons, List.map_nil, List.replicate, List.nil_append, List.cons_append, List.any_cons, List.any_nil, id_eq, Bool.or_false, Bool.or_true, Bool.not_false, Bool.not_true, Bool.and_true, Bool.and_false, Bool.true_and, Bool.false_and, bname, hv, frzs_of _ hz, frzs_of _ hzr, hs, String.reduceBEq, beq_self_eq_true, Bool.or_false, Bool.false_or, Bool.true_or, mapp, hxl]
      | @dic k o ks xs hll hn h11 hk0 hz h =>
        refine ⟨_, [some (.dic o ks xs), some (.str (wr (.dic o ks xs))), some (.int (0 + (j : Int))), some (.dic true [] [])], rfl, ?_, _, _, rfl⟩
        have hzr : allFrz ((sortT ks).map fun k => lkD k ks (rds xs)) = true := by
          rw [allFrz_eq, List.all_map]
          refine List.all_eq_true.mpr fun q hq => ?_
          obtain ⟨y, y1, y2, y3, y4⟩ := look2 (sortT_mem.mp hq) hll
          show isFrz (lkD q ks (rds xs)) = true
          rw [y4]; exact isFrz_frz _
        generalize wr (.dic o ks xs) = W at hv hs ⊢
        rw [rd] at hv hs
        rw [DL.frz, DL.frz, frzs_of _ hz, frzs_of _ hzr] at hs
        generalize (sortT ks).map (fun k => lkD k ks (rds xs)) = V at hv hs hzr
        unfold b_l_read_right_1
        simp (disch := omega) only [backF, List.length_cons, List.length_nil, Nat.reduceAdd, Nat.reduceLeDiff, Nat.zero_add, sseq, sif, sset, sret, sretv, sretn, spass, sbrk, scont, sdrop, sstore, saug, sunpO, bnames, toD, evar, emv, p1, p2, d2, pvar, pcst, pcall, pcons, pnil, dcons, dnil, dcall, dlst, dtupO, dtup, dfrz, ofO, Res.bind, isFrz, allFrz, frz, frzs, ecall, aslot, aval, anil, argF, isAtom, fnF, maskF, tfP, tfD, tfand, tfor, tfnot, toB, pIsa, tyN, isaT, dand, dor, dnot, sbad, tyes, List.getElem?_cons_zero, List.getElem?_cons_succ, List.getElem?_nil, List.set_cons_zero, List.set_cons_succ, Option.bind, Option.map, Bool.false_eq_true, if_false, if_true, reduceIte, List.map_cons, List.map_nil, List.replicate, List.nil_append, List.cons_append, List.any_cons, List.any_nil, id_eq, Bool.or_false, Bool.or_true, Bool.not_false, Bool.not_true, Bool.and_true, Bool.and_false, Bool.true_and, Bool.false_and, bname, hv, frzs_of _ hz, frzs_of _ hzr, hs, String.reduceBEq, beq_self_eq_true, Bool.or_false, Bool.false_or, Bool.true_or, mdclear])
      [some x, some (.str (wr x)), none, none] ⟨none, none, rfl⟩
    obtain ⟨e', q1, o4, o5, he⟩ := hf
    subst he
    have e1 : decide ((4000 : Int) < ((wr x).length : Nat)) = false := decide_eq_false (by omega)
    have hr : rngOk 2 := ⟨by decide, by decide⟩
    have ht2 : (2 : Int).toNat = 2 := rfl
    refine ⟨none, ?_⟩
    simp (disch := omega) only [backF, List.length_cons, List.length_nil, Nat.reduceAdd, Nat.reduceLeDiff, Nat.zero_add, sseq, sif, sset, sret, sretv, sretn, spass, sbrk, scont, sdrop, sstore, saug, sunpO, bnames, toD, evar, emv, p1, p2, d2, pvar, pcst, pcall, pcons, pnil, dcons, dnil, dcall, dlst, dtupO, dtup, dfrz, ofO, Res.bind, isFrz, allFrz, frz, frzs, ecall, aslot, aval, anil, argF, isAtom, fnF, maskF, tfP, tfD, tfand, tfor, tfnot, toB, pIsa, tyN, isaT, dand, dor, dnot, sbad, tyes, List.getElem?_cons_zero, List.getElem?_cons_succ, List.getElem?_nil, List.set_cons_zero, List.set_cons_succ, Option.bind, Option.map, Bool.false_eq_true, if_false, if_true, reduceIte, List.map_cons, List.map_nil, List.replicate, List.nil_append, List.cons_append, List.any_cons, List.any_nil, id_eq, Bool.or_false, Bool.or_true, Bool.not_false, Bool.not_true, Bool.and_true, Bool.and_false, Bool.true_and, Bool.false_and, hw, lenS htl, gt_ok, e1, sfor, srcR1d, hr, ht2, q1]
  · have e1 : decide ((4000 : Int) < ((wr x).length : Nat)) = true := decide_eq_true (by omega)
    refine ⟨none, ?_⟩
    simp (disch := omega) only [backF, List.length_cons, List.length_nil, Nat.reduceAdd, Nat.reduceLeDiff, Nat.zero_add, sseq, sif, sset, sret, sretv, sretn, spass, sbrk, scont, sdrop, sstore, saug, sunpO, bnames, toD, evar, emv, p1, p2, d2, pvar, pcst, pcall, pcons, pnil, dcons, dnil, dcall, dlst, dtupO, dtup, dfrz, ofO, Res.bind, isFrz, allFrz, frz, frzs, ecall, aslot, aval, anil, argF, isAtom, fnF, maskF, tfP, tfD, tfand, tfor, tfnot, toB, pIsa, tyN, isaT, dand, dor, dnot, sbad, tyes, List.getElem?_cons_zero, List.getElem?_cons_succ, List.getElem?_nil, List.set_cons_zero, List.set_cons_succ, Option.bind, Option.map, Bool.false_eq_true, if_false, if_true, reduceIte, List.map_cons, List.map_nil, List.replicate, List.nil_append, List.cons_append, List.any_cons, List.any_nil, id_eq, Bool.or_false, Bool.or_true, Bool.not_false, Bool.not_true, Bool.and_true, Bool.and_false, Bool.true_and, Bool.false_and, hw, lenS htl, gt_ok, e1]
end K79

namespace K79
open PySem PySem.NumText PySem.Builtin PyProof.Rows L2 DL
theorem atI_any {α : Type} {ds : List α} {i : Int} (h0 : -(ds.length : Int) ≤ i) (h1 : i < ds.length) : ∃ d, d ∈ ds ∧ atI ds i = some d := by
  by_cases h : 0 ≤ i
  · obtain ⟨d, q1, q2, _⟩ := atI_ok h h1
    exact ⟨d, q1, q2⟩
  · unfold atI ixN
    rw [if_neg h, if_pos h0]
    have hl : (i + (ds.length : Nat)).toNat < ds.length := by omega
    exact ⟨ds[(i + (ds.length : Nat)).toNat], List.getElem_mem _, List.getElem?_eq_getElem hl⟩
theorem law_ok (ns : List Int) (hns : ns.length ≤ 63) (n : Nat) (hn : 9 ≤ n) : F_p_law n [.scr ns] = .ok (.bl true, [none]) := by
  obtain ⟨d0, k0, t0⟩ := deck_ok ns hns
  obtain ⟨ws, ts, st, sp, d1, w, k1, t1⟩ := world_ok k0 (by unfold BIG; omega)
  obtain ⟨cs, s0, c0, hd0, _, _, _⟩ := k0
  subst hd0
  unfold deckD at t0 t1
  obtain ⟨xs, d2', x1, x2, x3, t2⟩ := samples_ok k1 (by unfold BIG; omega) w true n (by omega) 6 (by omega)
  have t2' : F_l_samples n [d1, WD false ws ts st sp, .int 6] = _ := t2
  let more : List D := [.str [], .lst false [], .dic false [] [], .int (-1), .int 0]
  have hmore : ∀ v ∈ more, VL 3 v := fun v hv => by
    simp only [more, List.mem_cons, List.not_mem_nil, or_false] at hv
    rcases hv with rfl | rfl | rfl | rfl | rfl
    · exact .leaf (.str [] TX.nil (Nat.zero_le _))
    · exact .lst (Nat.zero_le _) rfl fun x hx => by cases hx
    · exact .dic rfl List.nodup_nil (Nat.zero_le _) (fun x hx => by cases hx) rfl fun x hx => by cases hx
    · exact .leaf (.int _ (by decide))
    · exact .leaf (.int _ (by decide))
  have hvs : ∀ v ∈ xs ++ more, VL 3 v := fun v hv => (List.mem_append.mp hv).elim (x3 v) (hmore v)
  have hvz : allFrz (xs ++ more) = true := by rw [allFrz_app, x2]; rfl
  have hvl : (xs ++ more).length = 11 := by rw [List.length_append, x1]; rfl
  have hadd : dAdd (.lst true xs) (.lst false more) = some (.lst true (xs ++ more)) := by
    show (if (allFrz xs && allFrz more && decide (xs.length + more.length ≤ 1000000)) = true then some (D.lst true (xs ++ more)) else none) = _
    rw [x2, if_pos (by rw [x1]; rfl)]
  obtain ⟨n0, n1, nr, hws⟩ : ∃ n0 n1 nr, ws = n0 :: n1 :: nr := by
    have := w.nl
    match ws, this with
    | n0 :: n1 :: nr, _ => exact ⟨n0, n1, nr, rfl⟩
  have hnd : ([n0, n1] : List (List Nat)).Nodup := by
    have := w.nd
    rw [hws] at this
    have h2 := (List.nodup_cons.mp this).1
    exact List.nodup_cons.mpr ⟨fun z => h2 (by rw [List.mem_singleton.mp z]; exact List.mem_cons_self), List.nodup_cons.mpr ⟨fun z => (by cases z), List.nodup_nil⟩⟩
  have hn0 : TX n0 ∧ n0.length ≤ 50 := w.nt n0 (by rw [hws]; exact List.mem_cons_self)
  have hn1 : TX n1 ∧ n1.length ≤ 50 := w.nt n1 (by rw [hws]; exact List.mem_cons_of_mem _ List.mem_cons_self)
  have i0 : pIx (.lst false (ws.map .str)) (.int 0) = some (.str n0) := by
    rw [hws]
    show atI (D.str n0 :: D.str n1 :: nr.map .str) 0 = _
    unfold atI
    rw [ixN_ok (by decide) (by simp only [List.length_cons]; omega)]
    rfl
  have i1 : pIx (.lst false (ws.map .str)) (.int 1) = some (.str n1) := by
    rw [hws]
    show atI (D.str n0 :: D.str n1 :: nr.map .str) 1 = _
    unfold atI
    rw [ixN_ok (by decide) (by simp only [List.length_cons]; omega)]
    rfl
  generalize xs ++ more = vs at hvs hvz hvl hadd
  -- the loop
  obtain ⟨e', q1, o4, o5, o6, he⟩ := for_ind (bf := bname 4) (body := b_p_law_2 (F_l_read_right n))
    (fun i e => ∃ o4 o5 o6, e = [some (.scr ns), some d2', some (WD false ws ts st sp), some (.lst true vs), o4, o5, o6]) (rngD 0 11) 0 (fun j dd e hj ⟨o4, o5, o6, he⟩ => by
      subst he
      obtain ⟨rfl, hj2⟩ := rng_at hj
      obtain ⟨v, v1, v2⟩ := atI_any (ds := vs) (i := 0 + (j : Int)) (by omega) (by omega)
      obtain ⟨u, u1, u2⟩ := atI_any (ds := vs) (i := 0 + (j : Int) - 1) (by omega) (by omega)
      have v3 : pIx (.lst true vs) (.int (0 + (j : Int))) = some v := v2
      have u3 : pIx (.lst true vs) (.int (0 + (j : Int) - 1)) = some u := u2
      obtain ⟨vz, vf⟩ := frz_mem hvz v1
      obtain ⟨uz, uf⟩ := frz_mem hvz u1
      have av : VL 4 v := (hvs v v1).mono (by omega)
      have al : VL 4 (.lst false [v, u]) := .lst (by simp) (by rw [allFrz, allFrz, allFrz, vz, uz]; rfl) fun x hx => by
        simp only [List.mem_cons, List.not_mem_nil, or_false] at hx
        rcases hx with rfl | rfl
        · exact hvs _ v1
        · exact hvs _ u1
      have ad : VL 4 (.dic false [n0, n1] [v, u]) := .dic rfl hnd (by simp) (fun x hx => by
        simp only [List.mem_cons, List.not_mem_nil, or_false] at hx
        rcases hx with rfl | rfl
        · exact ⟨hn0.1, by omega⟩
        · exact ⟨hn1.1, by omega⟩) (by rw [allFrz, allFrz, allFrz, vz, uz]; rfl) fun x hx => by
        simp only [List.mem_cons, List.not_mem_nil, or_false] at hx
        rcases hx with rfl | rfl
        · exact hvs _ v1
        · exact hvs _ u1
      obtain ⟨e2, p2', p5, p6⟩ := for_ind (bf := bname 6) (body := b_p_law_1 (F_l_read_right n))
        (fun i e => ∃ o6, e = [some (.scr ns), some d2', some (WD false ws ts st sp), some (.lst true vs), some (.int (0 + (j : Int))), some (.dic false [n0, n1] [v, u]), o6]) [v, .lst false [v, u], .dic false [n0, n1] [v, u]] 0 (fun i x e hi ⟨o6, he⟩ => by
          subst he
          have hx : VL 4 x ∧ frz x = x := by
            have hm := List.mem_of_getElem? hi
            simp only [List.mem_cons, List.not_mem_nil, or_false] at hm
            rcases hm with rfl | rfl | rfl
            · exact ⟨av, vf⟩
            · exact ⟨al, by simp only [frz, frzs, vf, uf]⟩
            · exact ⟨ad, by simp only [frz, frzs, vf, uf]⟩
          obtain ⟨o, hr⟩ := right_ok hx.1 (by decide) n hn
          refine ⟨_, [some (.scr ns), some d2', some (WD false ws ts st sp), some (.lst true vs), some (.int (0 + (j : Int))), some (.dic false [n0, n1] [v, u]), some x], rfl, ?_, _, rfl⟩
          unfold b_p_law_1
          simp (disch := omega) only [backF, List.length_cons, List.length_nil, Nat.reduceAdd, Nat.reduceLeDiff, Nat.zero_add, sseq, sif, sset, sret, sretv, sretn, spass, sbrk, scont, sdrop, sstore, saug, sunpO, bnames, toD, evar, emv, p1, p2, d2, pvar, pcst, pcall, pcons, pnil, dcons, dnil, dcall, dlst, dtupO, dtup, dfrz, ofO, Res.bind, isFrz, allFrz, frz, frzs, ecall, aslot, aval, anil, argF, isAtom, fnF, maskF, tfP, tfD, tfand, tfor, tfnot, toB, pIsa, tyN, isaT, dand, dor, dnot, sbad, tyes, List.getElem?_cons_zero, List.getElem?_cons_succ, List.getElem?_nil, List.set_cons_zero, List.set_cons_succ, Option.bind, Option.map, Bool.false_eq_true, if_false, if_true, reduceIte, List.map_cons, List.map_nil, List.replicate, List.nil_append, List.cons_append, List.any_cons, List.any_nil, id_eq, Bool.or_false, Bool.or_true, Bool.not_false, Bool.not_true, Bool.and_true, Bool.and_false, Bool.true_and, Bool.false_and, bname, hx.2, hr])
        [some (.scr ns), some d2', some (WD false ws ts st sp), some (.lst true vs), some (.int (0 + (j : Int))), some (.dic false [n0, n1] [v, u]), o6] ⟨o6, rfl⟩
      subst p6
      refine ⟨_, [some (.scr ns), some d2', some (WD false ws ts st sp), some (.lst true vs), some (.int (0 + (j : Int))), some (.dic false [n0, n1] [v, u]), p5], rfl, ?_, _, _, _, rfl⟩
      have hd : ddisp [(p2 pIx (p2 pIx (pvar 2) (pcst (.int 0))) (pcst (.int 0)), p2 pIx (pvar 3) (pvar 4)), (p2 pIx (p2 pIx (pvar 2) (pcst (.int 0))) (pcst (.int 1)), p2 pIx (pvar 3) (p2 pSub (pvar 4) (pcst (.int 1))))] [some (.scr ns), some d2', some (WD false ws ts st sp), some (.lst true vs), some (.int (0 + (j : Int))), o5, o6] = .ok (.dic true [n0, n1] [v, u], [some (.scr ns), some d2', some (WD false ws ts st sp), some (.lst true vs), some (.int (0 + (j : Int))), o5, o6]) := by
        have hc : ([n0, n1] : List (List Nat)).Nodup ∧ ([n0, n1] : List (List Nat)).length ≤ 15 := ⟨hnd, by simp⟩
        have he : evps [(p2 pIx (p2 pIx (pvar 2) (pcst (.int 0))) (pcst (.int 0)), p2 pIx (pvar 3) (pvar 4)), (p2 pIx (p2 pIx (pvar 2) (pcst (.int 0))) (pcst (.int 1)), p2 pIx (pvar 3) (p2 pSub (pvar 4) (pcst (.int 1))))] [some (.scr ns), some d2', some (WD false ws ts st sp), some (.lst true vs), some (.int (0 + (j : Int))), o5, o6] = some ([n0, n1], [v, u]) := by
          simp (disch := omega) only [evps, backF, List.length_cons, List.length_nil, Nat.reduceAdd, Nat.reduceLeDiff, Nat.zero_add, sseq, sif, sset, sret, sretv, sretn, spass, sbrk, scont, sdrop, sstore, saug, sunpO, bnames, toD, evar, emv, p1, p2, d2, pvar, pcst, pcall, pcons, pnil, dcons, dnil, dcall, dlst, dtupO, dtup, dfrz, ofO, Res.bind, isFrz, allFrz, frz, frzs, ecall, aslot, aval, anil, argF, isAtom, fnF, maskF, tfP, tfD, tfand, tfor, tfnot, toB, pIsa, tyN, isaT, dand, dor, dnot, sbad, tyes, List.getElem?_cons_zero, List.getElem?_cons_succ, List.getElem?_nil, List.set_cons_zero, List.set_cons_succ, Option.bind, Option.map, Bool.false_eq_true, if_false, if_true, reduceIte, List.map_cons, List.map_nil, List.replicate, List.nil_append, List.cons_append, List.any_cons, List.any_nil, id_eq, Bool.or_false, Bool.or_true, Bool.not_false, Bool.not_true, Bool.and_true, Bool.and_false, Bool.true_and, Bool.false_and, W_0, i0, i1, v3, u3, sub_ok, vz, uz]
        unfold ddisp
        rw [he]
        show (if _ then _ else _) = _
        rw [if_pos hc]
      unfold b_p_law_2
      simp (disch := omega) only [backF, List.length_cons, List.length_nil, Nat.reduceAdd, Nat.reduceLeDiff, Nat.zero_add, sseq, sif, sset, sret, sretv, sretn, spass, sbrk, scont, sdrop, sstore, saug, sunpO, bnames, toD, evar, emv, p1, p2, d2, pvar, pcst, pcall, pcons, pnil, dcons, dnil, dcall, dlst, dtupO, dtup, dfrz, ofO, Res.bind, isFrz, allFrz, frz, frzs, ecall, aslot, aval, anil, argF, isAtom, fnF, maskF, tfP, tfD, tfand, tfor, tfnot, toB, pIsa, tyN, isaT, dand, dor, dnot, sbad, tyes, List.getElem?_cons_zero, List.getElem?_cons_succ, List.getElem?_nil, List.set_cons_zero, List.set_cons_succ, Option.bind, Option.map, Bool.false_eq_true, if_false, if_true, reduceIte, List.map_cons, List.map_nil, List.replicate, List.nil_append, List.cons_append, List.any_cons, List.any_nil, id_eq, Bool.or_false, Bool.or_true, Bool.not_false, Bool.not_true, Bool.and_true, Bool.and_false, Bool.true_and, Bool.false_and, bname, hd, v3, u3, sub_ok, vz, uz, vf, uf, sfor, srcL, p2'])
    [some (.scr ns), some d2', some (WD false ws ts st sp), some (.lst true vs), none, none, none] ⟨none, none, none, rfl⟩
  subst he
  have hbl : bLen [.lst true vs] = some (.int 11) := by
    show some (D.int (vs.length : Nat)) = _
    rw [hvl]; rfl
  have hr : rngOk 11 := ⟨by decide, by decide⟩
  have h11 : (11 : Int).toNat = 11 := rfl
  have en : pNeg (.int 1) = some (.int (-1)) := rfl
  have hadd' : dAdd (.lst true xs) (.lst false [.str [], .lst false [], .dic false [] [], .int (-1), .int 0]) = some (.lst true vs) := hadd
  unfold F_p_law b_p_law
  simp (disch := omega) only [backF, List.length_cons, List.length_nil, Nat.reduceAdd, Nat.reduceLeDiff, Nat.zero_add, sseq, sif, sset, sret, sretv, sretn, spass, sbrk, scont, sdrop, sstore, saug, sunpO, bnames, toD, evar, emv, p1, p2, d2, pvar, pcst, pcall, pcons, pnil, dcons, dnil, dcall, dlst, dtupO, dtup, dfrz, ofO, Res.bind, isFrz, allFrz, frz, frzs, ecall, aslot, aval, anil, argF, isAtom, fnF, maskF, tfP, tfD, tfand, tfor, tfnot, toB, pIsa, tyN, isaT, dand, dor, dnot, sbad, tyes, List.getElem?_cons_zero, List.getElem?_cons_succ, List.getElem?_nil, List.set_cons_zero, List.set_cons_succ, Option.bind, Option.map, Bool.false_eq_true, if_false, if_true, reduceIte, List.map_cons, List.map_nil, List.replicate, List.nil_append, List.cons_append, List.any_cons, List.any_nil, id_eq, Bool.or_false, Bool.or_true, Bool.not_false, Bool.not_true, Bool.and_true, Bool.and_false, Bool.true_and, Bool.false_and, t0, t1, frz_WD, t2', en, ddic0, hadd', hbl, sfor, srcR1d, hr, h11, q1]
end K79

namespace K79
open PySem PySem.Spec PyProof.Rows L2 DL
theorem evd {K : PySem.W.Frag} {h : Heap} {mg : Str → Option Value} (X : K.In h) (G : h.Ns mainGlobals mg) (c : SaysX fa cs fn K) : Evd K mg :=
  ⟨freeK X G c 0 rfl,
    freeK X G c 1 rfl,
    freeK X G c 2 rfl,
    freeK X G c 3 rfl,
    freeK X G c 4 rfl,
    freeK X G c 5 rfl,
    freeK X G c 6 rfl,
    freeK X G c 7 rfl,
    freeK X G c 8 rfl,
    freeK X G c 9 rfl,
    freeK X G c 10 rfl,
    freeK X G c 11 rfl,
    freeK X G c 12 rfl,
    freeK X G c 13 rfl,
    conK X G c 1 rfl,
    conK X G c 2 rfl,
    conK X G c 0 rfl,
    defK X G c 0 15 rfl rfl,
    defK X G c 1 16 rfl rfl,
    defK X G c 2 17 rfl rfl,
    defK X G c 3 18 rfl rfl,
    defK X G c 4 19 rfl rfl,
    defK X G c 5 20 rfl rfl,
    defK X G c 6 21 rfl rfl,
    defK X G c 7 22 rfl rfl,
    defK X G c 8 23 rfl rfl,
    defK X G c 9 24 rfl rfl,
    defK X G c 10 25 rfl rfl,
    defK X G c 11 26 rfl rfl,
    defK X G c 12 27 rfl rfl,
    defK X G c 13 28 rfl rfl,
    defK X G c 14 29 rfl rfl,
    defK X G c 15 30 rfl rfl,
    defK X G c 16 31 rfl rfl,
    defK X G c 17 32 rfl rfl,
    defK X G c 18 33 rfl rfl,
    defK X G c 19 34 rfl rfl,
    defK X G c 20 35 rfl rfl,
    defK X G c 21 36 rfl rfl,
    defK X G c 22 37 rfl rfl,
    defK X G c 23 38 rfl rfl,
    defK X G c 24 39 rfl rfl,
    defK X G c 25 40 rfl rfl,
    defK X G c 26 41 rfl rfl,
    defK X G c 27 42 rfl rfl,
    defK X G c 28 43 rfl rfl⟩
theorem facts {P : Program} {w : World} {K : PySem.W.Frag} {h : Heap} {mg : Str → Option Value} {f : Addr} (X : K.In h) (G : h.Ns mainGlobals mg) (hfa : mg ("law" : Str) = some (.ref f)) (c : SaysX fa cs fn K) :
    ∃ fd : FuncData, (∀ (s : Shared) (v : Value), BindsTo s fd ⟨[v], []⟩ [("_law_script", v)]) ∧ ∀ base : Heap, K.In base → base.Ns mainGlobals mg → FnOk P w K mg base CXn 16 f fd ["_law_script"] (fun vs H Q _ => spD K mg 1 (F_p_law 9) vs H Q fun _ _ _ => False) := by
  have Ev := evd X G c
  obtain ⟨fd, F⟩ := c.def_ 28 (d := dd "law" 37) rfl
  have e := hfa.symm.trans (He.glo_ok X G (c.fact 43 (f := .glo "law") rfl))
  cases e
  have b := FunD.bindsA (ps := ["_law_script"]) F fun _ _ _ _ _ _ us hl => match us, hl with | [_], _ => rfl
  exact ⟨fd, fun s v => b s [v] rfl, fun base _ _ => fnok_no (fn_law Ev F 9)⟩
end K79
open PySem PySem.W PySem.Calls PyProof.Rows
theorem PySem.Challenge.cw_leastform_k79_values_read_holds : PySem.Challenge.rw_leastform_k79_values_read.Holds := by
  w_on; o_law
  refine HandSHeadRun.head_any (r := OpenLaw.row PySem.Challenge.rw_leastform_k79_values_read) (q := view (OpenLaw.row PySem.Challenge.rw_leastform_k79_values_read).prog [37]) (H := K79.hk) (ob := K79.ob) (M := 6000) (loose := K79.loose) (d := HandSHeadRun.topDef (OpenLaw.row PySem.Challenge.rw_leastform_k79_values_read).prog 37) (kwd := []) K79.ob_eq
    (by kernel_rfl) (fun s => by kernel_rfl) K79.run (by kernel_rfl) (by kernel_rfl) (by kernel_rfl) (by rfl) (by first | assumption | decide +kernel) (by decide +kernel) ⟨rfl, rfl, rfl, rfl, rfl, by decide +kernel⟩ ?hw ?hc
  case hw => w_witness2
  case hc =>
    refine L2.walk_ofE (l := PySem.Challenge.rw_leastform_k79_values_read) (n := 63) (k := 16) (x := "_law_script") (CX := DL.CXn) rfl (by decide) (by kernel_rfl) ⟨rfl, by decide, by decide⟩ ?F (fun _ _ _ _ z => z)
    intro w mg fa h Y G hmg0
    obtain ⟨K, KX, c⟩ := Y
    have hmg : mg ("law" : PySem.Str) = some (.ref fa) := by
      have e : (HandSHeadRun.topDef (OpenLaw.row PySem.Challenge.rw_leastform_k79_values_read).prog 37).name = ("law" : PySem.Str) := by kernel_rfl
      rw [← e]
      exact hmg0
    obtain ⟨fd, hb, hF⟩ := K79.facts (P := (PySem.Challenge.rw_leastform_k79_values_read).prog) (w := w) KX G hmg c
    exact ⟨K, fd, (fun vs H Q _ => DL.spD K mg 1 (K79.F_p_law 9) vs H Q fun _ _ _ => False), KX, hb, fun H a ns hl _ hS => DL.law_sp (K79.law_ok ns hl 9 (Nat.le_refl 9)) hS, hF⟩

