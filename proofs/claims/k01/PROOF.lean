import PyProof.Rows.All
import Wide.All
import OpenK.AllK
import Wide.FinOn
import HandS.ForMost
import HandS.Exc
import HandS.TryOnly
import HandS.ExcOwn
import HandS.WordsExc
import HandS.TupAny
import HandS.TupMul
import HandS.Iter
import HandS.Wide
import HandS.IsInst
import HandS.Style
import HandS.Deep
import HandS.More
import HandS.Zip
import KE.GoesZip
import KE.GoesMore
import KE.GoesEnum
import KE.KDictPairs
import KE.KDictZip
import PyProof.DictUpdate
import HandS.SetFor
import HandS.Steps
import HandS.Set
import HandS.Strs
import PyProof.Rows.SortStr
import HandS.ExcCtx
import HandS.ExcIs
import HandS.HotCalls
import HandS.HeadHook1
import PyProof.TupleOfStr
import HandS.CallLocal
import HandS.CallSlots
import PyProof.Rows.StrMeet
import HandS.Text
import HandS.Defaults
import HandS.Head0
import HandS.Head1
import HandS.Head2
import HandS.HeadEnd
import HandS.HeadHook2
import KE.KRevSl
import PySem.Challenge.RW_boxshafts_k01_what_are_nets
set_option Elab.async false
set_option linter.all false
set_option maxRecDepth 100000
set_option maxHeartbeats 4000000
set_option exponentiation.threshold 100000
section
/-! A layer of pure data over HandS: values as trees (D), a def's own lists by numbers (loc), readings over these alone. -/
namespace Bx
open PySem L2

/-! ### data -/
inductive D where
  | non | bl (b : Bool) | int (i : Int) | str (x : Str) | tup (xs : List D) | lst (xs : List D) | dct (kvs : List (Key × D)) | raw (v : V) | scr (xs : List D)

mutual
/-- v stands for the data d; nothing at an address of O is leaned on -/
inductive Rep (K : PySem.W.Frag) (O : Addr → Prop) (H : Hp) : V → D → Prop
  | non : Rep K O H .non .non
  | bl (b : Bool) : Rep K O H (.bl b) (.bl b)
  | int (i : Int) : Rep K O H (.int i) (.int i)
  | str (x : Str) : Rep K O H (.str x) (.str x)
  | raw (v : V) : Rep K O H v (.raw v)
  | tup (a : Addr) (xs : List V) (ds : List D) (hO : ¬ O a) (h : ∃ o : Obj, o.dict = none ∧ H a = some (.frz o (.tup xs))) (hl : xs.length ≤ sizeLine) (r : Reps K O H xs ds) : Rep K O H (.ref a) (.tup ds)
  | tupK (a : Addr) (xs : List V) (ds : List D) (o : Obj) (its : Array Value) (n : Nat) (hk : K.lookup a = some o) (hc : o.cls = .type "tuple") (hq : o.dict = none) (hd : o.data = .seq its n) (hz : its.size ≤ sizeLine) (hv : Vals xs its.toList) (r : Reps K O H xs ds) : Rep K O H (.ref a) (.tup ds)
  | lst (a : Addr) (xs : List V) (ds : List D) (hO : ¬ O a) (h : H a = some (.lst xs)) (hl : xs.length ≤ sizeLine) (r : Reps K O H xs ds) : Rep K O H (.ref a) (.lst ds)
  | scr (a : Addr) (xs : List V) (ds : List D) (hO : ¬ O a) (h : Rd H a (.lst xs)) (hl : xs.length ≤ sizeLine) (r : Reps K O H xs ds) : Rep K O H (.ref a) (.scr ds)
  | scrK (a : Addr) (xs : List V) (ds : List D) (o : Obj) (its : Array Value) (n : Nat) (hk : K.lookup a = some o) (hc : o.cls = .type "list") (hq : o.dict = none) (hd : o.data = .seq its n) (hz : its.size ≤ sizeLine) (hv : Vals xs its.toList) (r : Reps K O H xs ds) : Rep K O H (.ref a) (.scr ds)
  | dct (a : Addr) (ks : List (Key × V)) (kvs : List (Key × D)) (hO : ¬ O a) (h : H a = some (.dK ks)) (hl : ks.length ≤ sizeLine) (r : RepK K O H ks kvs) : Rep K O H (.ref a) (.dct kvs)
inductive Reps (K : PySem.W.Frag) (O : Addr → Prop) (H : Hp) : List V → List D → Prop
  | nil : Reps K O H [] []
  | cons (v : V) (vs : List V) (d : D) (ds : List D) (r : Rep K O H v d) (t : Reps K O H vs ds) : Reps K O H (v :: vs) (d :: ds)
inductive RepK (K : PySem.W.Frag) (O : Addr → Prop) (H : Hp) : List (Key × V) → List (Key × D) → Prop
  | nil : RepK K O H [] []
  | cons (k : Key) (v : V) (vs : List (Key × V)) (d : D) (ds : List (Key × D)) (r : Rep K O H v d) (t : RepK K O H vs ds) : RepK K O H ((k, v) :: vs) ((k, d) :: ds)
end

section
variable {K : PySem.W.Frag} {O O' : Addr → Prop} {H H' : Hp}
theorem stay_aux (hk : ∀ a, ¬ O a → ∀ o, H a = some o → H' a = some o) (ho : ∀ a, O' a → O a ∨ H a = none) :
    (∀ v d, Rep K O H v d → Rep K O' H' v d) ∧ (∀ vs ds, Reps K O H vs ds → Reps K O' H' vs ds) ∧ (∀ vs ds, RepK K O H vs ds → RepK K O' H' vs ds) := by
  have nO : ∀ {a : Addr} {o : HO}, ¬ O a → H a = some o → ¬ O' a := fun {a o} h1 h2 h3 => by
    rcases ho a h3 with z | z
    · exact h1 z
    · rw [z] at h2; cases h2
  refine ⟨fun v d r => ?_, fun vs ds r => ?_, fun vs ds r => ?_⟩
  · exact Rep.rec (motive_1 := fun v d _ => Rep K O' H' v d) (motive_2 := fun vs ds _ => Reps K O' H' vs ds) (motive_3 := fun vs ds _ => RepK K O' H' vs ds)
      .non (fun b => .bl b) (fun i => .int i) (fun x => .str x) (fun v => .raw v)
      (fun a xs ds hO ⟨o, hq, h⟩ hl _ ih => .tup a xs ds (nO hO h) ⟨o, hq, hk a hO _ h⟩ hl ih)
      (fun a xs ds o its n q hc hq hd hz hv _ ih => .tupK a xs ds o its n q hc hq hd hz hv ih)
      (fun a xs ds hO h hl _ ih => .lst a xs ds (nO hO h) (hk a hO _ h) hl ih)
      (fun a xs ds hO h hl _ ih => .scr a xs ds (h.elim (nO hO) fun ⟨_, q⟩ => nO hO q) (h.elim (fun q => .inl (hk a hO _ q)) fun ⟨o, q⟩ => .inr ⟨o, hk a hO _ q⟩) hl ih)
      (fun a xs ds o its n q hc hq hd hz hv _ ih => .scrK a xs ds o its n q hc hq hd hz hv ih)
      (fun a ks kvs hO h hl _ ih => .dct a ks kvs (nO hO h) (hk a hO _ h) hl ih)
      .nil (fun v vs d ds _ _ i1 i2 => .cons v vs d ds i1 i2) .nil (fun k v vs d ds _ _ i1 i2 => .cons k v vs d ds i1 i2) r
  · exact Reps.rec (motive_1 := fun v d _ => Rep K O' H' v d) (motive_2 := fun vs ds _ => Reps K O' H' vs ds) (motive_3 := fun vs ds _ => RepK K O' H' vs ds)
      .non (fun b => .bl b) (fun i => .int i) (fun x => .str x) (fun v => .raw v)
      (fun a xs ds hO ⟨o, hq, h⟩ hl _ ih => .tup a xs ds (nO hO h) ⟨o, hq, hk a hO _ h⟩ hl ih)
      (fun a xs ds o its n q hc hq hd hz hv _ ih => .tupK a xs ds o its n q hc hq hd hz hv ih)
      (fun a xs ds hO h hl _ ih => .lst a xs ds (nO hO h) (hk a hO _ h) hl ih)
      (fun a xs ds hO h hl _ ih => .scr a xs ds (h.elim (nO hO) fun ⟨_, q⟩ => nO hO q) (h.elim (fun q => .inl (hk a hO _ q)) fun ⟨o, q⟩ => .inr ⟨o, hk a hO _ q⟩) hl ih)
      (fun a xs ds o its n q hc hq hd hz hv _ ih => .scrK a xs ds o its n q hc hq hd hz hv ih)
      (fun a ks kvs hO h hl _ ih => .dct a ks kvs (nO hO h) (hk a hO _ h) hl ih)
      .nil (fun v vs d ds _ _ i1 i2 => .cons v vs d ds i1 i2) .nil (fun k v vs d ds _ _ i1 i2 => .cons k v vs d ds i1 i2) r
  · exact RepK.rec (motive_1 := fun v d _ => Rep K O' H' v d) (motive_2 := fun vs ds _ => Reps K O' H' vs ds) (motive_3 := fun vs ds _ => RepK K O' H' vs ds)
      .non (fun b => .bl b) (fun i => .int i) (fun x => .str x) (fun v => .raw v)
      (fun a xs ds hO ⟨o, hq, h⟩ hl _ ih => .tup a xs ds (nO hO h) ⟨o, hq, hk a hO _ h⟩ hl ih)
      (fun a xs ds o its n q hc hq hd hz hv _ ih => .tupK a xs ds o its n q hc hq hd hz hv ih)
      (fun a xs ds hO h hl _ ih => .lst a xs ds (nO hO h) (hk a hO _ h) hl ih)
      (fun a xs ds hO h hl _ ih => .scr a xs ds (h.elim (nO hO) fun ⟨_, q⟩ => nO hO q) (h.elim (fun q => .inl (hk a hO _ q)) fun ⟨o, q⟩ => .inr ⟨o, hk a hO _ q⟩) hl ih)
      (fun a xs ds o its n q hc hq hd hz hv _ ih => .scrK a xs ds o its n q hc hq hd hz hv ih)
      (fun a ks kvs hO h hl _ ih => .dct a ks kvs (nO hO h) (hk a hO _ h) hl ih)
      .nil (fun v vs d ds _ _ i1 i2 => .cons v vs d ds i1 i2) .nil (fun k v vs d ds _ _ i1 i2 => .cons k v vs d ds i1 i2) r
theorem Rep.stay {v : V} {d : D} (r : Rep K O H v d) (hk : ∀ a, ¬ O a → ∀ o, H a = some o → H' a = some o) (ho : ∀ a, O' a → O a ∨ H a = none) : Rep K O' H' v d := (stay_aux hk ho).1 v d r
theorem Reps.stay {vs : List V} {ds : List D} (r : Reps K O H vs ds) (hk : ∀ a, ¬ O a → ∀ o, H a = some o → H' a = some o) (ho : ∀ a, O' a → O a ∨ H a = none) : Reps K O' H' vs ds := (stay_aux hk ho).2.1 vs ds r
theorem RepK.stay {vs : List (Key × V)} {ds : List (Key × D)} (r : RepK K O H vs ds) (hk : ∀ a, ¬ O a → ∀ o, H a = some o → H' a = some o) (ho : ∀ a, O' a → O a ∨ H a = none) : RepK K O' H' vs ds := (stay_aux hk ho).2.2 vs ds r
theorem Reps.length : ∀ {vs : List V} {ds : List D}, Reps K O H vs ds → vs.length = ds.length
  | _, _, .nil => rfl
  | _, _, .cons _ _ _ _ _ t => congrArg Nat.succ (Reps.length t)
theorem Reps.get : ∀ {vs : List V} {ds : List D} {i : Nat} {d : D}, Reps K O H vs ds → ds[i]? = some d → ∃ v, vs[i]? = some v ∧ Rep K O H v d
  | _, _, i, d, .nil, e => by simp at e
  | _, _, 0, d, .cons v vs d' ds r t, e => by simp at e; subst e; exact ⟨v, rfl, r⟩
  | _, _, i + 1, d, .cons v vs d' ds r t, e => by
    obtain ⟨v', h1, h2⟩ := Reps.get (i := i) (d := d) t (by simpa using e)
    exact ⟨v', by simpa using h1, h2⟩
theorem Reps.getV : ∀ {vs : List V} {ds : List D} {i : Nat} {v : V}, Reps K O H vs ds → vs[i]? = some v → ∃ d, ds[i]? = some d ∧ Rep K O H v d
  | _, _, i, d, .nil, e => by simp at e
  | _, _, 0, d, .cons v vs d' ds r t, e => by simp at e; subst e; exact ⟨d', rfl, r⟩
  | _, _, i + 1, d, .cons v vs d' ds r t, e => by
    obtain ⟨v', h1, h2⟩ := Reps.getV (i := i) (v := d) t (by simpa using e)
    exact ⟨v', by simpa using h1, h2⟩
theorem Reps.append : ∀ {vs ws : List V} {ds es : List D}, Reps K O H vs ds → Reps K O H ws es → Reps K O H (vs ++ ws) (ds ++ es)
  | _, _, _, _, .nil, t => t
  | _, _, _, _, .cons v vs d ds r t, u => .cons v _ d _ r (Reps.append t u)
theorem Reps.set {v : V} {d : D} (r : Rep K O H v d) : ∀ {vs : List V} {ds : List D} (i : Nat), Reps K O H vs ds → Reps K O H (vs.set i v) (ds.set i d)
  | _, _, _, .nil => .nil
  | _, _, 0, .cons _ _ _ _ _ t => .cons _ _ _ _ r t
  | _, _, i + 1, .cons _ _ _ _ q t => .cons _ _ _ _ q (Reps.set r i t)
theorem Reps.take : ∀ {vs : List V} {ds : List D} (n : Nat), Reps K O H vs ds → Reps K O H (vs.take n) (ds.take n)
  | _, _, 0, _ => .nil
  | _, _, _ + 1, .nil => .nil
  | _, _, n + 1, .cons _ _ _ _ q t => .cons _ _ _ _ q (Reps.take n t)
theorem Reps.drop : ∀ {vs : List V} {ds : List D} (n : Nat), Reps K O H vs ds → Reps K O H (vs.drop n) (ds.drop n)
  | _, _, 0, r => r
  | _, _, _ + 1, .nil => .nil
  | _, _, n + 1, .cons _ _ _ _ _ t => Reps.drop n t
theorem Reps.eraseIdx : ∀ {vs : List V} {ds : List D} (n : Nat), Reps K O H vs ds → Reps K O H (vs.eraseIdx n) (ds.eraseIdx n)
  | _, _, _, .nil => .nil
  | _, _, 0, .cons _ _ _ _ _ t => t
  | _, _, n + 1, .cons _ _ _ _ q t => .cons _ _ _ _ q (Reps.eraseIdx n t)
theorem Reps.reverse {vs : List V} {ds : List D} (r : Reps K O H vs ds) : Reps K O H vs.reverse ds.reverse := by
  have h : ∀ {vs : List V} {ds : List D}, Reps K O H vs ds → Reps K O H vs.reverse ds.reverse := by
    intro vs
    induction vs with
    | nil => intro ds r; cases r; exact .nil
    | cons v vs ih =>
      intro ds r
      cases r with
      | cons _ _ d ds r t =>
        rw [List.reverse_cons, List.reverse_cons]
        exact (ih t).append (.cons _ _ _ _ r .nil)
  exact h r
end

/-! ### the state over data: slots, own objects -/
inductive Val where
  | d (x : D)
  | loc (i : Nat)
structure S where
  env : List (Option Val)
  own : List (Option D)
/-- what is hid: the addresses of the own objects, those of the callers -/
structure G where
  F : Addr → Prop
  adr : List Addr
def live (g : G) (s : S) (a : Addr) : Prop := ∃ (i : Nat) (d : D), g.adr[i]? = some a ∧ s.own[i]? = some (some d)
def Ov (g : G) (s : S) (a : Addr) : Prop := g.F a ∨ live g s a
def OwnRep (K : PySem.W.Frag) (O : Addr → Prop) (H : Hp) (a : Addr) : D → Prop
  | .lst ds => ∃ xs, H a = some (.lst xs) ∧ xs.length ≤ sizeLine ∧ Reps K O H xs ds
  | .dct kvs => ∃ ks, H a = some (.dK ks) ∧ ks.length ≤ sizeLine ∧ RepK K O H ks kvs
  | _ => False
def RepV (K : PySem.W.Frag) (g : G) (s : S) (H : Hp) (v : V) : Val → Prop
  | .d x => Rep K (Ov g s) H v x
  | .loc i => ∃ a, g.adr[i]? = some a ∧ v = .ref a
structure Hold (K : PySem.W.Frag) (g : G) (s : S) (σ : L2.St) (H : Hp) : Prop where
  len : σ.length = s.env.length
  env : ∀ (i : Nat) (c : Val), s.env[i]? = some (some c) → ∃ v, σ[i]? = some (some v) ∧ RepV K g s H v c
  own : ∀ (i : Nat) (d : D) (a : Addr), s.own[i]? = some (some d) → g.adr[i]? = some a → OwnRep K (Ov g s) H a d
  adl : g.adr.length = s.own.length
  nod : g.adr.Nodup
  fr : ∀ a, g.F a → H a ≠ none
  trk : ∀ a ∈ g.adr, H a ≠ none
  sep : ∀ a ∈ g.adr, ¬ g.F a
theorem live.mem {g : G} {s : S} {a : Addr} (h : live g s a) : a ∈ g.adr := by
  obtain ⟨i, d, e, _⟩ := h
  exact List.mem_of_getElem? e
structure Adv (g : G) (s : S) (H : Hp) (g' : G) (s' : S) (H' : Hp) : Prop where
  F : g'.F = g.F
  adr : ∃ more, g'.adr = g.adr ++ more
  keep : ∀ a o, H a = some o → ¬ live g s a → H' a = some o
  liv : ∀ a, live g' s' a → live g s a ∨ H a = none
  trk : ∀ a, H a ≠ none → H' a ≠ none
section
variable {K : PySem.W.Frag} {g g1 g' : G} {s s1 s' : S} {σ : L2.St} {H H1 H' : Hp} {v : V} {c : Val}
theorem Adv.refl : Adv g s H g s H := ⟨rfl, ⟨[], by simp⟩, fun _ _ h _ => h, fun _ h => .inl h, fun _ h => h⟩
theorem Adv.trans (a : Adv g s H g1 s1 H1) (b : Adv g1 s1 H1 g' s' H') : Adv g s H g' s' H' := by
  refine ⟨b.F.trans a.F, ?_, fun x o h n => ?_, fun x h => ?_, fun x h => b.trk x (a.trk x h)⟩
  · obtain ⟨m, e⟩ := a.adr
    obtain ⟨m', e'⟩ := b.adr
    exact ⟨m ++ m', by rw [e', e, List.append_assoc]⟩
  · refine b.keep x o (a.keep x o h n) fun z => ?_
    rcases a.liv x z with q | q
    · exact n q
    · rw [q] at h; cases h
  · rcases b.liv x h with q | q
    · exact a.liv x q
    · exact .inr (Classical.byContradiction fun z => a.trk x z q)
theorem Adv.ov (a : Adv g s H g' s' H') : ∀ x, Ov g' s' x → Ov g s x ∨ H x = none := fun x h => by
  rcases h with h | h
  · rw [a.F] at h; exact .inl (.inl h)
  · rcases a.liv x h with q | q
    · exact .inl (.inr q)
    · exact .inr q
theorem Adv.kp (a : Adv g s H g' s' H') : ∀ x, ¬ Ov g s x → ∀ o, H x = some o → H' x = some o := fun x n o h => a.keep x o h fun z => n (.inr z)
theorem Rep.adv {d : D} (r : Rep K (Ov g s) H v d) (a : Adv g s H g' s' H') : Rep K (Ov g' s') H' v d := r.stay a.kp a.ov
theorem Reps.adv {vs : List V} {ds : List D} (r : Reps K (Ov g s) H vs ds) (a : Adv g s H g' s' H') : Reps K (Ov g' s') H' vs ds := r.stay a.kp a.ov
theorem RepK.adv {vs : List (Key × V)} {ds : List (Key × D)} (r : RepK K (Ov g s) H vs ds) (a : Adv g s H g' s' H') : RepK K (Ov g' s') H' vs ds := r.stay a.kp a.ov
theorem RepV.adv (r : RepV K g s H v c) (a : Adv g s H g' s' H') : RepV K g' s' H' v c := by
  cases c with
  | d x => exact Rep.adv r a
  | loc i =>
    obtain ⟨x, h, e⟩ := r
    obtain ⟨m, em⟩ := a.adr
    refine ⟨x, ?_, e⟩
    rw [em]
    have := (List.getElem?_eq_some_iff.mp h).1
    rw [List.getElem?_append_left this]; exact h
end
inductive RepVs (K : PySem.W.Frag) (g : G) (s : S) (H : Hp) : List V → List Val → Prop
  | nil : RepVs K g s H [] []
  | cons {v : V} {vs : List V} {c : Val} {cs : List Val} (r : RepV K g s H v c) (t : RepVs K g s H vs cs) : RepVs K g s H (v :: vs) (c :: cs)
section
variable {K : PySem.W.Frag} {g g1 g' : G} {s s1 s' : S} {σ : L2.St} {H H1 H' : Hp} {v : V} {c : Val}
theorem RepVs.adv {vs : List V} {cs : List Val} (r : RepVs K g s H vs cs) (a : Adv g s H g' s' H') : RepVs K g' s' H' vs cs := by
  induction r with
  | nil => exact .nil
  | cons r _ ih => exact .cons (r.adv a) ih
theorem RepVs.length {vs : List V} {cs : List Val} (r : RepVs K g s H vs cs) : vs.length = cs.length := by
  induction r with
  | nil => rfl
  | cons r _ ih => exact congrArg Nat.succ ih
end

/-! ### readings over data -/
abbrev TP := S → (Val → S → Prop) → Prop
abbrev TPt := S → (Bool → S → Prop) → Prop
abbrev TPa := S → (List Val → S → Prop) → Prop
abbrev TPg := Val → S → (S → Prop) → Prop
abbrev TPgs := List Val → S → (S → Prop) → Prop
structure EndsP where
  nx : S → Prop
  rt : Val → S → Prop
  bk : S → Prop := fun _ => False
  ct : S → Prop := fun _ => False
  ex : Addr → S → Prop := fun _ _ => False
abbrev TPs := EndsP → S → Prop
abbrev TPi := S → (List D → S → Prop) → Prop

/-- what follows an expression -/
def Kont (K : PySem.W.Frag) (g : G) (s : S) (σ : L2.St) (H : Hp) (Qp : Val → S → Prop) (Q : VK) : Prop :=
  ∀ v H' c g' s', Hold K g' s' σ H' → Adv g s H g' s' H' → RepV K g' s' H' v c → Qp c s' → Q v H'
def lift (K : PySem.W.Frag) (p : TP) : TE := fun σ H Q => ∃ g s Qp, Hold K g s σ H ∧ p s Qp ∧ Kont K g s σ H Qp Q
def KontT (K : PySem.W.Frag) (g : G) (s : S) (σ : L2.St) (H : Hp) (Qp : Bool → S → Prop) (Q : Bool → Hp → Prop) : Prop :=
  ∀ b H' g' s', Hold K g' s' σ H' → Adv g s H g' s' H' → Qp b s' → Q b H'
def liftT (K : PySem.W.Frag) (p : TPt) : TT := fun σ H Q => ∃ g s Qp, Hold K g s σ H ∧ p s Qp ∧ KontT K g s σ H Qp Q
def KontA (K : PySem.W.Frag) (g : G) (s : S) (σ : L2.St) (H : Hp) (Qp : List Val → S → Prop) (Q : List V → Hp → Prop) : Prop :=
  ∀ vs H' cs g' s', Hold K g' s' σ H' → Adv g s H g' s' H' → RepVs K g' s' H' vs cs → Qp cs s' → Q vs H'
def liftA (K : PySem.W.Frag) (p : TPa) : TA := fun σ H Q => ∃ g s Qp, Hold K g s σ H ∧ p s Qp ∧ KontA K g s σ H Qp Q
def KontS (K : PySem.W.Frag) (g : G) (s : S) (H : Hp) (E : EndsP) (D : Ends) : Prop :=
  ∀ σ' H' g' s', Hold K g' s' σ' H' → Adv g s H g' s' H' → (E.nx s' → D.nx σ' H') ∧ (E.bk s' → D.bk σ' H') ∧ (E.ct s' → D.ct σ' H') ∧ ∀ v c, RepV K g' s' H' v c → E.rt c s' → D.rt v H'
/-- W: what is wanted of an exception (class, own dict) at the slots and the heap -/
def KontX (K : PySem.W.Frag) (g : G) (s : S) (H : Hp) (ex : Addr → S → Prop) (W : WX) : Prop :=
  ∀ σ' H' g' s' C, Hold K g' s' σ' H' → Adv g s H g' s' H' → ex C s' → W (.ref C) none σ' H'
def liftS (K : PySem.W.Frag) (W : WX) (p : TPs) : TS := fun D σ H => ∃ g s E, Hold K g s σ H ∧ p E s ∧ KontS K g s H E D ∧ KontX K g s H E.ex W
def KontG (K : PySem.W.Frag) (g : G) (s : S) (H : Hp) (Qp : S → Prop) (Q : L2.St → Hp → Prop) : Prop :=
  ∀ σ' H' g' s', Hold K g' s' σ' H' → Adv g s H g' s' H' → Qp s' → Q σ' H'
def liftG (K : PySem.W.Frag) (p : TPg) : TG := fun v σ H Q => ∃ g s c Qp, Hold K g s σ H ∧ RepV K g s H v c ∧ p c s Qp ∧ KontG K g s H Qp Q
def liftGs (K : PySem.W.Frag) (p : TPgs) : TGs := fun vs σ H Q => ∃ g s cs Qp, Hold K g s σ H ∧ RepVs K g s H vs cs ∧ p cs s Qp ∧ KontG K g s H Qp Q

abbrev PP (X : Cx) (e : Expr) (p : TP) : Prop := PE X e (lift X.K p)
abbrev PPt (X : Cx) (e : Expr) (p : TPt) : Prop := PT X e (liftT X.K p)
abbrev PPa (X : Cx) (es : List Expr) (p : TPa) : Prop := PA X es (liftA X.K p)
abbrev PPg (X : Cx) (e : Expr) (p : TPg) : Prop := PG X e (liftG X.K p)
abbrev PPgs (X : Cx) (es : List Expr) (p : TPgs) : Prop := PGs X es (liftGs X.K p)

section
variable {X : Cx} {e : Expr} {es : List Expr}
theorem PEw {t t' : TE} (h : PE X e t) (w : ∀ σ H Q, t' σ H Q → t σ H Q) : PE X e t' := ⟨fun pins s σ H Q I q => h.run pins s σ H Q I (w _ _ _ q)⟩
theorem PTw {t t' : TT} (h : PT X e t) (w : ∀ σ H Q, t' σ H Q → t σ H Q) : PT X e t' := ⟨fun pins s σ H Q I q => h.run pins s σ H Q I (w _ _ _ q)⟩
theorem PAw {t t' : TA} (h : PA X es t) (w : ∀ σ H Q, t' σ H Q → t σ H Q) : PA X es t' := ⟨fun pos pins s σ H Q I q => h.run pos pins s σ H Q I (w _ _ _ q)⟩
theorem PSw {st : Stmt} {t t' : TS} (h : PS X st t) (w : ∀ D σ H, t' D σ H → t D σ H) : PS X st t' := ⟨fun pins s σ H D I q => h.run pins s σ H D I (w _ _ _ q)⟩
theorem PSsw {st : List Stmt} {t t' : TS} (h : PSs X st t) (w : ∀ D σ H, t' D σ H → t D σ H) : PSs X st t' := ⟨fun pins s σ H D I q => h.run pins s σ H D I (w _ _ _ q)⟩
theorem PGw {t t' : TG} (h : PG X e t) (w : ∀ v σ H Q, t' v σ H Q → t v σ H Q) : PG X e t' := ⟨fun pins s σ H v u Q I r q => h.run pins s σ H v u Q I r (w _ _ _ _ q)⟩
theorem PGsw {t t' : TGs} (h : PGs X es t) (w : ∀ v σ H Q, t' v σ H Q → t v σ H Q) : PGs X es t' := ⟨fun pins s σ H v u Q I r q => h.run pins s σ H v u Q I r (w _ _ _ _ q)⟩
end

/-! ### names, constants -/
def nth {α : Type} : List α → Nat → Option α
  | [], _ => none
  | a :: _, 0 => some a
  | _ :: l, n + 1 => nth l n
theorem nth_eq {α : Type} : ∀ (l : List α) (n : Nat), nth l n = l[n]?
  | [], _ => by simp [nth]
  | a :: l, 0 => by simp [nth]
  | a :: l, n + 1 => by simp [nth, nth_eq l n]
def wVar (i : Nat) : TP := fun s Q => match nth s.env i with
  | some (some c) => Q c s
  | _ => False
def wC (x : D) : TP := fun s Q => Q (.d x) s
section
variable {X : Cx}
theorem pp_of_const {e : Expr} {v : V} {x : D} (h : PE X e (tC v)) (r : ∀ K O H, Rep K O H v x) : PP X e (wC x) := PEw h fun σ H Q ⟨g, s, Qp, hd, hp, k⟩ => k v H (.d x) g s hd .refl (r _ _ _) hp
theorem pp_int {i j pos} : PP X (.Constant (.int i) j pos) (wC (.int i)) := pp_of_const pe_int fun _ _ _ => .int i
theorem pp_bl {b j pos} : PP X (.Constant (.bool b) j pos) (wC (.bl b)) := pp_of_const pe_bl fun _ _ _ => .bl b
theorem pp_non {j pos} : PP X (.Constant .none j pos) (wC .non) := pp_of_const pe_non fun _ _ _ => .non
theorem pp_str {x j pos} : PP X (.Constant (.str x) j pos) (wC (.str x)) := pp_of_const pe_str fun _ _ _ => .str x
theorem pp_var {e : Expr} {i : Nat} (h : PE X e (tVar i)) : PP X e (wVar i) := PEw h fun σ H Q ⟨g, s, Qp, hd, hp, k⟩ => by
  unfold wVar at hp
  split at hp
  · rename_i c hc
    rw [nth_eq] at hc
    obtain ⟨v, e, r⟩ := hd.env i c hc
    exact ⟨v, e, k v H c g s hd .refl r hp⟩
  · exact hp.elim
theorem ppv (i : Nat) {x : Str} {pos : Pos} (hN : X.N[i]? = some x := by rfl) (hv : Vis X.env.scope x := by first | exact Or.inl rfl | exact Or.inr (Or.inl rfl) | exact Or.inr (Or.inr rfl)) (hd : (x == ("__debug__" : Str)) = false := by decide)
    (hcd : (x == ("__classdict__" : Str)) = false := by decide) : PP X (.Name x pos) (wVar i) := pp_var (pv i hN hv hd hcd)
end
end Bx
end

section
/-! Tuples whose object is known to have no attributes: how they come to be. -/
namespace Bx
open PySem L2 PySem.Spec PyProof.Rows

/-- what follows a new tuple of these items -/
def NewT (H : Hp) (xs : List V) (Q : VK) : Prop := ∀ p o, o.dict = none → H p = none → Q (.ref p) (upd H p (.frz o (.tup xs)))
section
variable {X : Cx} {pins : List (Addr × Obj)} {σ : L2.St} {H : Hp} {s : Shared} {xs : List V} {Q : VK}
theorem newT_at {h' : Heap} {p : Addr} {tk : Nat} {its : List Value} {m : Nat} (I : Inv X pins σ H s) (k : ∀ b u, s.heap.get? b = some u → h'.get? b = some u) (hp : s.heap.objs.size ≤ p) (e : h'.get? p = some { cls := .type "tuple", data := .seq its.toArray m })
    (r : Vals xs its) (z : xs.length ≤ sizeLine) (q : NewT H xs Q) : EP X pins σ Q (.ref p) { s with heap := h', toks := tk } :=
  ⟨.ref p, _, I.laid (o := .frz { cls := .type "tuple", data := .seq its.toArray m } (.tup xs)) k hp ⟨e, z, its, r, ⟨_, e, rfl, _, rfl⟩⟩, rfl, q _ _ rfl (I.hok.fresh hp)⟩
theorem newT_push {its : List Value} {tk m : Nat} (I : Inv X pins σ H s) (r : Vals xs its) (z : xs.length ≤ sizeLine) (q : NewT H xs Q) :
    EP X pins σ Q (.ref s.heap.objs.size) { s with heap := s.heap.push { cls := .type "tuple", data := .seq its.toArray m }, toks := tk } :=
  newT_at (h' := s.heap.push { cls := .type "tuple", data := .seq its.toArray m }) I (fun b u e => Heap.get?_push_of_some _ e) (Nat.le_refl _) (Heap.get?_push_size _ rfl) r z q
end
/-! displays -/
def tTupP (t : TA) : TE := fun σ H Q => t σ H fun xs H1 => xs.length ≤ sizeLine ∧ NewT H1 xs Q
theorem pe_tupP {X : Cx} {es : List Expr} {t : TA} {pos : Pos} {x1} (h : PA X es t) : PE X (.Tuple es x1 pos) (tTupP t) :=
  ⟨fun pins s σ H Q I hq => wpAny_Tuple_spliced (thn (h.run pos pins s σ H _ I hq) fun us s1 ⟨xs, H1, I1, r, z, q⟩ => ⟨by rw [← r.length]; exact z, newT_push (tk := s1.toks) (m := 0) I1 r z q⟩)⟩
/-! tuple(x) -/
def rTuple (K : PySem.W.Frag) : List V → Hp → VK → Prop := fun xs H Q => ∃ p ys, xs = [.ref p] ∧ ((SqL K H p ys ∧ NewT H ys Q) ∨ (SqT K H p ys ∧ Q (.ref p) H))
theorem call_tupleP {X : Cx} : CallR X (.type "tuple") (rTuple X.K) := by
  rintro pins s σ H xs us Q I r ⟨p, ys, rfl, h⟩
  obtain ⟨u, rfl, rx⟩ := vals1 r
  cases rx
  rcases h with ⟨hq, q⟩ | ⟨hq, q⟩
  · obtain ⟨its, rl, pl, hz⟩ := I.list hq
    have hn := rl.length
    refine call_tuple_list pl.isList (fun h' kp => ?_) (by rw [List.size_toArray]; omega)
    exact newT_push (tk := s.toks) (m := 0) (I.kept (t' := s.toks) kp) rl hz q
  · obtain ⟨its, _, pl, _⟩ := I.tuple hq
    exact call_tuple_same pl ⟨.ref p, H, I, rfl, q⟩
/-! a part of a tuple -/
def rSlP (K : PySem.W.Frag) : V → Option Int → Option Int → Hp → VK → Prop := fun x lo hi H Q => ∃ a xs, x = .ref a ∧ SqT K H a xs ∧
  (HT.sIx xs.length 0 lo = 0 ∧ HT.sIx xs.length xs.length hi = xs.length → Q (.ref a) H) ∧ (¬ (HT.sIx xs.length 0 lo = 0 ∧ HT.sIx xs.length xs.length hi = xs.length) → NewT H (cutV xs lo hi) Q)
theorem sl_tupP {X : Cx} : SlR X (rSlP X.K) := by
  rintro pins s σ H x v vl vu lo hi sl Q I rx hs pl pu ⟨a, xs, rfl, hx, q1, q2⟩
  cases rx
  obtain ⟨its, r, ht, hz⟩ := I.tuple hx
  have hn : its.toArray.size = xs.length := (List.size_toArray ..).trans r.length.symm
  refine ⟨"tuple", _, PyProof.Rows.slot_tuple_getitem.lookup, ht.typeIs, ?_⟩
  by_cases hw : HT.sIx xs.length 0 lo = 0 ∧ HT.sIx xs.length xs.length hi = xs.length
  · exact getItem_tuple_whole ht hs pl pu (hn ▸ hw) ⟨.ref a, H, I, rfl, q1 hw⟩
  · refine HT.getItem_tuple_cut ht hs pl pu (by rw [hn]; exact hw) ?_ (by rw [hn]; exact hz)
    rw [hn]
    exact newT_push (tk := s.toks) (m := 0) I ((r.drop _).take _) (Nat.le_trans (cutV_length xs lo hi) hz) (q2 hw)
/-! t + u -/
def rCatP (K : PySem.W.Frag) : R2 := fun x y H Q => ∃ a b xs ys, x = .ref a ∧ y = .ref b ∧ SqT K H a xs ∧ SqT K H b ys ∧ xs.length + ys.length ≤ sizeLine ∧
  (xs = [] → Q (.ref b) H) ∧ (ys = [] → Q (.ref a) H) ∧ NewT H (xs ++ ys) Q
theorem op_catP {X : Cx} : OpR X (binaryOp .Add) (rCatP X.K) := by
  rintro pins s σ H x y v u Q I rx ry ⟨a, b, xs, ys, rfl, rfl, ha, hb, hz, q0, q1, q2⟩
  cases rx; cases ry
  obtain ⟨its, r1, p1, _⟩ := I.tuple ha
  obtain ⟨its2, r2, p2, _⟩ := I.tuple hb
  have n1 := r1.length
  have n2 := r2.length
  by_cases e : xs = []
  · subst e; cases r1
    exact cat_tup0 p1 p2 ⟨.ref b, H, I, rfl, q0 rfl⟩
  · refine HT.cat_tup p1 p2 (fun z => e (List.length_eq_zero_iff.mp (by rw [n1, z]; rfl))) (fun z => ⟨.ref a, H, I, rfl, q1 (List.length_eq_zero_iff.mp (by rw [n2, z]; rfl))⟩) (fun _ => ?_) (by omega)
    exact newT_push (tk := s.toks) (m := 0) I (r1.append r2) (by rw [List.length_append]; exact hz) q2
/-! t * n -/
section
theorem mul_same (l : Addr) (items : Array Value) (n : Nat) (dd : Option Addr) (sl : Array (Option Value)) (x : Int) (u : Tok) (c0 : (decide (x < -(2 ^ 63)) || decide (x ≥ 2 ^ 63)) = false) (c1 : (items.isEmpty || x == 1) = true) :
    Meets (Builtin.«tuple.__mul__» ⟨[.ref l, .int x u], []⟩) (fun _ R s => s.heap.get? l = some { cls := .type "tuple", dict := dd, data := .seq items n, slots := sl } ∧ R (.ok (.ret (Value.ref l))) s) :=
  .of_wp fun prog w A R s h => by
    obtain ⟨hp, g, d, tk, os⟩ := s
    obtain ⟨hl, h⟩ := h
    have f1 := AutoSeq1.idx_int
    wp_walk using wpAny_loadPart' hl
    repeat (first
      | (refine wpAny_ite_false (decide_eq_false (by rw [c0]; exact Bool.false_ne_true)) ?_; wp_walk using wpAny_loadPart' hl)
      | (refine wpAny_ite_true (decide_eq_true c1) ?_; wp_walk using wpAny_loadPart' hl))
    exact ⟨_, rfl, h⟩
theorem mul_none (l : Addr) (items : Array Value) (n : Nat) (dd : Option Addr) (sl : Array (Option Value)) (x : Int) (u : Tok) (c0 : (decide (x < -(2 ^ 63)) || decide (x ≥ 2 ^ 63)) = false) (c1 : (items.isEmpty || x == 1) = false) (c2 : (decide (x ≤ 0) || items.isEmpty) = true) :
    Meets (Builtin.«tuple.__mul__» ⟨[.ref l, .int x u], []⟩) (fun _ R s => s.heap.get? l = some { cls := .type "tuple", dict := dd, data := .seq items n, slots := sl } ∧
      R (.ok (.ret (Value.ref s.heap.objs.size))) { s with heap := s.heap.push { cls := Value.type "tuple", data := Data.seq #[] }, toks := s.toks }) :=
  .of_wp fun prog w A R s h => by
    obtain ⟨hp, g, d, tk, os⟩ := s
    obtain ⟨hl, h⟩ := h
    have f1 := AutoSeq1.idx_int
    wp_walk using wpAny_loadPart' hl
    repeat (first
      | (refine wpAny_ite_false (decide_eq_false (by rw [c0]; exact Bool.false_ne_true)) ?_; wp_walk using wpAny_loadPart' hl)
      | (refine wpAny_ite_false (decide_eq_false (by rw [c1]; exact Bool.false_ne_true)) ?_; wp_walk using wpAny_loadPart' hl)
      | (refine wpAny_ite_true (decide_eq_true c2) ?_; wp_walk using wpAny_loadPart' hl))
    exact ⟨_, rfl, h⟩
end
def rRepP (K : PySem.W.Frag) : R2 := fun x y H Q => ∃ l k xs, x = .ref l ∧ y = .int k ∧ SqT K H l xs ∧ -1000 ≤ k ∧ k ≤ 1000 ∧ xs.length ≤ 1000 ∧
  ((xs = [] ∨ k = 1) → Q (.ref l) H) ∧ NewT H (List.replicate k.toNat xs).flatten Q
theorem op_repP {X : Cx} : OpR X (binaryOp .Mult) (rRepP X.K) := by
  rintro pins s σ H x y v u Q I rx ry ⟨l, k, xs, rfl, rfl, hT, h1, h2, hz, qs, q⟩
  cases rx
  obtain ⟨t, rfl⟩ := ry
  obtain ⟨its, r, ⟨⟨cls, dd, data, sl⟩, ho, hc, n, hd⟩, hs⟩ := I.tuple hT
  simp only at hc hd
  subst hc hd
  have hn : its.toArray.size = xs.length := (List.size_toArray ..).trans r.length.symm
  have he : its.toArray.isEmpty = true ↔ xs = [] := by
    have := r.length
    rw [Array.isEmpty_iff_size_eq_zero, hn, List.length_eq_zero_iff]
  have c0 : (decide (k < -(2 ^ 63)) || decide (k ≥ 2 ^ 63)) = false := Bool.or_eq_false_iff.mpr ⟨decide_eq_false (by omega), decide_eq_false (by omega)⟩
  refine wpAny_binaryOp_repeat_ref (T := "tuple") (U := "int") (by decide) ⟨_, ho, rfl⟩ (fun s' => typeIs_int s' k t) noFill_tuple_mul F.fills_int_mul F.slot_int_rmul repeat_tuple F.slot_int_index.lookup
    (call_meets F.slot_int_rmul (typeIs_int s k t) F.entry_int_rmul (F.args_int_rmul_2 _ _) (int_rmul_tuple k t l its.toArray n dd sl) ⟨ho, rfl, ⟨_, ho, rfl⟩, ?_⟩)
  by_cases e1 : xs = [] ∨ k = 1
  · refine call_meets F.slot_tuple_mul ⟨_, ho, rfl⟩ F.entry_tuple_mul (F.args_tuple_mul_2 _ _) (mul_same l its.toArray n dd sl k t c0 ?_) ⟨ho, ⟨.ref l, H, I, rfl, qs e1⟩⟩
    rcases e1 with e | e
    · rw [he.mpr e, Bool.true_or]
    · rw [e]; simp
  · have c1 : (its.toArray.isEmpty || k == 1) = false := by
      rw [Bool.or_eq_false_iff]
      refine ⟨?_, beq_eq_false_iff_ne.mpr fun z => e1 (.inr z)⟩
      cases z : its.toArray.isEmpty with
      | false => rfl
      | true => exact absurd (.inl (he.mp z)) e1
    by_cases e2 : k ≤ 0
    · refine call_meets F.slot_tuple_mul ⟨_, ho, rfl⟩ F.entry_tuple_mul (F.args_tuple_mul_2 _ _) (mul_none l its.toArray n dd sl k t c0 c1 (by rw [decide_eq_true e2, Bool.true_or])) ⟨ho, ?_⟩
      rw [show k.toNat = 0 by omega] at q
      exact newT_push (its := []) (tk := s.toks) (m := 0) I .nil (Nat.zero_le _) q
    · have hm : k.toNat * xs.length ≤ 1000 * 1000 := Nat.mul_le_mul (by omega) hz
      have hm2 : ((xs.length : Nat) : Int) * k ≤ 1000000 := by
        have := Int.mul_le_mul_of_nonneg_right (c := k) (show ((xs.length : Nat) : Int) ≤ 1000 by omega) (by omega)
        omega
      have hl : (List.replicate k.toNat its).flatten.length ≤ sizeLine := by
        rw [PyProof.Rows.lm_len_rep_flat, ← r.length, sizeLine_eq]; omega
      refine call_meets F.slot_tuple_mul ⟨_, ho, rfl⟩ F.entry_tuple_mul (F.args_tuple_mul_2 _ _)
        (tuple_mulW l its.toArray n dd sl k t c0 c1 ?_ (by rw [hn]; omega) ?_ (by rw [size_rep, List.size_toArray]; exact hl)) ⟨ho, ?_⟩
      · rw [decide_eq_false e2, Bool.false_or]
        exact (Bool.or_eq_false_iff.mp c1).1
      · unfold Builtin.Tuple.tupleTooMany
        rw [sizeLine_eq, hn]
        exact decide_eq_false (by omega)
      · rw [size_rep]
        exact newT_push (tk := s.toks) (m := 0) I (r.rep k.toNat) (by rw [PyProof.Rows.lm_len_rep_flat, sizeLine_eq]; omega) q
end Bx
end

section
/-! Rules by values: what is new, what is written; operators. -/
namespace Bx
open PySem L2

section
variable {K : PySem.W.Frag} {g g1 g' : G} {s s1 s' : S} {σ : L2.St} {H H1 H' : Hp} {v : V} {c : Val} {Qp : Val → S → Prop} {Q : VK}
theorem Kont.after (k : Kont K g s σ H Qp Q) (a : Adv g s H g1 s1 H1) : Kont K g1 s1 σ H1 Qp Q := fun v H' c g' s' hd' a' r q => k v H' c g' s' hd' (a.trans a') r q
theorem Hold.tr (hd : Hold K g s σ H) {a : Addr} (h : live g s a) : H a ≠ none := by
  obtain ⟨i, d, e, _⟩ := h
  exact hd.trk a (List.mem_of_getElem? e)
theorem Hold.ovN (hd : Hold K g s σ H) {p : Addr} (hp : H p = none) : ¬ Ov g s p := fun h => h.elim (fun z => hd.fr p z hp) fun z => hd.tr z hp
theorem adv_fresh {p : Addr} {o : HO} (hp : H p = none) : Adv g s H g s (upd H p o) := by
  refine ⟨rfl, ⟨[], by simp⟩, fun a u h _ => ?_, fun a h => .inl h, fun a h => ?_⟩
  · rw [upd_ne (ne_of_none h hp)]; exact h
  · by_cases e : a = p
    · subst e; rw [upd_same]; exact fun z => nomatch z
    · rw [upd_ne e]; exact h
theorem OwnRep.stay {O O' : Addr → Prop} {a : Addr} {d : D} (r : OwnRep K O H a d) (ha : ∀ o, H a = some o → H' a = some o) (hk : ∀ a, ¬ O a → ∀ o, H a = some o → H' a = some o) (ho : ∀ a, O' a → O a ∨ H a = none) : OwnRep K O' H' a d := by
  cases d with
  | lst ds => obtain ⟨xs, h, hl, r⟩ := r; exact ⟨xs, ha _ h, hl, r.stay hk ho⟩
  | dct kvs => obtain ⟨xs, h, hl, r⟩ := r; exact ⟨xs, ha _ h, hl, r.stay hk ho⟩
  | _ => exact r.elim
/-- nothing that is tracked changes: the same state holds -/
theorem Hold.same (hd : Hold K g s σ H) (k : ∀ a o, H a = some o → H' a = some o) : Hold K g s σ H' where
  len := hd.len
  env := fun i c h => by
    obtain ⟨v, e, r⟩ := hd.env i c h
    refine ⟨v, e, ?_⟩
    cases c with
    | d x => exact Rep.stay r (fun a _ o q => k a o q) fun a q => .inl q
    | loc i => exact r
  own := fun i d a h1 h2 => (hd.own i d a h1 h2).stay (fun o q => k a o q) (fun a _ o q => k a o q) fun a q => .inl q
  adl := hd.adl
  nod := hd.nod
  fr := fun a h z => by
    cases q : H a with
    | none => exact hd.fr a h q
    | some o => rw [k a o q] at z; cases z
  trk := fun a h z => by
    cases q : H a with
    | none => exact hd.trk a h q
    | some o => rw [k a o q] at z; cases z
  sep := hd.sep
theorem upd_keeps {p : Addr} {o : HO} (hp : H p = none) : ∀ a u, H a = some u → upd H p o a = some u := fun a u h => by rw [upd_ne (ne_of_none h hp)]; exact h
theorem Hold.fresh (hd : Hold K g s σ H) {p : Addr} {o : HO} (hp : H p = none) : Hold K g s σ (upd H p o) := hd.same (upd_keeps hp)

theorem live_push {p : Addr} {d : D} (hl : g.adr.length = s.own.length) {a : Addr} : live ⟨g.F, g.adr ++ [p]⟩ ⟨s.env, s.own ++ [some d]⟩ a ↔ live g s a ∨ a = p := by
  constructor
  · rintro ⟨i, e, h1, h2⟩
    by_cases hi : i < g.adr.length
    · rw [List.getElem?_append_left hi] at h1
      rw [List.getElem?_append_left (by omega)] at h2
      exact .inl ⟨i, e, h1, h2⟩
    · by_cases hj : i = g.adr.length
      · subst hj
        simp at h1
        exact .inr h1.symm
      · rw [List.getElem?_eq_none (by simp; omega)] at h1; cases h1
  · rintro (⟨i, e, h1, h2⟩ | rfl)
    · have l1 := (List.getElem?_eq_some_iff.mp h1).1
      exact ⟨i, e, by rw [List.getElem?_append_left l1]; exact h1, by rw [List.getElem?_append_left (by omega)]; exact h2⟩
    · exact ⟨g.adr.length, d, by simp, by rw [hl]; simp⟩
/-- an object of the heap, and its data -/
def ObjRep (K : PySem.W.Frag) (O : Addr → Prop) (H : Hp) : HO → D → Prop
  | .lst xs, .lst ds => xs.length ≤ sizeLine ∧ Reps K O H xs ds
  | .dK ks, .dct kvs => ks.length ≤ sizeLine ∧ RepK K O H ks kvs
  | _, _ => False
theorem ObjRep.own {O : Addr → Prop} {a : Addr} {o : HO} {d : D} (h : H a = some o) (r : ObjRep K O H o d) : OwnRep K O H a d := by
  cases o <;> cases d <;> first | exact r.elim | skip
  · exact ⟨_, h, r.1, r.2⟩
  · exact ⟨_, h, r.1, r.2⟩
theorem OwnRep.obj {O : Addr → Prop} {a : Addr} {d : D} (r : OwnRep K O H a d) : ∃ o, H a = some o ∧ ObjRep K O H o d := by
  cases d <;> first | exact r.elim | skip
  · obtain ⟨xs, h, hl, r⟩ := r; exact ⟨_, h, hl, r⟩
  · obtain ⟨xs, h, hl, r⟩ := r; exact ⟨_, h, hl, r⟩
theorem ObjRep.stay {O O' : Addr → Prop} {o : HO} {d : D} (r : ObjRep K O H o d) (hk : ∀ a, ¬ O a → ∀ o, H a = some o → H' a = some o) (ho : ∀ a, O' a → O a ∨ H a = none) : ObjRep K O' H' o d := by
  cases o <;> cases d <;> first | exact r.elim | exact ⟨r.1, r.2.stay hk ho⟩
theorem ObjRep.rep {O : Addr → Prop} {a : Addr} {o : HO} {d : D} (hO : ¬ O a) (h : H a = some o) (r : ObjRep K O H o d) : Rep K O H (.ref a) d := by
  cases o <;> cases d <;> first | exact r.elim | skip
  · exact .lst a _ _ hO h r.1 r.2
  · exact .dct a _ _ hO h r.1 r.2
theorem Hold.push (hd : Hold K g s σ H) {p : Addr} {o : HO} {d : D} (hp : H p = none) (r : ObjRep K (Ov g s) H o d) :
    Hold K ⟨g.F, g.adr ++ [p]⟩ ⟨s.env, s.own ++ [some d]⟩ σ (upd H p o) ∧ Adv g s H ⟨g.F, g.adr ++ [p]⟩ ⟨s.env, s.own ++ [some d]⟩ (upd H p o) := by
  have kp := @upd_keeps H p o hp
  have a : Adv g s H ⟨g.F, g.adr ++ [p]⟩ ⟨s.env, s.own ++ [some d]⟩ (upd H p o) := by
    refine ⟨rfl, ⟨[p], rfl⟩, fun a u h _ => kp a u h, fun a h => ?_, (adv_fresh (g := g) (s := s) hp).trk⟩
    rcases (live_push hd.adl).mp h with h | rfl
    · exact .inl h
    · exact .inr hp
  refine ⟨⟨hd.len, fun i c h => ?_, fun i e b h1 h2 => ?_, ?_, ?_, fun b h => a.trk b (hd.fr b h), fun b h => ?_, fun b h => ?_⟩, a⟩
  · obtain ⟨v, e, r⟩ := hd.env i c h
    exact ⟨v, e, r.adv a⟩
  · by_cases hi : i < s.own.length
    · have h1' : s.own[i]? = some (some e) := by rw [← h1]; exact (List.getElem?_append_left hi).symm
      have h2' : g.adr[i]? = some b := by rw [← h2]; exact (List.getElem?_append_left (by rw [hd.adl]; exact hi)).symm
      exact (hd.own i e b h1' h2').stay (fun o q => kp b o q) a.kp a.ov
    · have hj : i = s.own.length := by
        have := (List.getElem?_eq_some_iff.mp h1).1
        simp at this; omega
      subst hj
      have e1 : d = e := by simpa using h1
      have e2 : p = b := by rw [← hd.adl] at h2; simpa using h2
      subst e1; subst e2
      exact ObjRep.own upd_same (r.stay a.kp a.ov)
  · simp [hd.adl]
  · refine List.nodup_append.mpr ⟨hd.nod, by simp, fun x hx y hy e => ?_⟩
    simp at hy
    subst hy; subst e
    exact hd.trk _ hx hp
  · rcases List.mem_append.mp h with h | h
    · exact a.trk b (hd.trk b h)
    · simp at h; subst h; rw [upd_same]; exact fun z => nomatch z
  · rcases List.mem_append.mp h with h | h
    · exact hd.sep b h
    · simp at h; subst h; exact fun z => hd.fr _ z hp
/-- a new list or dict: kept by number (k), or as data -/
def newO (k : Bool) (d : D) : TP := fun s Q => match k with
  | true => Q (.loc s.own.length) ⟨s.env, s.own ++ [some d]⟩
  | false => Q (.d d) s
theorem new_o (k : Bool) {o : HO} {d : D} (hd : Hold K g s σ H) (kt : Kont K g s σ H Qp Q) (r : ObjRep K (Ov g s) H o d) (q : newO k d s Qp) : ∀ p, H p = none → Q (.ref p) (upd H p o) := fun p hp => by
  cases k with
  | true =>
    obtain ⟨h1, a⟩ := hd.push hp r
    exact kt _ _ (.loc s.own.length) _ _ h1 a ⟨p, by rw [← hd.adl]; simp, rfl⟩ q
  | false =>
    have a : Adv g s H g s (upd H p o) := adv_fresh hp
    exact kt _ _ (.d d) _ _ (hd.fresh hp) a (ObjRep.rep (hd.ovN hp) upd_same (r.stay a.kp a.ov)) q
theorem new_t {xs : List V} {ds : List D} (hd : Hold K g s σ H) (kt : Kont K g s σ H Qp Q) (hl : xs.length ≤ sizeLine) (r : Reps K (Ov g s) H xs ds) (q : Qp (.d (.tup ds)) s) : NewT H xs Q := fun p o ho hp => by
  have a : Adv g s H g s (upd H p (.frz o (.tup xs))) := adv_fresh hp
  exact kt _ _ (.d (.tup ds)) _ _ (hd.fresh hp) a (.tup p xs ds (hd.ovN hp) ⟨o, ho, upd_same⟩ hl (r.stay a.kp a.ov)) q
/-- an own object is written -/
theorem Hold.write (hd : Hold K g s σ H) {i : Nat} {a : Addr} {d d' : D} {o' : HO} (hi : s.own[i]? = some (some d)) (ha : g.adr[i]? = some a) (r : ObjRep K (Ov g s) H o' d') :
    Hold K g ⟨s.env, s.own.set i (some d')⟩ σ (upd H a o') ∧ Adv g s H g ⟨s.env, s.own.set i (some d')⟩ (upd H a o') := by
  have lv : live g s a := ⟨i, d, ha, hi⟩
  have hil := (List.getElem?_eq_some_iff.mp hi).1
  have liveq : ∀ b, live g ⟨s.env, s.own.set i (some d')⟩ b → live g s b := fun b ⟨j, e, h1, h2⟩ => by
    by_cases hj : j = i
    · subst hj; rw [ha] at h1; cases h1; exact lv
    · exact ⟨j, e, h1, by rw [← h2]; exact (List.getElem?_set_ne (Ne.symm hj)).symm⟩
  have kp : ∀ b, ¬ Ov g s b → ∀ o, H b = some o → upd H a o' b = some o := fun b nb o h => by
    rw [upd_ne fun z => nb (by rw [z]; exact .inr lv)]; exact h
  have tk : ∀ b, H b ≠ none → upd H a o' b ≠ none := fun b h => by
    by_cases e : b = a
    · subst e; rw [upd_same]; exact fun z => nomatch z
    · rw [upd_ne e]; exact h
  have ov : ∀ b, Ov g ⟨s.env, s.own.set i (some d')⟩ b → Ov g s b ∨ H b = none := fun b h => .inl (h.elim .inl fun z => .inr (liveq b z))
  have av : Adv g s H g ⟨s.env, s.own.set i (some d')⟩ (upd H a o') :=
    ⟨rfl, ⟨[], by simp⟩, fun b o h nb => by rw [upd_ne fun z => nb (by rw [z]; exact lv)]; exact h, fun b h => .inl (liveq b h), tk⟩
  refine ⟨⟨hd.len, fun j c h => ?_, fun j e b h1 h2 => ?_, by simp [hd.adl], hd.nod, fun b h => tk b (hd.fr b h), fun b h => tk b (hd.trk b h), hd.sep⟩, av⟩
  · obtain ⟨v, e, q⟩ := hd.env j c h
    exact ⟨v, e, q.adv av⟩
  · by_cases hj : j = i
    · subst hj
      rw [ha] at h2; cases h2
      have e1 : d' = e := by simpa [hil] using h1
      subst e1
      exact ObjRep.own upd_same (r.stay kp ov)
    · have h1' : s.own[j]? = some (some e) := by rw [← h1]; exact (List.getElem?_set_ne (Ne.symm hj)).symm
      have nb : b ≠ a := fun z => by
        subst z
        exact hj (nodup_ixA hd.nod h2 ha)
      exact (hd.own j e b h1' h2).stay (fun o q => by rw [upd_ne nb]; exact q) kp ov
where
  nodup_ixA {l : List Addr} (hN : l.Nodup) {i j : Nat} {x : Addr} (a : l[i]? = some x) (b : l[j]? = some x) : i = j := by
    obtain ⟨h1, e1⟩ := List.getElem?_eq_some_iff.mp a
    obtain ⟨h2, e2⟩ := List.getElem?_eq_some_iff.mp b
    exact (List.getElem_inj hN).mp (e1.trans e2.symm)
/-- an own object that is not changed any more: it is data from now on -/
theorem Hold.freeze (hd : Hold K g s σ H) {i : Nat} {a : Addr} {d : D} (hi : s.own[i]? = some (some d)) (ha : g.adr[i]? = some a) :
    Hold K g ⟨s.env, s.own.set i none⟩ σ H ∧ Adv g s H g ⟨s.env, s.own.set i none⟩ H ∧ Rep K (Ov g ⟨s.env, s.own.set i none⟩) H (.ref a) d := by
  have lv : live g s a := ⟨i, d, ha, hi⟩
  have hil := (List.getElem?_eq_some_iff.mp hi).1
  have liveq : ∀ b, live g ⟨s.env, s.own.set i none⟩ b → live g s b ∧ b ≠ a := fun b ⟨j, e, h1, h2⟩ => by
    by_cases hj : j = i
    · subst hj; simp [hil] at h2
    · exact ⟨⟨j, e, h1, by rw [← h2]; exact (List.getElem?_set_ne (Ne.symm hj)).symm⟩, fun z => by subst z; exact hj (Hold.write.nodup_ixA hd.nod h1 ha)⟩
  have ov : ∀ b, Ov g ⟨s.env, s.own.set i none⟩ b → Ov g s b ∨ H b = none := fun b h => .inl (h.elim .inl fun z => .inr (liveq b z).1)
  have av : Adv g s H g ⟨s.env, s.own.set i none⟩ H := ⟨rfl, ⟨[], by simp⟩, fun b o h nb => h, fun b h => .inl (liveq b h).1, fun _ h => h⟩
  refine ⟨⟨hd.len, fun j c h => ?_, fun j e b h1 h2 => ?_, by simp [hd.adl], hd.nod, hd.fr, hd.trk, hd.sep⟩, av, ?_⟩
  · obtain ⟨v, e, q⟩ := hd.env j c h
    exact ⟨v, e, q.adv av⟩
  · by_cases hj : j = i
    · subst hj; simp [hil] at h1
    · have h1' : s.own[j]? = some (some e) := by rw [← h1]; exact (List.getElem?_set_ne (Ne.symm hj)).symm
      exact (hd.own j e b h1' h2).stay (fun o q => q) (fun _ _ _ q => q) ov
  · obtain ⟨o, ho, q⟩ := (hd.own i d a hi ha).obj
    refine ObjRep.rep (fun z => ?_) ho (q.stay (fun _ _ _ q => q) ov)
    rcases z with z | z
    · exact hd.sep a lv.mem z
    · exact (liveq a z).2 rfl

/-! ### what a value is, as a list, a tuple, a dict -/
def asLst (c : Val) (s : S) : Option (List D) := match c with
  | .d (.lst ds) => some ds
  | .loc i => match nth s.own i with
    | some (some (.lst ds)) => some ds
    | _ => none
  | _ => none
def asTup : Val → Option (List D)
  | .d (.tup ds) => some ds
  | _ => none
def asSeq (c : Val) (s : S) : Option (List D) := match c with
  | .d (.lst ds) => some ds
  | .d (.scr ds) => some ds
  | .d (.tup ds) => some ds
  | .loc i => match nth s.own i with
    | some (some (.lst ds)) => some ds
    | _ => none
  | _ => none
def asDct (c : Val) (s : S) : Option (List (Key × D)) := match c with
  | .d (.dct ds) => some ds
  | .loc i => match nth s.own i with
    | some (some (.dct ds)) => some ds
    | _ => none
  | _ => none
theorem asLst_rd (hd : Hold K g s σ H) (r : RepV K g s H v c) {ds : List D} (e : asLst c s = some ds) : ∃ a xs, v = .ref a ∧ H a = some (.lst xs) ∧ xs.length ≤ sizeLine ∧ Reps K (Ov g s) H xs ds := by
  unfold asLst at e
  split at e
  · cases e
    cases r with
    | lst a xs ds hO h hl r => exact ⟨a, xs, rfl, h, hl, r⟩
  · obtain ⟨a, h1, rfl⟩ := r
    split at e
    · rename_i hn
      cases e
      rw [nth_eq] at hn
      obtain ⟨xs, h, hl, r⟩ := hd.own _ _ _ hn h1
      exact ⟨a, xs, rfl, h, hl, r⟩
    · cases e
  · cases e
theorem asLst_q (hd : Hold K g s σ H) (r : RepV K g s H v c) {ds : List D} (e : asLst c s = some ds) : ∃ a xs, v = .ref a ∧ SqL K H a xs ∧ xs.length ≤ sizeLine ∧ Reps K (Ov g s) H xs ds := by
  obtain ⟨a, xs, e, h, q⟩ := asLst_rd hd r e
  exact ⟨a, xs, e, .of h, q⟩
theorem asTup_q (hd : Hold K g s σ H) (r : RepV K g s H v c) {ds : List D} (e : asTup c = some ds) : ∃ a xs, v = .ref a ∧ SqT K H a xs ∧ xs.length ≤ sizeLine ∧ Reps K (Ov g s) H xs ds := by
  unfold asTup at e
  split at e
  · cases e
    cases r with
    | tup a xs ds hO h hl r => obtain ⟨o, _, h⟩ := h; exact ⟨a, xs, rfl, .inl (.inr ⟨o, h⟩), hl, r⟩
    | tupK a xs ds o its n hk hc hq hd hz hv r => exact ⟨a, xs, rfl, .inr ⟨o, its, n, hk, hc, hd, hz, hv⟩, by rw [hv.length]; simpa using hz, r⟩
  · cases e
theorem asSeq_q (hd : Hold K g s σ H) (r : RepV K g s H v c) {ds : List D} (e : asSeq c s = some ds) : ∃ a xs, v = .ref a ∧ (SqL K H a xs ∨ SqT K H a xs) ∧ xs.length ≤ sizeLine ∧ Reps K (Ov g s) H xs ds := by
  unfold asSeq at e
  split at e
  · obtain ⟨a, xs, h1, h2, h3⟩ := asLst_q (c := .d (.lst _)) hd r rfl
    cases e; exact ⟨a, xs, h1, .inl h2, h3⟩
  · cases e
    cases r with
    | scr a xs ds hO h hl r => exact ⟨a, xs, rfl, .inl (.inl h), hl, r⟩
    | scrK a xs ds o its n hk hc hq hd hz hv r => exact ⟨a, xs, rfl, .inl (.inr ⟨o, its, n, hk, hc, hq, hd, hz, hv⟩), by rw [hv.length]; simpa using hz, r⟩
  · obtain ⟨a, xs, h1, h2, h3⟩ := asTup_q (c := .d (.tup _)) hd r rfl
    cases e; exact ⟨a, xs, h1, .inr h2, h3⟩
  · obtain ⟨a, xs, h1, h2, h3⟩ := asLst_q (c := .loc _) hd r e
    exact ⟨a, xs, h1, .inl h2, h3⟩
  · cases e
theorem asDct_q (hd : Hold K g s σ H) (r : RepV K g s H v c) {ds : List (Key × D)} (e : asDct c s = some ds) : ∃ a ks, v = .ref a ∧ H a = some (.dK ks) ∧ ks.length ≤ sizeLine ∧ RepK K (Ov g s) H ks ds := by
  unfold asDct at e
  split at e
  · cases e
    cases r with
    | dct a xs ds hO h hl r => exact ⟨a, xs, rfl, h, hl, r⟩
  · obtain ⟨a, h1, rfl⟩ := r
    split at e
    · rename_i hn
      cases e
      rw [nth_eq] at hn
      obtain ⟨xs, h, hl, r⟩ := hd.own _ _ _ hn h1
      exact ⟨a, xs, rfl, h, hl, r⟩
    · cases e
  · cases e
end

/-! ### by values -/
abbrev B1 := Val → TP
abbrev B2 := Val → Val → TP
abbrev BN := List Val → TP
def UnI (K : PySem.W.Frag) (r : V → Hp → VK → Prop) (b : B1) : Prop := ∀ g s σ H x c Qp Q, Hold K g s σ H → RepV K g s H x c → b c s Qp → Kont K g s σ H Qp Q → r x H Q
def BinI (K : PySem.W.Frag) (r : R2) (b : B2) : Prop := ∀ g s σ H x y c d Qp Q, Hold K g s σ H → RepV K g s H x c → RepV K g s H y d → b c d s Qp → Kont K g s σ H Qp Q → r x y H Q
def ArgI (K : PySem.W.Frag) (r : List V → Hp → VK → Prop) (b : BN) : Prop := ∀ g s σ H xs cs Qp Q, Hold K g s σ H → RepVs K g s H xs cs → b cs s Qp → Kont K g s σ H Qp Q → r xs H Q
def wUn (b : B1) (p : TP) : TP := fun s Q => p s fun c s1 => b c s1 Q
def wBin (b : B2) (p q : TP) : TP := fun s Q => p s fun c s1 => q s1 fun d s2 => b c d s2 Q
def wArg (b : BN) (p : TPa) : TP := fun s Q => p s fun cs s1 => b cs s1 Q
def wNil : TPa := fun s Q => Q [] s
def wCons (p : TP) (q : TPa) : TPa := fun s Q => p s fun c s1 => q s1 fun cs s2 => Q (c :: cs) s2
section
variable {K : PySem.W.Frag} {p q : TP} {pa : TPa}
theorem lift_un {r : V → Hp → VK → Prop} {b : B1} (hi : UnI K r b) : ∀ σ H Q, lift K (wUn b p) σ H Q → tUn r (lift K p) σ H Q := fun σ H Q ⟨g, s, Qp, hd, hp, k⟩ =>
  ⟨g, s, _, hd, hp, fun v1 H1 c1 g1 s1 hd1 a1 r1 hq => hi _ _ _ _ _ _ _ _ hd1 r1 hq (k.after a1)⟩
theorem lift_bin {r : R2} {b : B2} (hi : BinI K r b) : ∀ σ H Q, lift K (wBin b p q) σ H Q → tOp r (lift K p) (lift K q) σ H Q := fun σ H Q ⟨g, s, Qp, hd, hp, k⟩ =>
  ⟨g, s, _, hd, hp, fun v1 H1 c1 g1 s1 hd1 a1 r1 hq => ⟨g1, s1, _, hd1, hq, fun v2 H2 c2 g2 s2 hd2 a2 r2 hb => hi _ _ _ _ _ _ _ _ _ _ hd2 (r1.adv a2) r2 hb (k.after (a1.trans a2))⟩⟩
theorem lift_arg {r : List V → Hp → VK → Prop} {b : BN} (hi : ArgI K r b) : ∀ σ H Q, lift K (wArg b pa) σ H Q → tCB r (liftA K pa) σ H Q := fun σ H Q ⟨g, s, Qp, hd, hp, k⟩ =>
  ⟨g, s, _, hd, hp, fun v1 H1 c1 g1 s1 hd1 a1 r1 hq => hi _ _ _ _ _ _ _ _ hd1 r1 hq (k.after a1)⟩
theorem lift_cons : ∀ σ H Q, liftA K (wCons p pa) σ H Q → tCons (lift K p) (liftA K pa) σ H Q := fun σ H Q ⟨g, s, Qp, hd, hp, k⟩ =>
  ⟨g, s, _, hd, hp, fun v1 H1 c1 g1 s1 hd1 a1 r1 hq => ⟨g1, s1, _, hd1, hq, fun v2 H2 c2 g2 s2 hd2 a2 r2 hb => k _ _ _ _ _ hd2 (a1.trans a2) (.cons (r1.adv a2) r2) hb⟩⟩
theorem lift_nil : ∀ σ H Q, liftA K wNil σ H Q → tNil σ H Q := fun σ H Q ⟨g, s, Qp, hd, hp, k⟩ => k _ _ _ _ _ hd .refl .nil hp
end
section
variable {X : Cx} {e a b' : Expr} {es : List Expr} {p q : TP} {pa : TPa} {pos : Pos}
theorem ppa_nil : PPa X [] wNil := PAw pa_nil lift_nil
theorem ppa_cons (ha : PP X e p) (hr : PPa X es pa) (hs : starEach (e :: es) X.env = (false, eval e X.env) :: starEach es X.env := by rfl) : PPa X (e :: es) (wCons p pa) := PAw (pa_cons ha hr hs) lift_cons
theorem pp_un {op : UnaryOp} {r : V → Hp → VK → Prop} {b : B1} (ho : UnR X (unaryOp op) r) (hi : UnI X.K r b) (ha : PP X a p) : PP X (.UnaryOp op a pos) (wUn b p) := PEw (pe_un ho ha) (lift_un hi)
theorem pp_op {op : Operator} {r : R2} {b : B2} (ho : OpR X (binaryOp op) r) (hi : BinI X.K r b) (ha : PP X a p) (hb : PP X b' q) : PP X (.BinOp a op b' pos) (wBin b p q) := PEw (pe_op ho ha hb) (lift_bin hi)
theorem pp_cmp {op : CmpOp} {r : R2} {b : B2} (ho : OpR X (compareOp op) r) (hi : BinI X.K r b) (ha : PP X a p) (hb : PP X b' q) (hm : behindInMarks op b' = false) : PP X (.Compare a [op] [b'] pos) (wBin b p q) := PEw (pe_cmpR ho ha hb hm) (lift_bin hi)
theorem pp_ix {r : R2} {b : B2} (ho : IxR X r) (hi : BinI X.K r b) (ha : PP X a p) (hb : PP X b' q) (hs : PlainIx b') : PP X (.Subscript a b' pos) (wBin b p q) := PEw (pe_ix ho ha hb hs) (lift_bin hi)
theorem pp_callB {x : Str} {p' pos : Pos} {id : String} {r : List V → Hp → VK → Prop} {b : BN} (hc : CallR X (.builtin id) r) (hi : ArgI X.K r b) (hg : Gl X x) (hm : X.mg x = none) (hv : bootBuiltins x = some (.builtin id)) (ha : PPa X (e :: es) pa)
    (hn : x ≠ "__name__" := by decide) (hdb : (x == ("__debug__" : Str)) = false := by decide) (he : starEach (e :: es) X.env = (false, eval e X.env) :: starEach es X.env := by rfl) (hpl : (backTo pos (starEach es X.env)).any (·.1) = false := by rfl) : PP X (.Call (.Name x p') (e :: es) [] pos) (wArg b pa) :=
  PEw (pe_callB hc hg hm hv ha hn hdb he hpl) (lift_arg hi)
theorem pp_callTy {x : Str} {p' pos : Pos} {T : String} {r : List V → Hp → VK → Prop} {b : BN} (hc : CallR X (.type T) r) (hi : ArgI X.K r b) (hg : Gl X x) (hm : X.mg x = none) (hv : bootBuiltins x = some (.type T)) (ha : PPa X (e :: es) pa)
    (hn : x ≠ "__name__" := by decide) (hdb : (x == ("__debug__" : Str)) = false := by decide) (he : starEach (e :: es) X.env = (false, eval e X.env) :: starEach es X.env := by rfl) (hpl : (backTo pos (starEach es X.env)).any (·.1) = false := by rfl) : PP X (.Call (.Name x p') (e :: es) [] pos) (wArg b pa) :=
  PEw (pe_callTy hc hg hm hv ha hn hdb he hpl) (lift_arg hi)
end
end Bx
end

section
/-! Statements, tests, targets, loops, comprehensions over data. -/
namespace Bx
open PySem L2

section
variable {K : PySem.W.Frag} {g g1 g' : G} {s s1 s' : S} {σ : L2.St} {H H1 H' : Hp}
theorem KontT.after {Qp : Bool → S → Prop} {Q : Bool → Hp → Prop} (k : KontT K g s σ H Qp Q) (a : Adv g s H g1 s1 H1) : KontT K g1 s1 σ H1 Qp Q := fun v H' g' s' hd' a' q => k v H' g' s' hd' (a.trans a') q
theorem KontS.after {E : EndsP} {D : Ends} (k : KontS K g s H E D) (a : Adv g s H g1 s1 H1) : KontS K g1 s1 H1 E D := fun σ' H' g' s' hd' a' => k σ' H' g' s' hd' (a.trans a')
theorem KontX.after {ex : Addr → S → Prop} {W : WX} (k : KontX K g s H ex W) (a : Adv g s H g1 s1 H1) : KontX K g1 s1 H1 ex W := fun σ' H' g' s' C hd' a' => k σ' H' g' s' C hd' (a.trans a')
theorem KontG.after {Qp : S → Prop} {Q : L2.St → Hp → Prop} (k : KontG K g s H Qp Q) (a : Adv g s H g1 s1 H1) : KontG K g1 s1 H1 Qp Q := fun σ' H' g' s' hd' a' => k σ' H' g' s' hd' (a.trans a')
theorem adv_same (k : ∀ a o, H a = some o → H' a = some o) : Adv g s H g s H' := ⟨rfl, ⟨[], by simp⟩, fun a o h _ => k a o h, fun a h => .inl h, fun a h z => by
  cases q : H a with
  | none => exact h q
  | some o => rw [k a o q] at z; cases z⟩
end

/-! ### tests -/
def wTest (p : TP) : TPt := fun s Q => p s fun c s1 => match c with
  | .d (.bl b) => Q b s1
  | _ => False
def wIfE (t : TPt) (p q : TP) : TP := fun s Q => t s fun b s1 => match b with
  | true => p s1 Q
  | false => q s1 Q
def wAndT (t u : TPt) : TPt := fun s Q => t s fun b s1 => match b with
  | true => u s1 Q
  | false => Q false s1
def wOrT (t u : TPt) : TPt := fun s Q => t s fun b s1 => match b with
  | true => Q true s1
  | false => u s1 Q
def wNotT (t : TPt) : TPt := fun s Q => t s fun b s1 => Q (!b) s1
def wAnd (p q : TP) : TP := fun s Q => p s fun c s1 => match c with
  | .d (.bl true) => q s1 Q
  | .d (.bl false) => Q (.d (.bl false)) s1
  | _ => False
def wOr (p q : TP) : TP := fun s Q => p s fun c s1 => match c with
  | .d (.bl false) => q s1 Q
  | .d (.bl true) => Q (.d (.bl true)) s1
  | _ => False
def wNot (p : TP) : TP := fun s Q => p s fun c s1 => match c with
  | .d (.bl b) => Q (.d (.bl (!b))) s1
  | _ => False
abbrev PPw (X : Cx) (e : Expr) (p : TPt) : Prop := PW X e (liftT X.K p)
section
variable {X : Cx} {e a b c : Expr} {rest : List Expr} {p q : TP} {t u : TPt} {pos : Pos}
theorem PWw {t t' : TT} (h : PW X e t) (w : ∀ σ H Q, t' σ H Q → t σ H Q) : PW X e t' := ⟨fun wh pins s σ H Q I q => h.run wh pins s σ H Q I (w _ _ _ q)⟩
theorem ppt_val (h : PP X e p) (he : ∀ whole, isTrue e X.env whole = (do let v ← whole; standAt e.pos; holding [v] (truthy v)) := by intro _; rfl) : PPt X e (wTest p) :=
  PTw (pt_val h he) fun σ H Q ⟨g, s, Qp, hd, hp, k⟩ => ⟨g, s, _, hd, hp, fun v H' c g' s' hd' a' r hq => by
    split at hq
    · rename_i b
      cases r
      exact ⟨_, rfl, k _ _ _ _ hd' a' hq⟩
    · exact hq.elim⟩
theorem ppt_cmp {op : CmpOp} {r : R2} {b2 : B2} (ho : OpR X (compareOp op) r) (hi : BinI X.K r b2) (ha : PP X a p) (hb : PP X b q) (hm : behindInMarks op b = false) : PPt X (.Compare a [op] [b] pos) (wTest (wBin b2 p q)) :=
  PTw (pt_cmpR ho ha hb hm) fun σ H Q ⟨g, s, Qp, hd, hp, k⟩ => lift_bin (p := p) (q := q) hi σ H _ ⟨g, s, _, hd, hp, fun v H' c g' s' hd' a' r hq => by
    split at hq
    · cases r
      exact ⟨_, rfl, k _ _ _ _ hd' a' hq⟩
    · exact hq.elim⟩
theorem pp_ifExp (hc : PPt X c t) (ha : PP X a p) (hb : PP X b q) : PP X (.IfExp c a b pos) (wIfE t p q) :=
  PEw (pe_ifExp hc ha hb) fun σ H Q ⟨g, s, Qp, hd, hp, k⟩ => ⟨g, s, _, hd, hp, fun b H1 g1 s1 hd1 a1 hq => by
    cases b with
    | true => exact iteT ⟨g1, s1, Qp, hd1, hq, k.after a1⟩
    | false => exact iteF ⟨g1, s1, Qp, hd1, hq, k.after a1⟩⟩
theorem ppw_and1 (ha : PPt X a t) : PPw X (.BoolOp .And [a] pos) t := pw_and1 ha
theorem ppw_or1 (ha : PPt X a t) : PPw X (.BoolOp .Or [a] pos) t := pw_or1 ha
theorem ppw_and (ha : PPt X a t) (hb : PPw X (.BoolOp .And (b :: rest) pos) u) : PPw X (.BoolOp .And (a :: b :: rest) pos) (wAndT t u) :=
  PWw (pw_and ha hb) fun σ H Q ⟨g, s, Qp, hd, hp, k⟩ => ⟨g, s, _, hd, hp, fun b H1 g1 s1 hd1 a1 hq => by
    cases b with
    | true => exact iteT ⟨g1, s1, Qp, hd1, hq, k.after a1⟩
    | false => exact iteF (k _ _ _ _ hd1 a1 hq)⟩
theorem ppw_or (ha : PPt X a t) (hb : PPw X (.BoolOp .Or (b :: rest) pos) u) : PPw X (.BoolOp .Or (a :: b :: rest) pos) (wOrT t u) :=
  PWw (pw_or ha hb) fun σ H Q ⟨g, s, Qp, hd, hp, k⟩ => ⟨g, s, _, hd, hp, fun b H1 g1 s1 hd1 a1 hq => by
    cases b with
    | true => exact iteT (k _ _ _ _ hd1 a1 hq)
    | false => exact iteF ⟨g1, s1, Qp, hd1, hq, k.after a1⟩⟩
theorem ppt_w (h : PPw X e t) : PPt X e t := PW.pt h
theorem ppt_not (ha : PPt X a t) : PPt X (.UnaryOp .Not a pos) (wNotT t) :=
  PTw (pt_not ha) fun σ H Q ⟨g, s, Qp, hd, hp, k⟩ => ⟨g, s, _, hd, hp, fun b H1 g1 s1 hd1 a1 hq => k _ _ _ _ hd1 a1 hq⟩
theorem pp_one {op} (ha : PP X a p) : PP X (.BoolOp op [a] pos) p := pe_one ha
theorem pp_and (ha : PP X a p) (hb : PP X (.BoolOp .And (b :: rest) pos) q) : PP X (.BoolOp .And (a :: b :: rest) pos) (wAnd p q) :=
  PEw (pe_and ha hb) fun σ H Q ⟨g, s, Qp, hd, hp, k⟩ => ⟨g, s, _, hd, hp, fun v H1 c g1 s1 hd1 a1 r hq => by
    split at hq
    · cases r; exact ⟨true, rfl, iteT ⟨g1, s1, Qp, hd1, hq, k.after a1⟩⟩
    · cases r; exact ⟨false, rfl, iteF (k _ _ (.d (.bl false)) _ _ hd1 a1 (.bl false) hq)⟩
    · exact hq.elim⟩
theorem pp_or (ha : PP X a p) (hb : PP X (.BoolOp .Or (b :: rest) pos) q) : PP X (.BoolOp .Or (a :: b :: rest) pos) (wOr p q) :=
  PEw (pe_or ha hb) fun σ H Q ⟨g, s, Qp, hd, hp, k⟩ => ⟨g, s, _, hd, hp, fun v H1 c g1 s1 hd1 a1 r hq => by
    split at hq
    · cases r; exact ⟨false, rfl, iteF ⟨g1, s1, Qp, hd1, hq, k.after a1⟩⟩
    · cases r; exact ⟨true, rfl, iteT (k _ _ (.d (.bl true)) _ _ hd1 a1 (.bl true) hq)⟩
    · exact hq.elim⟩
theorem pp_not (ha : PP X a p) : PP X (.UnaryOp .Not a pos) (wNot p) :=
  PEw (pe_not ha) fun σ H Q ⟨g, s, Qp, hd, hp, k⟩ => ⟨g, s, _, hd, hp, fun v H1 c g1 s1 hd1 a1 r hq => by
    split at hq
    · cases r; exact ⟨_, rfl, k _ _ (.d (.bl _)) _ _ hd1 a1 (Rep.bl _) hq⟩
    · exact hq.elim⟩
end

/-! ### displays -/
def unD : List Val → Option (List D)
  | [] => some []
  | .d x :: cs => match unD cs with
    | some ds => some (x :: ds)
    | none => none
  | .loc _ :: _ => none
theorem unD_reps {K : PySem.W.Frag} {g : G} {s : S} {H : Hp} : ∀ {vs : List V} {cs : List Val} {ds : List D}, RepVs K g s H vs cs → unD cs = some ds → Reps K (Ov g s) H vs ds
  | _, _, _, .nil, e => by cases e; exact .nil
  | _, .d x :: cs, _, .cons r t, e => by
    unfold unD at e
    split at e
    · rename_i h
      cases e
      exact .cons _ _ _ _ r (unD_reps t h)
    · cases e
  | _, .loc _ :: _, _, .cons r t, e => by cases e
/-- fewer than so many (reckoned) -/
def few {α : Type} : Nat → List α → Bool
  | _, [] => true
  | 0, _ :: _ => false
  | n + 1, _ :: l => few n l
theorem few_le {α : Type} : ∀ {n : Nat} {l : List α}, few n l = true → l.length ≤ n
  | _, [], _ => Nat.zero_le _
  | n + 1, _ :: l, h => Nat.succ_le_succ (few_le (n := n) (l := l) h)
theorem few_line {α : Type} {l : List α} (h : few 64 l = true) : l.length ≤ sizeLine := Nat.le_trans (few_le h) (by rw [sizeLine_eq]; decide)
def wTup (pa : TPa) : TP := fun s Q => pa s fun cs s1 => match few 64 cs, unD cs with
  | true, some ds => Q (.d (.tup ds)) s1
  | _, _ => False
def wLst (k : Bool) (pa : TPa) : TP := fun s Q => pa s fun cs s1 => match few 64 cs, unD cs with
  | true, some ds => newO k (.lst ds) s1 Q
  | _, _ => False
section
variable {X : Cx} {es : List Expr} {pa : TPa} {pos : Pos}
theorem pp_tup {x1} (h : PPa X es pa) : PP X (.Tuple es x1 pos) (wTup pa) :=
  PEw (pe_tupP h) fun σ H Q ⟨g, s, Qp, hd, hp, k⟩ => ⟨g, s, _, hd, hp, fun vs H1 cs g1 s1 hd1 a1 r hq => by
    split at hq
    · rename_i hf hu
      exact ⟨by rw [r.length]; exact few_line hf, new_t hd1 (k.after a1) (by rw [r.length]; exact few_line hf) (unD_reps r hu) hq⟩
    · exact hq.elim⟩
theorem pp_lst (k : Bool) (h : PPa X es pa) : PP X (.List es pos) (wLst k pa) :=
  PEw (pe_lst h) fun σ H Q ⟨g, s, Qp, hd, hp, kt⟩ => ⟨g, s, _, hd, hp, fun vs H1 cs g1 s1 hd1 a1 r hq => by
    split at hq
    · rename_i hf hu
      have hl : vs.length ≤ sizeLine := by rw [r.length]; exact few_line hf
      exact ⟨hl, new_o k (o := .lst vs) (d := .lst _) hd1 (kt.after a1) ⟨hl, unD_reps r hu⟩ hq⟩
    · exact hq.elim⟩
end

/-! ### statements -/
abbrev PPs (X : Cx) (W : WX) (st : Stmt) (p : TPs) : Prop := PS X st (liftS X.K W p)
abbrev PPss (X : Cx) (W : WX) (st : List Stmt) (p : TPs) : Prop := PSs X st (liftS X.K W p)
def wNext : TPs := fun E s => E.nx s
def wSeq (p q : TPs) : TPs := fun E s => p { E with nx := q E } s
def wDrop (p : TP) : TPs := fun E s => p s fun _ s1 => E.nx s1
def wRet (p : TP) : TPs := fun E s => p s fun c s1 => E.rt c s1
def wIf (t : TPt) (p q : TPs) : TPs := fun E s => t s fun b s1 => match b with
  | true => p E s1
  | false => q E s1
def wSet (i : Nat) (p : TP) : TPs := fun E s => p s fun c s1 => E.nx ⟨s1.env.set i (some c), s1.own⟩
def wBreak : TPs := fun E s => E.bk s
def wCont : TPs := fun E s => E.ct s
def wPar (i j : Nat) (pa : TPa) : TPs := fun E s => pa s fun cs s1 => match cs with
  | [c, d] => E.nx ⟨(s1.env.set i (some c)).set j (some d), s1.own⟩
  | _ => False
section
variable {K : PySem.W.Frag} {g g1 : G} {s s1 : S} {σ : L2.St} {H H1 : Hp} {E : EndsP} {D : Ends}
theorem KontS.nx (k : KontS K g s H E D) {σ' : L2.St} {H' : Hp} {g' : G} {s' : S} (hd : Hold K g' s' σ' H') (a : Adv g s H g' s' H') (q : E.nx s') : D.nx σ' H' := (k σ' H' g' s' hd a).1 q
theorem KontS.rt (k : KontS K g s H E D) {σ' : L2.St} {H' : Hp} {g' : G} {s' : S} (hd : Hold K g' s' σ' H') (a : Adv g s H g' s' H') {v : V} {c : Val} (r : RepV K g' s' H' v c) (q : E.rt c s') : D.rt v H' := (k σ' H' g' s' hd a).2.2.2 v c r q
/-- a slot is stored -/
theorem Hold.set (hd : Hold K g s σ H) (i : Nat) {v : V} {c : Val} (r : RepV K g s H v c) : Hold K g ⟨s.env.set i (some c), s.own⟩ (σ.set i (some v)) H where
  len := by simp [hd.len]
  env := fun j d h => by
    by_cases hj : j = i
    · subst hj
      have hl : j < s.env.length := by
        have := (List.getElem?_eq_some_iff.mp h).1
        simpa using this
      have e : c = d := by simpa [hl] using h
      subst e
      refine ⟨v, by simp [hd.len, hl], ?_⟩
      cases c <;> exact r
    · have h' : s.env[j]? = some (some d) := by rw [← h]; exact (List.getElem?_set_ne (Ne.symm hj)).symm
      obtain ⟨v', e, q⟩ := hd.env j d h'
      refine ⟨v', by rw [← e]; exact List.getElem?_set_ne (Ne.symm hj), ?_⟩
      cases d <;> exact q
  own := hd.own
  adl := hd.adl
  nod := hd.nod
  fr := hd.fr
  trk := hd.trk
  sep := hd.sep
theorem adv_env {e : List (Option Val)} : Adv g s H g ⟨e, s.own⟩ H := ⟨rfl, ⟨[], by simp⟩, fun _ _ h _ => h, fun _ h => .inl h, fun _ h => h⟩
end
section
variable {X : Cx} {W : WX} {st : Stmt} {rest : List Stmt} {p q : TPs} {e : Expr} {pe pf : TP} {t : TPt} {pos : Pos}
theorem pps_nil : PPss X W [] wNext := PSsw pss_nil fun D σ H ⟨g, s, E, hd, hp, k, kx⟩ => k.nx hd .refl hp
theorem pps_cons (h1 : PPs X W st p) (h2 : PPss X W rest q) : PPss X W (st :: rest) (wSeq p q) :=
  PSsw (pss_cons h1 h2) fun D σ H ⟨g, s, E, hd, hp, k, kx⟩ => ⟨g, s, _, hd, hp, fun σ' H' g' s' hd' a' =>
    ⟨fun hq => ⟨g', s', E, hd', hq, k.after a', kx.after a'⟩, (k σ' H' g' s' hd' a').2⟩, kx⟩
theorem pps_one (h1 : PPs X W st p) : PPss X W [st] p := pss_one h1
theorem pp_pass : PPs X W (.Pass pos) wNext := PSw ps_pass fun D σ H ⟨g, s, E, hd, hp, k, kx⟩ => k.nx hd .refl hp
theorem pp_break : PPs X W (.Break pos) wBreak := PSw ps_break fun D σ H ⟨g, s, E, hd, hp, k, kx⟩ => (k σ H g s hd .refl).2.1 hp
theorem pp_cont : PPs X W (.Continue pos) wCont := PSw ps_continue fun D σ H ⟨g, s, E, hd, hp, k, kx⟩ => (k σ H g s hd .refl).2.2.1 hp
theorem pp_expr (he : PP X e pe) (hs : swapsWith e none pos.line X.env = pure false := by rfl) : PPs X W (.Expr e pos) (wDrop pe) :=
  PSw (ps_expr he hs) fun D σ H ⟨g, s, E, hd, hp, k, kx⟩ => ⟨g, s, _, hd, hp, fun v H' c g' s' hd' a' r hq => k.nx hd' a' hq⟩
theorem pp_ret (he : PP X e pe) : PPs X W (.Return (some e) pos) (wRet pe) :=
  PSw (ps_ret he) fun D σ H ⟨g, s, E, hd, hp, k, kx⟩ => ⟨g, s, _, hd, hp, fun v H' c g' s' hd' a' r hq => k.rt hd' a' r hq⟩
theorem pp_if {c : Expr} {a b : List Stmt} (hc : PPt X c t) (ha : PPss X W a p) (hb : PPss X W b q) : PPs X W (.If c a b pos) (wIf t p q) :=
  PSw (ps_if hc ha hb) fun D σ H ⟨g, s, E, hd, hp, k, kx⟩ => ⟨g, s, _, hd, hp, fun b H1 g1 s1 hd1 a1 hq => by
    cases b with
    | true => exact iteT ⟨g1, s1, E, hd1, hq, k.after a1, kx.after a1⟩
    | false => exact iteF ⟨g1, s1, E, hd1, hq, k.after a1, kx.after a1⟩⟩
theorem pp_set {i : Nat} {x : Str} {pos' : Pos} (hN : X.N.Nodup) (hi : X.N[i]? = some x) (hx : Loc X.env.scope x) (he : PP X e pe) (hs : swapsWith e (some (.Name x pos')) pos.line X.env = pure false := by rfl)
    (hf : X.fn x = true ∨ X.env.scope.names.lookup x = some .local := by first | exact .inl rfl | exact .inr rfl | assumption) : PPs X W (.Assign [.Name x pos'] e pos) (wSet i pe) :=
  PSw (ps_set hN hi hx he hs hf) fun D σ H ⟨g, s, E, hd, hp, k, kx⟩ => ⟨g, s, _, hd, hp, fun v H' c g' s' hd' a' r hq => k.nx (hd'.set i r) (a'.trans adv_env) hq⟩
theorem pp_par {i j : Nat} {x y : Str} {a b : Expr} {pa : TPa} {px py pt : Pos} {kt k2 pt2} (hc : X.calm = true) (hN : X.N.Nodup) (hi : X.N[i]? = some x) (hj : X.N[j]? = some y) (hij : i ≠ j)
    (hx : X.env.scope.names.lookup x = some .local) (hy : X.env.scope.names.lookup y = some .local) (ha : PPa X [a, b] pa)
    (hw : swappedStores [.Tuple [.Name x px, .Name y py] kt pt] (.Tuple [a, b] k2 pt2) X.env = pure (some [x, y]))
    (hs : swapsWithSole [.Tuple [.Name x px, .Name y py] kt pt] (.Tuple [a, b] k2 pt2) pos.line X.env = pure false := by rfl) :
    PPs X W (.Assign [.Tuple [.Name x px, .Name y py] kt pt] (.Tuple [a, b] k2 pt2) pos) (wPar i j pa) :=
  PSw (ps_par hc hN hi hj hij hx hy ha hw hs) fun D σ H ⟨g, s, E, hd, hp, k, kx⟩ => ⟨g, s, _, hd, hp, fun vs H' cs g' s' hd' a' r hq => by
    split at hq
    · cases r with
      | cons r1 t =>
        cases t with
        | cons r2 t =>
          cases t
          refine ⟨_, _, rfl, k.nx ((hd'.set i r1).set j (c := _) ?_) (a'.trans (adv_env.trans adv_env)) hq⟩
          exact RepV.adv r2 adv_env
    · exact hq.elim⟩
end

/-! ### targets -/
mutual
inductive Tg where
  | nm (i : Nat)
  | tup (ts : Tgs)
  | ls (ts : Tgs)
inductive Tgs where
  | nil
  | cons (t : Tg) (ts : Tgs)
end
def Tgs.len : Tgs → Nat
  | .nil => 0
  | .cons _ ts => ts.len + 1
mutual
def Tg.slots : Tg → List Nat
  | .nm i => [i]
  | .tup ts => ts.slots
  | .ls ts => ts.slots
def Tgs.slots : Tgs → List Nat
  | .nil => []
  | .cons t ts => t.slots ++ ts.slots
end
mutual
def Tg.H (K : PySem.W.Frag) : Tg → TG
  | .nm i => gName i
  | .tup ts => gTup K ts.len (ts.Hs K)
  | .ls ts => gLst K ts.len (ts.Hs K)
def Tgs.Hs (K : PySem.W.Frag) : Tgs → TGs
  | .nil => gNil
  | .cons t ts => gCons (t.H K) (ts.Hs K)
end
/-- just so many (reckoned) -/
def lenIs {α : Type} : Nat → List α → Bool
  | 0, [] => true
  | n + 1, _ :: l => lenIs n l
  | _, _ => false
theorem lenIs_eq {α : Type} : ∀ {n : Nat} {l : List α}, lenIs n l = true → l.length = n
  | 0, [], _ => rfl
  | n + 1, _ :: l, h => congrArg Nat.succ (lenIs_eq (n := n) (l := l) h)
  | 0, _ :: _, h => nomatch h
  | _ + 1, [], h => nomatch h
mutual
def Tg.w : Tg → TPg
  | .nm i => fun c s Q => Q ⟨s.env.set i (some c), s.own⟩
  | .tup ts => fun c s Q => match asTup c with
    | some ds => match lenIs ts.len ds with
      | true => ts.ws ds s Q
      | false => False
    | none => False
  | .ls ts => fun c s Q => match asLst c s with
    | some ds => match lenIs ts.len ds with
      | true => ts.ws ds s Q
      | false => False
    | none => False
def Tgs.ws : Tgs → List D → S → (S → Prop) → Prop
  | .nil => fun ds s Q => match ds with
    | [] => Q s
    | _ => False
  | .cons t ts => fun ds s Q => match ds with
    | [] => False
    | d :: ds => t.w (.d d) s fun s1 => ts.ws ds s1 Q
end

section
variable {K : PySem.W.Frag}
mutual
theorem tg_ok : ∀ (t : Tg) {g : G} {s : S} {σ : L2.St} {H : Hp} {v : V} {c : Val} {Qp : S → Prop} {Q : L2.St → Hp → Prop}, Hold K g s σ H → RepV K g s H v c → t.w c s Qp →
    (∀ σ' e', Hold K g ⟨e', s.own⟩ σ' H → (∀ j, j ∉ t.slots → σ'[j]? = σ[j]?) → σ'.length = σ.length → Qp ⟨e', s.own⟩ → Q σ' H) → t.H K v σ H Q
  | .nm i, g, s, σ, H, v, c, Qp, Q, hd, r, hp, k => by
    unfold Tg.w at hp
    unfold Tg.H
    refine k _ _ (hd.set i r) (fun j hj => ?_) (by simp) hp
    exact List.getElem?_set_ne fun z => hj (by rw [← z]; unfold Tg.slots; exact List.mem_singleton.mpr rfl)
  | .tup ts, g, s, σ, H, v, c, Qp, Q, hd, r, hp, k => by
    unfold Tg.w at hp
    unfold Tg.H
    split at hp
    · rename_i ds e
      obtain ⟨a, xs, rfl, hq, hl, rr⟩ := asTup_q hd r e
      split at hp
      · rename_i hn
        exact ⟨a, xs, rfl, hq, rr.length.trans (lenIs_eq hn), tgs_ok ts hd rr hp (by unfold Tg.slots at k; exact k)⟩
      · exact hp.elim
    · exact hp.elim
  | .ls ts, g, s, σ, H, v, c, Qp, Q, hd, r, hp, k => by
    unfold Tg.w at hp
    unfold Tg.H
    split at hp
    · rename_i ds e
      obtain ⟨a, xs, rfl, hq, hl, rr⟩ := asLst_q hd r e
      split at hp
      · rename_i hn
        exact ⟨a, xs, rfl, hq, rr.length.trans (lenIs_eq hn), tgs_ok ts hd rr hp (by unfold Tg.slots at k; exact k)⟩
      · exact hp.elim
    · exact hp.elim
theorem tgs_ok : ∀ (ts : Tgs) {g : G} {s : S} {σ : L2.St} {H : Hp} {vs : List V} {ds : List D} {Qp : S → Prop} {Q : L2.St → Hp → Prop}, Hold K g s σ H → Reps K (Ov g s) H vs ds → ts.ws ds s Qp →
    (∀ σ' e', Hold K g ⟨e', s.own⟩ σ' H → (∀ j, j ∉ ts.slots → σ'[j]? = σ[j]?) → σ'.length = σ.length → Qp ⟨e', s.own⟩ → Q σ' H) → ts.Hs K vs σ H Q
  | .nil, g, s, σ, H, vs, ds, Qp, Q, hd, r, hp, k => by
    unfold Tgs.ws at hp
    unfold Tgs.Hs
    cases r with
    | nil => exact ⟨rfl, k _ _ hd (fun _ _ => rfl) rfl hp⟩
    | cons => exact hp.elim
  | .cons t ts, g, s, σ, H, vs, ds, Qp, Q, hd, r, hp, k => by
    unfold Tgs.ws at hp
    unfold Tgs.Hs
    cases r with
    | nil => exact hp.elim
    | cons v vs d ds r1 r2 =>
      refine ⟨v, vs, rfl, ?_⟩
      refine tg_ok t (Qp := fun s1 => ts.ws ds s1 Qp) hd (c := .d d) r1 hp fun σ1 e1 hd1 k1 l1 hq => ?_
      exact tgs_ok ts (s := ⟨e1, s.own⟩) (Q := Q) hd1 r2 hq fun σ2 e2 hd2 k2 l2 hq2 => k σ2 e2 hd2 (fun j hj => by
        unfold Tgs.slots at hj
        rw [k2 j fun z => hj (List.mem_append_right _ z), k1 j fun z => hj (List.mem_append_left _ z)]) (l2.trans l1) hq2
end
/-- a target of names, as a rule -/
theorem ppg_tg {X : Cx} {e : Expr} (t : Tg) (h : PG X e (t.H X.K)) : PPg X e t.w := PGw h fun v σ H Q ⟨g, s, c, Qp, hd, r, hp, k⟩ =>
  tg_ok t hd r hp fun σ' e' hd' _ _ hq => k σ' H g _ hd' adv_env hq
end

/-! ### assignment to a target -/
def wAsg (p : TP) (gt : TPg) : TPs := fun E s => p s fun c s1 => gt c s1 E.nx
theorem pp_asg {X : Cx} {W : WX} {tg e : Expr} {pe : TP} {gt : TPg} {pos : Pos} (he : PP X e pe) (hg : PPg X tg gt) (hs : swapsWithSole [tg] e pos.line X.env = pure false := by rfl) (hw : swappedStores [tg] e X.env = pure none := by rfl)
    (h1 : (assignEach [tg] X.env).map (·.2) = [assign tg X.env] := by rfl) : PPs X W (.Assign [tg] e pos) (wAsg pe gt) :=
  PSw (ps_asg he hg hs hw h1) fun D σ H ⟨g, s, E, hd, hp, k, kx⟩ => ⟨g, s, _, hd, hp, fun v H' c g' s' hd' a' r hq =>
    ⟨g', s', c, E.nx, hd', r, hq, fun σ2 H2 g2 s2 hd2 a2 q => k.nx hd2 (a'.trans a2) q⟩⟩

/-! ### what is walked -/
/-- the items come one by one, whatever else happens to the heap -/
def WalkOk (K : PySem.W.Frag) (g : G) (s : S) (H : Hp) (J : It) (items : List D) : Prop :=
  items.length ≤ sizeLine ∧ ∀ (i : Nat) (O' : Addr → Prop) (H' : Hp), (∀ a, ¬ Ov g s a → ∀ o, H a = some o → H' a = some o) → (∀ a, O' a → Ov g s a ∨ H a = none) → (∀ a, O' a → H' a ≠ none) →
    (items.length = i → J.stop i H') ∧ ∀ d, items[i]? = some d → J.go i H' ∧ ∀ x H'', J.yld i H' x H'' → (∀ a o, H' a = some o → H'' a = some o) ∧ Rep K O' H'' x d
def KontI (K : PySem.W.Frag) (g : G) (s : S) (σ : L2.St) (H : Hp) (Qp : List D → S → Prop) (R : It → Hp → Prop) : Prop :=
  ∀ J H' items g' s', Hold K g' s' σ H' → Adv g s H g' s' H' → WalkOk K g' s' H' J items → Qp items s' → R J H'
def liftI (K : PySem.W.Frag) (p : TPi) : TI := fun σ H R => ∃ g s Qp, Hold K g s σ H ∧ p s Qp ∧ KontI K g s σ H Qp R
abbrev PPi (X : Cx) (tg e : Expr) (p : TPi) : Prop := PI X tg e (liftI X.K p)
section
variable {X : Cx} {tg e : Expr}
theorem PIw {t t' : TI} (h : PI X tg e t) (w : ∀ σ H R, t' σ H R → t σ H R) : PI X tg e t' := ⟨fun pins s σ H R I q => h.run pins s σ H R I (w _ _ _ q)⟩
theorem PI.or {t t' : TI} (h : PI X tg e t) (h' : PI X tg e t') : PI X tg e (fun σ H R => t σ H R ∨ t' σ H R) := ⟨fun pins s σ H R I q => q.elim (fun q => h.run pins s σ H R I q) fun q => h'.run pins s σ H R I q⟩
end
theorem Hold.ovT {K : PySem.W.Frag} {g : G} {s : S} {σ : L2.St} {H : Hp} (hd : Hold K g s σ H) : ∀ a, Ov g s a → H a ≠ none := fun a h => h.elim (hd.fr a) fun z => hd.tr z
section
variable {K : PySem.W.Frag} {g g' : G} {s s' : S} {H H' : Hp} {a : Addr} {xs : List V} {ds : List D}
theorem walk_list (h : Rd H a (.lst xs)) (hO : ¬ Ov g s a) (hl : xs.length ≤ sizeLine) (r : Reps K (Ov g s) H xs ds) : WalkOk K g s H (Itl K a) ds := by
  refine ⟨by rw [← r.length]; exact hl, fun i O' H' kp ov _ => ?_⟩
  have h' : SqL K H' a xs := by
    rcases h with h | ⟨o, h⟩
    · exact .inl (.inl (kp a hO _ h))
    · exact .inl (.inr ⟨o, kp a hO _ h⟩)
  refine ⟨fun hi => ⟨xs, h', by rw [r.length]; exact Nat.le_of_eq hi⟩, fun d hdi => ?_⟩
  obtain ⟨v, e, rv⟩ := r.get hdi
  refine ⟨⟨xs, v, h', e⟩, fun x H'' y => ?_⟩
  obtain ⟨rfl, y⟩ := y
  have e2 := y xs h'
  rw [e] at e2; cases e2
  exact ⟨fun _ _ h => h, rv.stay kp ov⟩
theorem walk_tup (h : SqT K H a xs) (hO : ∀ u, H a = some u → ¬ Ov g s a) (hl : xs.length ≤ sizeLine) (r : Reps K (Ov g s) H xs ds) : WalkOk K g s H (Itt K a) ds := by
  refine ⟨by rw [← r.length]; exact hl, fun i O' H' kp ov _ => ?_⟩
  have h' : SqT K H' a xs := by
    rcases h with (h | ⟨o, h⟩) | h
    · exact .inl (.inl (kp a (hO _ h) _ h))
    · exact .inl (.inr ⟨o, kp a (hO _ h) _ h⟩)
    · exact .inr h
  refine ⟨fun hi => ⟨xs, h', by rw [r.length]; exact Nat.le_of_eq hi⟩, fun d hdi => ?_⟩
  obtain ⟨v, e, rv⟩ := r.get hdi
  refine ⟨⟨xs, v, h', e⟩, fun x H'' y => ?_⟩
  obtain ⟨rfl, y⟩ := y
  have e2 := y xs h'
  rw [e] at e2; cases e2
  exact ⟨fun _ _ h => h, rv.stay kp ov⟩
theorem walk_rng (lo : Int) (n : Nat) (hn : n ≤ sizeLine) : WalkOk K g s H (Itr lo n) ((List.range n).map fun (i : Nat) => D.int (lo + (i : Int))) := by
  refine ⟨by simpa using hn, fun i O' H' _ _ _ => ⟨fun hi => (Nat.le_of_eq (by simpa using hi) : n ≤ i), fun d hdi => ?_⟩⟩
  have hi : i < n := by
    have := (List.getElem?_eq_some_iff.mp hdi).1
    simpa using this
  have e : d = D.int (lo + (i : Int)) := by
    rw [List.getElem?_map, List.getElem?_range hi] at hdi
    exact (Option.some.inj hdi).symm
  subst e
  refine ⟨hi, fun x H'' y => ?_⟩
  obtain ⟨rfl, rfl⟩ := y
  exact ⟨fun _ _ h => h, .int _⟩
end
/-- a list or tuple of data, walked -/
def wSeqI (p : TP) : TPi := fun s Q => p s fun c s1 => match c with
  | .d (.lst ds) => Q ds s1
  | .d (.tup ds) => Q ds s1
  | _ => False
def intsD (lo : Int) : Nat → List D
  | 0 => []
  | n + 1 => .int lo :: intsD (lo + 1) n
theorem intsD_eq : ∀ (n : Nat) (lo : Int), intsD lo n = (List.range n).map fun (i : Nat) => D.int (lo + (i : Int))
  | 0, _ => rfl
  | n + 1, lo => by
    rw [List.range_succ_eq_map, List.map_cons, List.map_map]
    unfold intsD
    rw [intsD_eq n]
    congr 1
    · simp
    · apply List.map_congr_left
      intro i _
      simp only [Function.comp]
      congr 1
      omega
def RngOk (n : Int) : Prop := -16777216 ≤ n ∧ n ≤ 16777216
def wRng1 (pa : TPa) : TPi := fun s Q => pa s fun cs s1 => match cs with
  | [.d (.int n)] => RngOk n ∧ Q (intsD 0 n.toNat) s1
  | _ => False
def wRng2 (pa : TPa) : TPi := fun s Q => pa s fun cs s1 => match cs with
  | [.d (.int m), .d (.int n)] => RngOk n ∧ 0 ≤ m ∧ m ≤ 16777216 ∧ Q (intsD m (n - m).toNat) s1
  | _ => False
def iSeq (K : PySem.W.Frag) (tl : TE) : TI := fun σ H R => tl σ H fun x H1 => ∃ a, x = .ref a ∧ (((∃ xs, SqL K H1 a xs) ∧ R (Itl K a) H1) ∨ ((∃ xs, SqT K H1 a xs) ∧ R (Itt K a) H1))
section
open PySem.Spec PyProof.Rows
theorem pi_seq {X : Cx} {tg l : Expr} {tl : TE} (hl : PE X l tl) : PI X tg l (iSeq X.K tl) := by
  refine ⟨fun pins s σ H R I h => ?_⟩
  refine thn (hl.run pins s σ H _ I h) fun v s1 ⟨x, H1, I1, r1, q1⟩ => ?_
  obtain ⟨a, e, q⟩ := q1
  subst e
  cases r1
  rcases q with ⟨⟨xs, hq⟩, q⟩ | ⟨⟨xs, hq⟩, q⟩
  · obtain ⟨its, rv, p, hz⟩ := I1.list hq
    refine wpAny_pyIter_list p.isList ?_
    refine ⟨s1.heap.objs.size, [s1.heap.objs.size], _, _, H1, rfl, I1.kept (t' := s1.toks) fun b o e => Heap.get?_push_of_some _ e, turn_list a _, ⟨_, Heap.get?_push_size _ rfl, rfl, rfl⟩, fun b hb => ?_, q⟩
    have e : b = s1.heap.objs.size := by simpa using hb
    subst e
    exact I1.fpOk (Nat.le_refl _) (I1.hok.fresh (Nat.le_refl _))
  · obtain ⟨its, rv, p, hz⟩ := I1.tuple hq
    refine wpAny_pyIter_tuple (show s1.heap.IsTuple a its.toArray from p) ?_
    refine ⟨s1.heap.objs.size, [s1.heap.objs.size], _, _, H1, rfl, I1.kept (t' := s1.toks) fun b o e => Heap.get?_push_of_some _ e, turn_tuple a _, ⟨_, Heap.get?_push_size _ rfl, rfl, rfl⟩, fun b hb => ?_, q⟩
    have e : b = s1.heap.objs.size := by simpa using hb
    subst e
    exact I1.fpOk (Nat.le_refl _) (I1.hok.fresh (Nat.le_refl _))
end
section
variable {X : Cx} {tg e a b : Expr} {p : TP} {pa : TPa}
theorem ppi_seq (h : PP X e p) : PPi X tg e (wSeqI p) :=
  PIw (pi_seq h) fun σ H R ⟨g, s, Qp, hd, hp, k⟩ => ⟨g, s, _, hd, hp, fun v H' c g' s' hd' a' r hq => by
    split at hq
    · cases r with
      | lst a xs ds hO h hl r => exact ⟨a, rfl, .inl ⟨⟨xs, .of h⟩, k _ _ _ _ _ hd' a' (walk_list (.of h) hO hl r) hq⟩⟩
    · cases r with
      | tup a xs ds hO h hl r => obtain ⟨o, _, h⟩ := h; exact ⟨a, rfl, .inr ⟨⟨xs, .inl (.inr ⟨o, h⟩)⟩, k _ _ _ _ _ hd' a' (walk_tup (.inl (.inr ⟨o, h⟩)) (fun _ _ => hO) hl r) hq⟩⟩
      | tupK a xs ds o its n hk hc hqq hdd hz hv r =>
        have q : SqT X.K H' a xs := .inr ⟨o, its, n, hk, hc, hdd, hz, hv⟩
        refine ⟨a, rfl, .inr ⟨⟨xs, q⟩, k _ _ _ _ _ hd' a' ?_ hq⟩⟩
        refine ⟨by rw [← r.length, hv.length]; simpa using hz, fun i O' H2 kp ov _ => ⟨fun hi => ⟨xs, .inr ⟨o, its, n, hk, hc, hdd, hz, hv⟩, by rw [r.length]; exact Nat.le_of_eq hi⟩, fun d hdi => ?_⟩⟩
        obtain ⟨v, e, rv⟩ := r.get hdi
        refine ⟨⟨xs, v, .inr ⟨o, its, n, hk, hc, hdd, hz, hv⟩, e⟩, fun x H'' y => ?_⟩
        obtain ⟨rfl, y⟩ := y
        have e2 := y xs (.inr ⟨o, its, n, hk, hc, hdd, hz, hv⟩)
        rw [e] at e2; cases e2
        exact ⟨fun _ _ h => h, rv.stay kp ov⟩
    · exact hq.elim⟩
theorem ppi_rng1 {p' pos : Pos} (hg : Gl X "range") (hm : X.mg "range" = none) (ha : PPa X [a] pa) (hs : starEach [a] X.env = [(false, eval a X.env)] := by rfl) : PPi X tg (.Call (.Name "range" p') [a] [] pos) (wRng1 pa) :=
  PIw (pi_range1 hg hm ha hs) fun σ H R ⟨g, s, Qp, hd, hp, k⟩ => ⟨g, s, _, hd, hp, fun vs H' cs g' s' hd' a' r hq => by
    split at hq
    · rename_i n
      cases r with
      | cons r t =>
        cases t; cases r
        obtain ⟨hn, hq⟩ := hq
        have hn' : n ≤ 16777216 := hn.2
        have hn0 : -16777216 ≤ n := hn.1
        refine ⟨n, rfl, by omega, by omega, k _ _ _ _ _ hd' a' ?_ hq⟩
        rw [intsD_eq]
        exact walk_rng 0 n.toNat (by rw [sizeLine_eq]; omega)
    · exact hq.elim⟩
theorem ppi_rng2 {p' pos : Pos} (hg : Gl X "range") (hm : X.mg "range" = none) (ha : PPa X [a, b] pa) (hs : starEach [a, b] X.env = [(false, eval a X.env), (false, eval b X.env)] := by rfl) (hs2 : starEach [b] X.env = [(false, eval b X.env)] := by rfl) : PPi X tg (.Call (.Name "range" p') [a, b] [] pos) (wRng2 pa) :=
  PIw (pi_range2 hg hm ha hs hs2) fun σ H R ⟨g, s, Qp, hd, hp, k⟩ => ⟨g, s, _, hd, hp, fun vs H' cs g' s' hd' a' r hq => by
    split at hq
    · rename_i m n
      cases r with
      | cons r t =>
        cases r
        cases t with
        | cons r t =>
          cases t; cases r
          obtain ⟨hn, h0, h1, hq⟩ := hq
          have hn' : n ≤ 16777216 := hn.2
          have hn0 : -16777216 ≤ n := hn.1
          refine ⟨m, n, rfl, ⟨by omega, by omega, by omega, by omega⟩, k _ _ _ _ _ hd' a' ?_ hq⟩
          rw [intsD_eq]
          exact walk_rng m (n - m).toNat (by rw [sizeLine_eq]; omega)
    · exact hq.elim⟩
end

/-! ### for, while -/
/-- the invariant by what is left -/
def wFor (pi : TPi) (gt : TPg) (body : TPs) : TPs := fun E s => pi s fun items s0 => ∃ I : List D → S → Prop, I items s0 ∧ (∀ s, I [] s → E.nx s) ∧
  ∀ x xs s, I (x :: xs) s → gt (.d x) s fun s1 => body { E with nx := I xs, ct := I xs, bk := E.nx } s1
def wWhile (t : TPt) (body : TPs) : TPs := fun E s => ∃ I : Nat → S → Prop, (∃ m, I m s) ∧ ∀ m s, I m s → t s fun b s1 => match b with
  | true => body { E with nx := fun s' => ∃ m', m' < m ∧ I m' s', ct := fun s' => ∃ m', m' < m ∧ I m' s', bk := E.nx } s1
  | false => E.nx s1
section
variable {X : Cx} {W : WX} {tg iter c : Expr} {body : List Stmt} {pi : TPi} {gt : TPg} {tb : TPs} {t : TPt} {pos : Pos}
theorem drop_at {l : List D} {i : Nat} (h : i < l.length) : ∃ x, l[i]? = some x ∧ l.drop i = x :: l.drop (i + 1) := ⟨l[i], List.getElem?_eq_getElem h, List.drop_eq_getElem_cons h⟩
theorem pp_for (hp : PassesOwn (model X.prog X.w) X.A X.env X.xe) (hc : X.calm = true) (hi : PPi X tg iter pi) (hg : PPg X tg gt) (hb : PPss X W body tb) (hs : ∀ x, foldedSetIterable iter X.env x = pure x := by intro _; rfl) :
    PPs X W (.For tg iter body [] pos) (wFor pi gt tb) :=
  PSw (ps_for hp hc hi hg hb hs) fun D σ H ⟨g, s, E, hd, hpi, k, kx⟩ => ⟨g, s, _, hd, hpi, fun J H1 items g1 s1 hd1 a1 wk hq => by
    obtain ⟨I, i0, iend, istep⟩ := hq
    refine ⟨fun i m σ' H' => m = items.length - i ∧ i ≤ items.length ∧ ∃ g' s', Hold X.K g' s' σ' H' ∧ Adv g1 s1 H1 g' s' H' ∧ I (items.drop i) s', ⟨_, rfl, Nat.zero_le _, g1, s1, hd1, .refl, i0⟩, ?_⟩
    rintro i m σ' H' ⟨rfl, hi, g', s', hd', a', q⟩
    obtain ⟨w1, w2⟩ := wk.2 i (Ov g' s') H' a'.kp a'.ov hd'.ovT
    by_cases hlt : i < items.length
    · obtain ⟨x, e1, e2⟩ := drop_at hlt
      rw [e2] at q
      obtain ⟨go, yl⟩ := w2 x e1
      refine .inr ⟨go, fun σ2 H2 => ∃ g2 s2, Hold X.K g2 s2 σ2 H2 ∧ Adv g1 s1 H1 g2 s2 H2 ∧ I (items.drop (i + 1)) s2, fun σ2 H2 ⟨g2, s2, hd2, a2, q2⟩ => ⟨_, by omega, rfl, hlt, g2, s2, hd2, a2, q2⟩, fun v H2 y => ?_⟩
      obtain ⟨kp, rv⟩ := yl v H2 y
      have hd2 := hd'.same kp
      have a2 : Adv g' s' H' g' s' H2 := adv_same kp
      refine ⟨g', s', .d x, _, hd2, rv, istep x _ s' q, fun σ3 H3 g3 s3 hd3 a3 q3 => ⟨g3, s3, _, hd3, q3, fun σ4 H4 g4 s4 hd4 a4 => ?_, ?_⟩⟩
      · have a14 : Adv g1 s1 H1 g4 s4 H4 := a'.trans (a2.trans (a3.trans a4))
        exact ⟨fun q => ⟨g4, s4, hd4, a14, q⟩, fun q => k.nx hd4 (a1.trans a14) q, fun q => ⟨g4, s4, hd4, a14, q⟩, fun v c r q => k.rt hd4 (a1.trans a14) r q⟩
      · exact (kx.after a1).after (a'.trans (a2.trans a3))
    · have e : i = items.length := by omega
      subst e
      rw [List.drop_length] at q
      exact .inl ⟨w1 rfl, k.nx hd' (a1.trans a') (iend s' q)⟩⟩
theorem pp_while (hp : PassesOwn (model X.prog X.w) X.A X.env X.xe) (hc : PPt X c t) (hb : PPss X W body tb) : PPs X W (.While c body [] pos) (wWhile t tb) :=
  PSw (ps_while hp hc hb) fun D σ H ⟨g, s, E, hd, ⟨I, ⟨m0, i0⟩, istep⟩, k, kx⟩ => by
    refine ⟨fun m σ' H' => ∃ g' s', Hold X.K g' s' σ' H' ∧ Adv g s H g' s' H' ∧ I m s', ⟨m0, g, s, hd, .refl, i0⟩, ?_⟩
    rintro m σ1 H1 ⟨g1, s1, hd1, a1, q1⟩
    refine ⟨g1, s1, _, hd1, istep m s1 q1, fun b H2 g2 s2 hd2 a2 q2 => ?_⟩
    cases b with
    | true =>
      refine iteT ⟨fun σ3 H3 => ∃ m', m' < m ∧ ∃ g' s', Hold X.K g' s' σ3 H3 ∧ Adv g s H g' s' H3 ∧ I m' s', fun σ3 H3 q => q, g2, s2, _, hd2, q2, fun σ4 H4 g4 s4 hd4 a4 => ?_, ?_⟩
      · have a14 : Adv g s H g4 s4 H4 := a1.trans (a2.trans a4)
        exact ⟨fun ⟨m', hm, q⟩ => ⟨m', hm, g4, s4, hd4, a14, q⟩, fun q => k.nx hd4 a14 q, fun ⟨m', hm, q⟩ => ⟨m', hm, g4, s4, hd4, a14, q⟩, fun v c r q => k.rt hd4 a14 r q⟩
      · exact kx.after (a1.trans a2)
    | false => exact iteF (k.nx hd2 (a1.trans a2) q2)
end
end Bx
end

section
/-! Comprehensions; defs and their calls. -/
namespace Bx
open PySem L2

/-! ### list comprehensions -/
def wipeE : List (Option Val) → List Nat → List (Option Val)
  | e, [] => e
  | e, v :: vs => (wipeE e vs).set v none
theorem wipeE_length (e : List (Option Val)) : ∀ vs : List Nat, (wipeE e vs).length = e.length
  | [] => rfl
  | v :: vs => by unfold wipeE; rw [List.length_set, wipeE_length e vs]
def wLc (vs : List Nat) (k : Bool) (pi : TPi) (gt : TPg) (tt : TPt) (te : TP) : TP := fun s Q => pi s fun items s0 => ∃ I : List D → List D → List (Option D) → Prop, I items [] s0.own ∧ (∀ acc own, I [] acc own → newO k (.lst acc) ⟨s0.env, own⟩ Q) ∧
  ∀ x xs acc own, I (x :: xs) acc own → gt (.d x) ⟨wipeE s0.env vs, own⟩ fun s1 => tt s1 fun b s2 => match b with
    | true => te s2 fun y s3 => match y with
      | .d z => I xs (acc ++ [z]) s3.own
      | .loc _ => False
    | false => I xs acc s2.own
section
variable {K : PySem.W.Frag} {g g' : G} {s s' : S} {σ : L2.St} {H H' : Hp}
theorem Hold.wiped (hd : Hold K g s σ H) : ∀ vs : List Nat, Hold K g ⟨wipeE s.env vs, s.own⟩ (wipe σ vs) H
  | [] => hd
  | v :: vs => by
    have ih := Hold.wiped hd vs
    refine ⟨by unfold wipeE wipe; simp [wipeE_length, wipe_length, hd.len], fun j c h => ?_, ih.own, ih.adl, ih.nod, ih.fr, ih.trk, ih.sep⟩
    unfold wipeE at h
    unfold wipe
    by_cases hj : j = v
    · subst hj
      by_cases hl : j < (wipeE s.env vs).length
      · simp [hl] at h
      · rw [List.getElem?_eq_none (by simpa using hl)] at h; cases h
    · have h' : (wipeE s.env vs)[j]? = some (some c) := by rw [← h]; exact (List.getElem?_set_ne (Ne.symm hj)).symm
      obtain ⟨v', e, q⟩ := ih.env j c h'
      refine ⟨v', by rw [← e]; exact List.getElem?_set_ne (Ne.symm hj), ?_⟩
      cases c <;> exact q
/-- other slots, whose values held before -/
theorem Hold.reslot (hd' : Hold K g' s' σ H') {σ0 : L2.St} {e0 : List (Option Val)} {own0 : List (Option D)} (hd : Hold K g ⟨e0, own0⟩ σ0 H) (a : Adv g ⟨e0, own0⟩ H g' s' H') : Hold K g' ⟨e0, s'.own⟩ σ0 H' where
  len := hd.len
  env := fun i c h => by
    obtain ⟨v, e, r⟩ := hd.env i c h
    refine ⟨v, e, ?_⟩
    have r' := r.adv a
    cases c <;> exact r'
  own := hd'.own
  adl := hd'.adl
  nod := hd'.nod
  fr := hd'.fr
  trk := hd'.trk
  sep := hd'.sep
/-- hid beside: the list that a comprehension makes -/
def G.hide (g : G) (p : Addr) : G := ⟨fun a => g.F a ∨ a = p, g.adr⟩
theorem live_hide {p a : Addr} : live (g.hide p) s a ↔ live g s a := Iff.rfl
theorem ov_hide {p a : Addr} : Ov (g.hide p) s a ↔ Ov g s a ∨ a = p := by
  constructor
  · rintro ((h | h) | h)
    · exact .inl (.inl h)
    · exact .inr h
    · exact .inl (.inr h)
  · rintro ((h | h) | h)
    · exact .inl (.inl h)
    · exact .inr h
    · exact .inl (.inr h)
/-- p was no object ahead: it may be hid -/
theorem Hold.hide (hd : Hold K g s σ H) {p : Addr} {o : HO} (hp : H p = none) : Hold K (g.hide p) s σ (upd H p o) := by
  have kp := @upd_keeps H p o hp
  have st : ∀ a, ¬ Ov g s a → ∀ u, H a = some u → upd H p o a = some u := fun a _ u q => kp a u q
  have so : ∀ a, Ov (g.hide p) s a → Ov g s a ∨ H a = none := fun a h => (ov_hide.mp h).elim .inl fun z => .inr (by rw [z]; exact hp)
  have tk : ∀ a, H a ≠ none → upd H p o a ≠ none := (adv_fresh (g := g) (s := s) (o := o) hp).trk
  refine ⟨hd.len, fun i c h => ?_, fun i d a h1 h2 => (hd.own i d a h1 h2).stay (fun u q => kp a u q) st so, hd.adl, hd.nod, fun a h => ?_, fun a h => tk a (hd.trk a h), fun a h z => ?_⟩
  · obtain ⟨v, e, r⟩ := hd.env i c h
    refine ⟨v, e, ?_⟩
    cases c with
    | d x => exact Rep.stay r st so
    | loc j => exact r
  · rcases h with h | rfl
    · exact tk a (hd.fr a h)
    · rw [upd_same]; exact fun z => nomatch z
  · rcases z with z | rfl
    · exact hd.sep a h z
    · exact hd.trk _ h hp
/-- what is hid may be written -/
theorem Hold.hidput (hd : Hold K g s σ H) {p : Addr} {o o' : HO} (hF : g.F p) : Hold K g s σ (upd H p o) := by
  have nl : ∀ a, live g s a → a ≠ p := fun a h z => by subst z; exact hd.sep a h.mem hF
  have st : ∀ a, ¬ Ov g s a → ∀ u, H a = some u → upd H p o a = some u := fun a n u q => by
    rw [upd_ne fun z => n (by rw [z]; exact .inl hF)]; exact q
  have so : ∀ a, Ov g s a → Ov g s a ∨ H a = none := fun a h => .inl h
  have tk : ∀ a, H a ≠ none → upd H p o a ≠ none := fun a h => by
    by_cases e : a = p
    · subst e; rw [upd_same]; exact fun z => nomatch z
    · rw [upd_ne e]; exact h
  refine ⟨hd.len, fun i c h => ?_, fun i d a h1 h2 => (hd.own i d a h1 h2).stay (fun u q => by rw [upd_ne (nl a ⟨i, d, h2, h1⟩)]; exact q) st so, hd.adl, hd.nod, fun a h => tk a (hd.fr a h), fun a h => tk a (hd.trk a h), hd.sep⟩
  obtain ⟨v, e, r⟩ := hd.env i c h
  refine ⟨v, e, ?_⟩
  cases c with
  | d x => exact Rep.stay r st so
  | loc j => exact r
/-- it is hid no longer: an own object, or data -/
theorem Hold.show (hd : Hold K g' s σ H) {F : Addr → Prop} {p : Addr} (hg : g'.F = fun a => F a ∨ a = p) (hF : ¬ F p) : Hold K ⟨F, g'.adr⟩ s σ H ∧ ∀ v d, Rep K (Ov g' s) H v d → Rep K (Ov ⟨F, g'.adr⟩ s) H v d := by
  have so : ∀ a, Ov ⟨F, g'.adr⟩ s a → Ov g' s a ∨ H a = none := fun a h => .inl (h.elim (fun z => .inl (by rw [hg]; exact .inl z)) fun z => .inr z)
  have st : ∀ a, ¬ Ov g' s a → ∀ u, H a = some u → H a = some u := fun _ _ _ q => q
  refine ⟨⟨hd.len, fun i c h => ?_, fun i d a h1 h2 => (hd.own i d a h1 h2).stay (fun _ q => q) st so, hd.adl, hd.nod, fun a h => hd.fr a (by rw [hg]; exact .inl h), hd.trk, fun a h z => hd.sep a h (by rw [hg]; exact .inl z)⟩, fun v d r => r.stay st so⟩
  obtain ⟨v, e, r⟩ := hd.env i c h
  refine ⟨v, e, ?_⟩
  cases c with
  | d x => exact Rep.stay r st so
  | loc j => exact r
end

theorem Adv.unhide {g g' : G} {s s' : S} {H H' : Hp} (a : Adv g s H g' s' H') (F : Addr → Prop) : Adv ⟨F, g.adr⟩ s H ⟨F, g'.adr⟩ s' H' := ⟨rfl, a.adr, a.keep, a.liv, a.trk⟩
theorem Adv.put {g g' : G} {s s' : S} {H H' : Hp} (a : Adv g s H g' s' H') {p : Addr} {o : HO} (hp : H p = none) : Adv g s H g' s' (upd H' p o) :=
  ⟨a.F, a.adr, fun b u h n => by rw [upd_ne (ne_of_none h hp)]; exact a.keep b u h n, a.liv, fun b h => by
    by_cases e : b = p
    · subst e; exact absurd hp h
    · rw [upd_ne e]; exact a.trk b h⟩
theorem wipe_get : ∀ (vs : List Nat) (σ : L2.St) (j : Nat), (wipe σ vs)[j]? = if j ∈ vs then (if j < σ.length then some none else none) else σ[j]? := by
  intro vs
  induction vs with
  | nil => intro σ j; simp [wipe]
  | cons v vs ih =>
    intro σ j
    unfold wipe
    by_cases hj : j = v
    · subst hj
      by_cases hlt : j < σ.length
      · rw [List.getElem?_set_self (by rw [wipe_length]; exact hlt)]
        simp [hlt]
      · rw [List.getElem?_eq_none (by rw [List.length_set, wipe_length]; omega)]
        simp [hlt]
    · rw [List.getElem?_set_ne (Ne.symm hj), ih]
      simp [List.mem_cons, hj]
theorem wipe_of {σ σ' : L2.St} {vs : List Nat} (h : ∀ j, j ∉ vs → σ'[j]? = σ[j]?) (hl : σ'.length = σ.length) : wipe σ' vs = wipe σ vs := by
  apply List.ext_getElem?
  intro j
  rw [wipe_get, wipe_get, hl]
  by_cases hj : j ∈ vs
  · simp [hj]
  · simp [hj, h j hj]
theorem wipe_wipe (σ : L2.St) (vs : List Nat) : wipe (wipe σ vs) vs = wipe σ vs := wipe_of (fun j hj => by rw [wipe_get]; simp [hj]) (wipe_length σ vs)
section
variable {K : PySem.W.Frag} {g g' : G} {s s' : S} {σ σ0 : L2.St} {H H' : Hp}
theorem Hold.reslotG (hd' : Hold K g' s' σ H') {e0 : List (Option Val)} {own0 : List (Option D)} (hd : Hold K g ⟨e0, own0⟩ σ0 H) (kp : ∀ a, ¬ Ov g ⟨e0, own0⟩ a → ∀ o, H a = some o → H' a = some o) (ov : ∀ a, Ov g' s' a → Ov g ⟨e0, own0⟩ a ∨ H a = none)
    (adr : ∃ more, g'.adr = g.adr ++ more) : Hold K g' ⟨e0, s'.own⟩ σ0 H' where
  len := hd.len
  env := fun i c h => by
    obtain ⟨v, e, r⟩ := hd.env i c h
    refine ⟨v, e, ?_⟩
    cases c with
    | d x => exact Rep.stay r kp ov
    | loc j =>
      obtain ⟨x, h, e⟩ := r
      obtain ⟨m, em⟩ := adr
      refine ⟨x, ?_, e⟩
      rw [em, List.getElem?_append_left (List.getElem?_eq_some_iff.mp h).1]; exact h
  own := hd'.own
  adl := hd'.adl
  nod := hd'.nod
  fr := hd'.fr
  trk := hd'.trk
  sep := hd'.sep
theorem Hold.ownhid (hd : Hold K g' s σ H) {F : Addr → Prop} {p : Addr} {o : HO} {d : D} (hg : g'.F = fun a => F a ∨ a = p) (hF : ¬ F p) (hp : H p = some o) (r : ObjRep K (Ov g' s) H o d) (hn : p ∉ g'.adr) : Hold K ⟨F, g'.adr ++ [p]⟩ ⟨s.env, s.own ++ [some d]⟩ σ H := by
  have lp : ∀ a, live ⟨F, g'.adr ++ [p]⟩ ⟨s.env, s.own ++ [some d]⟩ a ↔ live g' s a ∨ a = p := fun a => live_push hd.adl
  have so : ∀ a, Ov ⟨F, g'.adr ++ [p]⟩ ⟨s.env, s.own ++ [some d]⟩ a → Ov g' s a ∨ H a = none := fun a h => .inl (by
    rcases h with h | h
    · exact .inl (by rw [hg]; exact .inl h)
    · rcases (lp a).mp h with h | h
      · exact .inr h
      · exact .inl (by rw [hg]; exact .inr h))
  have st : ∀ a, ¬ Ov g' s a → ∀ u, H a = some u → H a = some u := fun _ _ _ q => q
  refine ⟨hd.len, fun i c h => ?_, fun i e b h1 h2 => ?_, by simp [hd.adl], ?_, fun a h => hd.fr a (by rw [hg]; exact .inl h), fun a h => ?_, fun a h z => ?_⟩
  · obtain ⟨v, e, r⟩ := hd.env i c h
    refine ⟨v, e, ?_⟩
    cases c with
    | d x => exact Rep.stay r st so
    | loc j =>
      obtain ⟨x, h, e⟩ := r
      exact ⟨x, by rw [List.getElem?_append_left (List.getElem?_eq_some_iff.mp h).1]; exact h, e⟩
  · by_cases hi : i < s.own.length
    · have h1' : s.own[i]? = some (some e) := by rw [← h1]; exact (List.getElem?_append_left hi).symm
      have h2' : g'.adr[i]? = some b := by rw [← h2]; exact (List.getElem?_append_left (by rw [hd.adl]; exact hi)).symm
      exact (hd.own i e b h1' h2').stay (fun _ q => q) st so
    · have hj : i = s.own.length := by
        have := (List.getElem?_eq_some_iff.mp h1).1
        simp at this; omega
      subst hj
      have e1 : d = e := by simpa using h1
      have e2 : p = b := by rw [← hd.adl] at h2; simpa using h2
      subst e1; subst e2
      exact ObjRep.own hp (r.stay st so)
  · refine List.nodup_append.mpr ⟨hd.nod, by simp, fun x hx y hy e => ?_⟩
    simp at hy
    subst hy; subst e
    exact hn hx
  · rcases List.mem_append.mp h with h | h
    · exact hd.trk a h
    · simp at h; subst h; rw [hp]; exact fun z => nomatch z
  · rcases List.mem_append.mp h with h | h
    · exact hd.sep a h (by rw [hg]; exact .inl z)
    · simp at h; subst h; exact hF z
end
section
variable {X : Cx} {elt tg iter : Expr} {ifs : List Expr} {scope : Scope} {own : List (Str × Nat)} {pos : Pos} {pi : TPi} {t : Tg} {tt : TPt} {te : TP}
theorem lift_lc (k : Bool) (vs : List Nat) (hsl : ∀ j ∈ t.slots, j ∈ vs) : ∀ σ H Q, lift X.K (wLc vs k pi t.w tt te) σ H Q → tLc (liftI X.K pi) (t.H X.K) (liftT X.K tt) (lift X.K te) vs σ H Q := fun σ H Q ⟨g, s, Qp, hd, hp, kt⟩ =>
  ⟨g, s, _, hd, hp, fun J H1 items g1 s1 hd1 a1 wk ⟨I, i0, iend, istep⟩ => by
    intro D hD
    have hF : ¬ g1.F D := fun z => hd1.fr D z hD
    have hw := (hd1.hide (o := .lst []) hD).wiped vs
    refine ⟨fun i m Hc => m = items.length - i ∧ i ≤ items.length ∧ ∃ (g' : G) (own' : List (Option Bx.D)) (accV : List V) (accD : List Bx.D), Hold X.K g' ⟨wipeE s1.env vs, own'⟩ (wipe σ vs) Hc ∧ (g'.F = fun a => g1.F a ∨ a = D) ∧
      Adv g1 s1 H1 ⟨g1.F, g'.adr⟩ ⟨wipeE s1.env vs, own'⟩ Hc ∧ Hc D = some (.lst accV) ∧ Reps X.K (Ov g' ⟨wipeE s1.env vs, own'⟩) Hc accV accD ∧ accV.length ≤ i ∧ I (items.drop i) accD own', ⟨_, rfl, Nat.zero_le _, g1.hide D, s1.own, [], [], hw, rfl, ?_, upd_same, .nil, Nat.zero_le _, i0⟩, ?_⟩
    · exact (adv_env (g := g1) (s := s1) (H := H1) (e := wipeE s1.env vs)).trans (adv_fresh hD)
    rintro i m Hc ⟨rfl, hi, g', own', accV, accD, hdc, gF, ac, hDc, rc, hl, q⟩
    have ovD : ∀ a, Ov g' ⟨wipeE s1.env vs, own'⟩ a → Ov g1 s1 a ∨ H1 a = none := fun a h => by
      rcases h with h | h
      · rw [gF] at h
        rcases h with h | h
        · exact .inl (.inl h)
        · exact .inr (by rw [h]; exact hD)
      · exact ac.ov a (.inr h)
    obtain ⟨w1, w2⟩ := wk.2 i (Ov g' ⟨wipeE s1.env vs, own'⟩) Hc ac.kp ovD hdc.ovT
    by_cases hlt : i < items.length
    · obtain ⟨x, e1, e2⟩ := drop_at hlt
      rw [e2] at q
      obtain ⟨go, yl⟩ := w2 x e1
      refine .inr ⟨go, fun Hn => ∃ (g' : G) (own' : List (Option Bx.D)) (accV : List V) (accD : List Bx.D), Hold X.K g' ⟨wipeE s1.env vs, own'⟩ (wipe σ vs) Hn ∧ (g'.F = fun a => g1.F a ∨ a = D) ∧
        Adv g1 s1 H1 ⟨g1.F, g'.adr⟩ ⟨wipeE s1.env vs, own'⟩ Hn ∧ Hn D = some (.lst accV) ∧ Reps X.K (Ov g' ⟨wipeE s1.env vs, own'⟩) Hn accV accD ∧ accV.length ≤ i + 1 ∧ I (items.drop (i + 1)) accD own', fun Hn qn => ⟨_, by omega, rfl, hlt, qn⟩, fun v H2 y => ?_⟩
      obtain ⟨kp, rv⟩ := yl v H2 y
      have hd2 := hdc.same kp
      have a2 : Adv g' ⟨wipeE s1.env vs, own'⟩ Hc g' ⟨wipeE s1.env vs, own'⟩ H2 := adv_same kp
      refine tg_ok t hd2 (c := .d x) rv (istep x _ _ _ q) fun σ3 e3 hd3 k3 l3 q3 => ⟨wipe_of (fun j hj => k3 j fun z => hj (hsl j z)) l3 |>.trans (wipe_wipe σ vs), ?_⟩
      have a3 : Adv g' ⟨wipeE s1.env vs, own'⟩ H2 g' ⟨e3, own'⟩ H2 := adv_env
      refine ⟨g', _, _, hd3, q3, fun b H4 g4 s4 hd4 a4 q4 => ?_⟩
      have a24 : Adv g' ⟨wipeE s1.env vs, own'⟩ Hc g4 s4 H4 := a2.trans (a3.trans a4)
      cases b with
      | true =>
        refine iteT ⟨g4, s4, _, hd4, q4, fun yv H5 y g5 s5 hd5 a5 r5 q5 => ?_⟩
        split at q5
        · rename_i z
          have a25 : Adv g' ⟨wipeE s1.env vs, own'⟩ Hc g5 s5 H5 := a24.trans a5
          have nlD : ¬ live g' ⟨wipeE s1.env vs, own'⟩ D := fun z => hdc.sep D z.mem (by rw [gF]; exact .inr rfl)
          have e5 := a25.keep D _ hDc nlD
          have g5F : g5.F = fun a => g1.F a ∨ a = D := a25.F.trans gF
          have hz : accV.length < sizeLine := Nat.lt_of_le_of_lt hl (Nat.lt_of_lt_of_le hlt wk.1)
          refine ⟨accV, e5, hz, g5, s5.own, accV ++ [yv], accD ++ [z], ?_, g5F, ?_, upd_same, ?_, by rw [List.length_append]; simpa using hl, q5⟩
          · exact (hd5.reslot hdc a25).hidput (o' := .lst accV) (by rw [g5F]; exact .inr rfl)
          · refine Adv.put ?_ hD
            exact ac.trans ((a25.unhide g1.F).trans adv_env)
          · have so : ∀ a, Ov g5 ⟨wipeE s1.env vs, s5.own⟩ a → Ov g5 s5 a ∨ H5 a = none := fun a h => .inl h
            have st : ∀ a, ¬ Ov g5 s5 a → ∀ u, H5 a = some u → upd H5 D (.lst (accV ++ [yv])) a = some u := fun a n u q => by
              rw [upd_ne fun z => n (by rw [z]; exact .inl (by rw [g5F]; exact .inr rfl))]; exact q
            exact ((rc.adv a25).stay st so).append (.cons _ _ _ _ (Rep.stay r5 st so) .nil)
        · exact q5.elim
      | false =>
        refine iteF ⟨g4, s4.own, accV, accD, hd4.reslot hdc a24, a24.F.trans gF, ac.trans ((a24.unhide g1.F).trans adv_env), ?_, ?_, Nat.le_succ_of_le hl, q4⟩
        · exact a24.keep D _ hDc fun z => hdc.sep D z.mem (by rw [gF]; exact .inr rfl)
        · exact (rc.adv a24).stay (fun _ _ _ q => q) fun a h => .inl h
    · have e : i = items.length := by omega
      subst e
      rw [List.drop_length] at q
      refine .inl ⟨w1 rfl, ?_⟩
      have hdF : Hold X.K g' ⟨s1.env, own'⟩ σ Hc := hdc.reslotG (own0 := s1.own) hd1 ac.kp ovD ac.adr
      have rF : Reps X.K (Ov g' ⟨s1.env, own'⟩) Hc accV accD := rc.stay (fun _ _ _ q => q) fun a h => .inl h
      have hl2 : accV.length ≤ sizeLine := Nat.le_trans hl wk.1
      have aF : Adv g1 s1 H1 ⟨g1.F, g'.adr⟩ ⟨s1.env, own'⟩ Hc := ac.trans adv_env
      have q' := iend accD own' q
      cases k with
      | false =>
        obtain ⟨hs, hr⟩ := hdF.show gF hF
        refine kt _ _ (.d (.lst accD)) _ _ hs (a1.trans aF) (.lst D accV accD (fun z => ?_) hDc hl2 (rF.stay (fun _ _ _ q => q) fun a h => .inl (h.elim (fun z => .inl (by rw [gF]; exact .inl z)) fun z => .inr z))) q'
        rcases z with z | z
        · exact hF z
        · exact hdF.sep D z.mem (by rw [gF]; exact .inr rfl)
      | true =>
        have hn : D ∉ g'.adr := fun z => hdF.sep D z (by rw [gF]; exact .inr rfl)
        have hs := hdF.ownhid gF hF hDc (d := .lst accD) ⟨hl2, rF⟩ hn
        refine kt _ _ (.loc own'.length) _ _ hs (a1.trans ⟨rfl, ?_, aF.keep, fun a h => ?_, aF.trk⟩) ⟨D, ?_, rfl⟩ q'
        · obtain ⟨m, e⟩ := aF.adr
          exact ⟨m ++ [D], by rw [show (⟨g1.F, g'.adr ++ [D]⟩ : G).adr = g'.adr ++ [D] from rfl, show g'.adr = g1.adr ++ m from e, List.append_assoc]⟩
        · rcases (live_push (g := ⟨g1.F, g'.adr⟩) (s := ⟨s1.env, own'⟩) hdF.adl).mp h with h | h
          · exact aF.liv a h
          · exact .inr (by rw [h]; exact hD)
        · show (g'.adr ++ [D])[own'.length]? = some D
          rw [← show g'.adr.length = own'.length from hdF.adl]; simp⟩
/-- a comprehension: the target's slots are its own -/
theorem pp_lc (k : Bool) (t : Tg) (hc : X.calm = true) (hN : X.N.Nodup) (hi : PPi X tg iter pi) (ok : BlkOk X.N X.env.scope scope own) (hsl : ∀ j ∈ t.slots, j ∈ own.map (·.2))
    (hg : ∀ (s : Shared) (H : Hp) (C : Addr) (cl : List (Str × Addr)) (fp : List Addr), PG (X.blk s H scope (compEnvC scope cl C X.env) fp) tg (t.H X.K)) (ht : ∀ (s : Shared) (H : Hp) (C : Addr) (cl : List (Str × Addr)) (fp : List Addr), PTs (X.blk s H scope (compEnvC scope cl C X.env) fp) ifs (liftT X.K tt))
    (he : ∀ (s : Shared) (H : Hp) (C : Addr) (cl : List (Str × Addr)) (fp : List Addr), PP (X.blk s H scope (compEnvC scope cl C X.env) fp) elt te) (hs : ∀ x, foldedSetIterable iter X.env x = pure x := by intro _; rfl) :
    PP X (.ListComp elt [⟨tg, iter, ifs, 0⟩] scope pos) (wLc (own.map (·.2)) k pi t.w tt te) := PEw (pe_lc hc hN hi ok hg ht he hs) (lift_lc k _ hsl)
end
end Bx
end

section
/-! Defs over data: promises, calls. -/
namespace Bx
open PySem L2

/-- a def's promise over data: its arguments (its own objects by their places among them), these objects' data, what is wanted of the answer and the objects, what of an exception's class -/
abbrev Spec := List Val → List D → (Val → List D → Prop) → (Addr → List D → Prop) → Prop
def liftF (K : PySem.W.Frag) (sp : Spec) : Sp := fun vs H Q E => ∃ (g : G) (args : List Val) (own : List D) (Qp : Val → List D → Prop) (Ep : Addr → List D → Prop),
  Hold K g ⟨args.map some, own.map some⟩ (vs.map some) H ∧ sp args own Qp Ep ∧
  (∀ v H' c g' own', Hold K g' ⟨[], own'.map some⟩ [] H' → Adv g ⟨[], own.map some⟩ H g' ⟨[], own'.map some⟩ H' → RepV K g' ⟨[], own'.map some⟩ H' v c → Qp c own' → Q v H') ∧
  (∀ C H' g' own', Hold K g' ⟨[], own'.map some⟩ [] H' → Adv g ⟨[], own.map some⟩ H g' ⟨[], own'.map some⟩ H' → Ep C own' → E (.ref C) none H')

def splitA (own : List (Option D)) : List Val → Nat → Option (List Val × List Nat × List D)
  | [], _ => some ([], [], [])
  | .d x :: cs, k => match splitA own cs k with
    | some (a, i, o) => some (.d x :: a, i, o)
    | none => none
  | .loc j :: cs, k => match nth own j with
    | some (some x) => match splitA own cs (k + 1) with
      | some (a, i, o) => some (.loc k :: a, j :: i, x :: o)
      | none => none
    | _ => none
def putA : List (Option D) → List Nat → List D → List (Option D)
  | own, i :: is, x :: xs => putA (own.set i (some x)) is xs
  | own, _, _ => own
def freshN : List Nat → Bool
  | [] => true
  | i :: is => !(is.any (Nat.beq i)) && freshN is
def backW (s : S) (idx : List Nat) (c : Val) (own' : List D) (Q : Val → S → Prop) : Prop := match c with
  | .d x => match lenIs idx.length own' with
    | true => Q (.d x) ⟨s.env, putA s.own idx own'⟩
    | false => False
  | .loc k => match Nat.beq k idx.length, lenIs (idx.length + 1) own', nth own' idx.length with
    | true, true, some x => Q (.loc s.own.length) ⟨s.env, putA s.own idx own' ++ [some x]⟩
    | _, _, _ => False
def callW (sp : Spec) (Ex : Addr → S → Prop) (cs : List Val) : TP := fun s Q => match splitA s.own cs 0 with
  | some (args, idx, own) => match freshN idx with
    | true => sp args own (fun c own' => backW s idx c own' Q) (fun C own' => lenIs idx.length own' = true ∧ Ex C ⟨s.env, putA s.own idx own'⟩)
    | false => False
  | none => False

theorem freshN_nodup : ∀ {l : List Nat}, freshN l = true → l.Nodup
  | [], _ => .nil
  | i :: is, h => by
    unfold freshN at h
    rw [Bool.and_eq_true] at h
    refine List.nodup_cons.mpr ⟨fun z => ?_, freshN_nodup h.2⟩
    have h1 := h.1
    rw [Bool.not_eq_true', List.any_eq_false] at h1
    exact h1 i z (Nat.beq_refl i)
theorem putA_length : ∀ (own : List (Option D)) (is : List Nat) (xs : List D), (putA own is xs).length = own.length
  | own, i :: is, x :: xs => by unfold putA; rw [putA_length]; simp
  | own, [], _ => by unfold putA; rfl
  | own, _ :: _, [] => by unfold putA; rfl
theorem putA_out {j : Nat} : ∀ (own : List (Option D)) (is : List Nat) (xs : List D), j ∉ is → (putA own is xs)[j]? = own[j]?
  | own, i :: is, x :: xs, h => by
    unfold putA
    rw [putA_out _ is xs fun z => h (List.mem_cons_of_mem _ z)]
    exact List.getElem?_set_ne fun z => h (by rw [← z]; exact List.mem_cons_self)
  | own, [], _, _ => by unfold putA; rfl
  | own, _ :: _, [], _ => by unfold putA; rfl
theorem putA_in : ∀ {own : List (Option D)} {is : List Nat} {xs : List D} {m j : Nat} {x : D}, is.Nodup → is[m]? = some j → xs[m]? = some x → j < own.length → (putA own is xs)[j]? = some (some x)
  | own, i :: is, y :: xs, 0, j, x, nd, h1, h2, hj => by
    cases h1; cases h2
    unfold putA
    rw [putA_out _ is xs (List.nodup_cons.mp nd).1]
    simp [hj]
  | own, i :: is, y :: xs, m + 1, j, x, nd, h1, h2, hj => by
    unfold putA
    exact putA_in (List.nodup_cons.mp nd).2 (by simpa using h1) (by simpa using h2) (by simpa using hj)
  | own, [], _, m, j, x, nd, h1, _, _ => by simp at h1
  | own, _ :: _, [], m, j, x, nd, _, h2, _ => by simp at h2
theorem splitA_idx {own : List (Option D)} : ∀ {cs : List Val} {k : Nat} {args : List Val} {idx : List Nat} {os : List D}, splitA own cs k = some (args, idx, os) →
    args.length = cs.length ∧ idx.length = os.length ∧ ∀ (m j : Nat) (x : D), idx[m]? = some j → os[m]? = some x → own[j]? = some (some x)
  | [], k, args, idx, os, h => by cases h; exact ⟨rfl, rfl, fun m j x h => by simp at h⟩
  | .d x :: cs, k, args, idx, os, h => by
    unfold splitA at h
    split at h
    · rename_i e
      cases h
      obtain ⟨h1, h2, h3⟩ := splitA_idx e
      exact ⟨by simp [h1], h2, h3⟩
    · cases h
  | .loc j :: cs, k, args, idx, os, h => by
    unfold splitA at h
    split at h
    · rename_i x e0
      split at h
      · rename_i e
        cases h
        obtain ⟨h1, h2, h3⟩ := splitA_idx e
        refine ⟨by simp [h1], by simp [h2], fun m j' x' e1 e2 => ?_⟩
        cases m with
        | zero => simp at e1 e2; subst e1; subst e2; rw [nth_eq] at e0; exact e0
        | succ m => exact h3 m j' x' (by simpa using e1) (by simpa using e2)
      · cases h
    · cases h
/-- the arguments as the callee sees them -/
theorem splitA_reps {K : PySem.W.Frag} {g gc : G} {s sc : S} {H : Hp} (so : ∀ a, Ov gc sc a → Ov g s a) : ∀ {vs : List V} {cs : List Val} {k : Nat} {args : List Val} {idx : List Nat} {os : List D}, RepVs K g s H vs cs → splitA s.own cs k = some (args, idx, os) →
    (∀ (m j : Nat), idx[m]? = some j → gc.adr[k + m]? = g.adr[j]?) → RepVs K gc sc H vs args
  | _, [], k, args, idx, os, .nil, h, _ => by cases h; exact .nil
  | _, .d x :: cs, k, args, idx, os, .cons r t, h, ha => by
    unfold splitA at h
    split at h
    · rename_i e
      cases h
      exact .cons (Rep.stay r (fun _ _ _ q => q) fun a z => .inl (so a z)) (splitA_reps so t e ha)
    · cases h
  | _, .loc j :: cs, k, args, idx, os, .cons r t, h, ha => by
    unfold splitA at h
    split at h
    · rename_i x e0
      split at h
      · rename_i e
        cases h
        obtain ⟨a, e1, e2⟩ := r
        refine .cons ⟨a, ?_, e2⟩ (splitA_reps so t e fun m j' hm => ?_)
        · have := ha 0 j rfl
          rw [Nat.add_zero] at this
          rw [this]; exact e1
        · have := ha (m + 1) j' (by simpa using hm)
          rw [← this]; congr 1; omega
      · cases h
    · cases h
theorem RepVs.env {K : PySem.W.Frag} {g : G} {s : S} {H : Hp} : ∀ {vs : List V} {cs : List Val} {i : Nat} {c : Val}, RepVs K g s H vs cs → (cs.map some)[i]? = some (some c) → ∃ v, (vs.map some)[i]? = some (some v) ∧ RepV K g s H v c
  | _, _, i, c, .nil, h => by simp at h
  | _, _, 0, c, .cons (v := v) r t, h => by simp at h; subst h; exact ⟨v, rfl, r⟩
  | _, _, i + 1, c, .cons r t, h => by
    obtain ⟨v, e, q⟩ := RepVs.env (i := i) (c := c) t (by simpa using h)
    exact ⟨v, by simpa using e, q⟩

section
variable {K : PySem.W.Frag} {g : G} {s : S} {σ : L2.St} {H : Hp} {vs : List V} {cs args : List Val} {idx : List Nat} {os : List D}
def adrC (g : G) (idx : List Nat) : List Addr := idx.map fun j => g.adr.getD j 0
def gC (g : G) (s : S) (idx : List Nat) : G := ⟨fun a => g.F a ∨ (live g s a ∧ a ∉ adrC g idx), adrC g idx⟩
theorem adrC_get (hl : g.adr.length = s.own.length) (h : ∀ (m j : Nat) (x : D), idx[m]? = some j → os[m]? = some x → s.own[j]? = some (some x)) (hlen : idx.length = os.length) {m j : Nat} (e : idx[m]? = some j) :
    ∃ a x, g.adr[j]? = some a ∧ (adrC g idx)[m]? = some a ∧ os[m]? = some x ∧ s.own[j]? = some (some x) := by
  have hm : m < os.length := by rw [← hlen]; exact (List.getElem?_eq_some_iff.mp e).1
  have hx : os[m]? = some os[m] := List.getElem?_eq_getElem hm
  have ho := h m j _ e hx
  have hj : j < g.adr.length := by rw [hl]; exact (List.getElem?_eq_some_iff.mp ho).1
  refine ⟨g.adr[j], os[m], List.getElem?_eq_getElem hj, ?_, hx, ho⟩
  unfold adrC
  rw [List.getElem?_map, e]
  simp [List.getD, hj]
theorem mem_adrC {a : Addr} (h : a ∈ adrC g idx) : ∃ m : Nat, (adrC g idx)[m]? = some a ∧ ∃ j : Nat, idx[m]? = some j := by
  obtain ⟨m, e⟩ := List.getElem?_of_mem h
  refine ⟨m, e, ?_⟩
  have : m < idx.length := by
    have := (List.getElem?_eq_some_iff.mp e).1
    simpa [adrC] using this
  exact ⟨idx[m], List.getElem?_eq_getElem this⟩

structure CallOk (K : PySem.W.Frag) (g : G) (s : S) (σ : L2.St) (H : Hp) (vs : List V) (idx : List Nat) (args : List Val) (os : List D) : Prop where
  hold : Hold K (gC g s idx) ⟨args.map some, os.map some⟩ (vs.map some) H
  nd : idx.Nodup
  len : idx.length = os.length
  at_ : ∀ (m j : Nat) (x : D), idx[m]? = some j → os[m]? = some x → s.own[j]? = some (some x)
theorem live_gC (hl : g.adr.length = s.own.length) (h : ∀ (m j : Nat) (x : D), idx[m]? = some j → os[m]? = some x → s.own[j]? = some (some x)) (hlen : idx.length = os.length) {e : List (Option Val)} {a : Addr} : live (gC g s idx) ⟨e, os.map some⟩ a ↔ a ∈ adrC g idx := by
  constructor
  · exact fun z => z.mem
  · intro z
    obtain ⟨m, e1, j, e2⟩ := mem_adrC z
    obtain ⟨b, x, _, _, hx, _⟩ := adrC_get (os := os) hl h hlen e2
    exact ⟨m, x, e1, by rw [List.getElem?_map, hx]; rfl⟩
theorem adrC_live (hl : g.adr.length = s.own.length) (h : ∀ (m j : Nat) (x : D), idx[m]? = some j → os[m]? = some x → s.own[j]? = some (some x)) (hlen : idx.length = os.length) {a : Addr} (z : a ∈ adrC g idx) : live g s a := by
  obtain ⟨m, e1, j, e2⟩ := mem_adrC z
  obtain ⟨b, x, h1, h2, hx, ho⟩ := adrC_get (os := os) hl h hlen e2
  rw [e1] at h2; cases h2
  exact ⟨j, x, h1, ho⟩
theorem ov_gC (hl : g.adr.length = s.own.length) (h : ∀ (m j : Nat) (x : D), idx[m]? = some j → os[m]? = some x → s.own[j]? = some (some x)) (hlen : idx.length = os.length) {e : List (Option Val)} {a : Addr} : Ov (gC g s idx) ⟨e, os.map some⟩ a ↔ Ov g s a := by
  constructor
  · rintro ((z | z) | z)
    · exact .inl z
    · exact .inr z.1
    · exact .inr (adrC_live (os := os) hl h hlen ((live_gC hl h hlen).mp z))
  · rintro (z | z)
    · exact .inl (.inl z)
    · by_cases q : a ∈ adrC g idx
      · exact .inr ((live_gC hl h hlen).mpr q)
      · exact .inl (.inr ⟨z, q⟩)
theorem call_ok (hd : Hold K g s σ H) (rs : RepVs K g s H vs cs) (hs : splitA s.own cs 0 = some (args, idx, os)) (hf : freshN idx = true) : CallOk K g s σ H vs idx args os := by
  obtain ⟨l1, l2, h⟩ := splitA_idx hs
  have nd := freshN_nodup hf
  have hl := hd.adl
  refine ⟨?_, nd, l2, h⟩
  have rv : RepVs K (gC g s idx) ⟨args.map some, os.map some⟩ H vs args := splitA_reps (fun a z => (ov_gC hl h l2).mp z) rs hs fun m j hm => by
    obtain ⟨b, x, h1, h2, _, _⟩ := adrC_get (os := os) hl h l2 hm
    rw [Nat.zero_add, h1]; exact h2
  refine ⟨by simp [rv.length], fun i c hc => rv.env hc, fun m d a h1 h2 => ?_, by simp [gC, adrC, l2], ?_, fun a z => ?_, fun a z => ?_, fun a z => ?_⟩
  · have h1' : (os.map some)[m]? = some (some d) := h1
    have hd1 : os[m]? = some d := by
      rw [List.getElem?_map] at h1'
      cases q : os[m]? with
      | none => rw [q] at h1'; cases h1'
      | some y => rw [q] at h1'; simp at h1'; rw [h1']
    have hm : m < idx.length := by rw [l2]; exact (List.getElem?_eq_some_iff.mp hd1).1
    obtain ⟨b, x, e1, e2, e3, e4⟩ := adrC_get (os := os) hl h l2 (List.getElem?_eq_getElem hm)
    have h2' : (adrC g idx)[m]? = some a := h2
    rw [e2] at h2'; cases h2'
    rw [hd1] at e3; cases e3
    exact (hd.own _ _ _ e4 e1).stay (fun _ q => q) (fun _ _ _ q => q) fun a z => .inl ((ov_gC hl h l2).mp z)
  · show (adrC g idx).Nodup
    unfold adrC
    refine List.pairwise_iff_getElem.mpr fun i j hi hj hij e => ?_
    have hi' : i < idx.length := by simpa using hi
    have hj' : j < idx.length := by simpa using hj
    obtain ⟨b, x, e1, e2, _, _⟩ := adrC_get (os := os) hl h l2 (List.getElem?_eq_getElem hi')
    obtain ⟨b', x', e1', e2', _, _⟩ := adrC_get (os := os) hl h l2 (List.getElem?_eq_getElem hj')
    unfold adrC at e2 e2'
    rw [List.getElem?_eq_getElem hi] at e2
    rw [List.getElem?_eq_getElem hj] at e2'
    have eb : b = b' := (Option.some.inj e2).symm.trans (e.trans (Option.some.inj e2'))
    subst eb
    have q : idx[i] = idx[j] := Hold.write.nodup_ixA hd.nod e1 e1'
    exact absurd ((List.getElem_inj nd).mp q) (Nat.ne_of_lt hij)
  · rcases z with z | z
    · exact hd.fr a z
    · exact hd.tr z.1
  · exact hd.tr (adrC_live (os := os) hl h l2 z)
  · rintro (q | q)
    · exact hd.sep a (adrC_live (os := os) hl h l2 z).mem q
    · exact q.2 z
/-- behind a call: the caller's state again; more: the address of a new own object, if the answer is one -/
theorem call_back (hd : Hold K g s σ H) (co : CallOk K g s σ H vs idx args os) {H' : Hp} {gc' : G} {own' : List D} {more : List Addr} (hdc : Hold K gc' ⟨[], own'.map some⟩ [] H') (a : Adv (gC g s idx) ⟨[], os.map some⟩ H gc' ⟨[], own'.map some⟩ H')
    (em : gc'.adr = adrC g idx ++ more) : Hold K ⟨g.F, g.adr ++ more⟩ ⟨s.env, putA s.own idx own' ++ (own'.drop idx.length).map some⟩ σ H' ∧ Adv g s H ⟨g.F, g.adr ++ more⟩ ⟨s.env, putA s.own idx own' ++ (own'.drop idx.length).map some⟩ H' ∧
      (∀ v d, Rep K (Ov gc' ⟨[], own'.map some⟩) H' v d → Rep K (Ov ⟨g.F, g.adr ++ more⟩ ⟨s.env, putA s.own idx own' ++ (own'.drop idx.length).map some⟩) H' v d) := by
  have hl := hd.adl
  have h := co.at_
  have l2 := co.len
  have lC : (adrC g idx).length = idx.length := by simp [adrC]
  have lo : own'.length = idx.length + more.length := by
    have := hdc.adl
    rw [em, List.length_append, lC] at this
    simpa using this.symm
  have lp : (putA s.own idx own').length = s.own.length := putA_length _ _ _
  -- at a place of the caller's
  have inC : ∀ (m j : Nat), idx[m]? = some j → ∃ (b : Addr) (x : D), g.adr[j]? = some b ∧ (adrC g idx)[m]? = some b ∧ own'[m]? = some x ∧ (putA s.own idx own')[j]? = some (some x) := fun m j hm => by
    obtain ⟨b, x, e1, e2, e3, e4⟩ := adrC_get (os := os) hl h l2 hm
    have hm' : m < own'.length := by rw [lo]; have := (List.getElem?_eq_some_iff.mp hm).1; omega
    exact ⟨b, own'[m], e1, e2, List.getElem?_eq_getElem hm', putA_in co.nd hm (List.getElem?_eq_getElem hm') (List.getElem?_eq_some_iff.mp e4).1⟩
  have liveC : ∀ x, live gc' ⟨[], own'.map some⟩ x ↔ x ∈ adrC g idx ++ more := fun x => by
    constructor
    · intro z; have := z.mem; rw [em] at this; exact this
    · intro z
      obtain ⟨m, e⟩ := List.getElem?_of_mem z
      have hm : m < own'.length := by
        have := (List.getElem?_eq_some_iff.mp e).1
        rw [List.length_append, lC] at this; omega
      exact ⟨m, own'[m], by rw [em]; exact e, by rw [List.getElem?_map, List.getElem?_eq_getElem hm]; rfl⟩
  have freshM : ∀ x ∈ more, H x = none := fun x hx => by
    rcases a.liv x ((liveC x).mpr (List.mem_append_right _ hx)) with z | z
    · have z' := (live_gC hl h l2).mp z
      have nd := hdc.nod
      rw [em] at nd
      exact absurd rfl ((List.nodup_append.mp nd).2.2 x z' x hx)
    · exact z
  have moreN : more.Nodup := by
    have nd := hdc.nod
    rw [em] at nd
    exact (List.nodup_append.mp nd).2.1
  -- what is live behind the call
  have liv2 : ∀ x, live ⟨g.F, g.adr ++ more⟩ ⟨s.env, putA s.own idx own' ++ (own'.drop idx.length).map some⟩ x ↔ live g s x ∨ x ∈ more := fun x => by
    constructor
    · rintro ⟨i, d, h1, h2⟩
      by_cases hi : i < g.adr.length
      · rw [List.getElem?_append_left hi] at h1
        rw [List.getElem?_append_left (by rw [lp]; omega)] at h2
        by_cases hm : i ∈ idx
        · obtain ⟨m, e⟩ := List.getElem?_of_mem hm
          obtain ⟨b, y, e1, e2, e3, e4⟩ := adrC_get (os := os) hl h l2 e
          exact .inl ⟨i, y, h1, e4⟩
        · rw [putA_out _ _ _ hm] at h2
          exact .inl ⟨i, d, h1, h2⟩
      · rw [List.getElem?_append_right (by omega)] at h1
        exact .inr (List.mem_of_getElem? h1)
    · rintro (⟨i, d, h1, h2⟩ | z)
      · have hi := (List.getElem?_eq_some_iff.mp h1).1
        by_cases hm : i ∈ idx
        · obtain ⟨m, e⟩ := List.getElem?_of_mem hm
          obtain ⟨b, y, e1, e2, e3, e4⟩ := inC m i e
          exact ⟨i, y, by rw [List.getElem?_append_left hi]; exact h1, by rw [List.getElem?_append_left (by rw [lp]; omega)]; exact e4⟩
        · exact ⟨i, d, by rw [List.getElem?_append_left hi]; exact h1, by rw [List.getElem?_append_left (by rw [lp]; omega), putA_out _ _ _ hm]; exact h2⟩
      · obtain ⟨m, e⟩ := List.getElem?_of_mem z
        have hm := (List.getElem?_eq_some_iff.mp e).1
        have hq : idx.length + m < own'.length := by omega
        refine ⟨g.adr.length + m, own'[idx.length + m], ?_, ?_⟩
        · rw [List.getElem?_append_right (Nat.le_add_right _ _), Nat.add_sub_cancel_left]; exact e
        · rw [List.getElem?_append_right (by rw [lp]; omega), lp, hl, Nat.add_sub_cancel_left, List.getElem?_map, List.getElem?_drop, List.getElem?_eq_getElem hq]; rfl
  have ovq : ∀ x, Ov ⟨g.F, g.adr ++ more⟩ ⟨s.env, putA s.own idx own' ++ (own'.drop idx.length).map some⟩ x → Ov gc' ⟨[], own'.map some⟩ x := fun x z => by
    rcases z with z | z
    · exact .inl (by rw [a.F]; exact .inl z)
    · rcases (liv2 x).mp z with z | z
      · by_cases q : x ∈ adrC g idx
        · exact .inr ((liveC x).mpr (List.mem_append_left _ q))
        · exact .inl (by rw [a.F]; exact .inr ⟨z, q⟩)
      · exact .inr ((liveC x).mpr (List.mem_append_right _ z))
  have av : Adv g s H ⟨g.F, g.adr ++ more⟩ ⟨s.env, putA s.own idx own' ++ (own'.drop idx.length).map some⟩ H' :=
    ⟨rfl, ⟨more, rfl⟩, fun x o e n => a.keep x o e fun z => n (adrC_live (os := os) hl h l2 ((live_gC hl h l2).mp z)), fun x z => (liv2 x).mp z |>.elim .inl fun z => .inr (freshM x z), a.trk⟩
  refine ⟨⟨hd.len, fun i c e => ?_, fun i d b h1 h2 => ?_, ?_, ?_, fun x z => a.trk x (hd.fr x z), fun x z => ?_, fun x z q => ?_⟩, av, fun v d r => r.stay (fun _ _ _ q => q) fun x z => .inl (ovq x z)⟩
  · obtain ⟨v, e1, r⟩ := hd.env i c e
    exact ⟨v, e1, r.adv av⟩
  · by_cases hi : i < s.own.length
    · have h1' : (putA s.own idx own')[i]? = some (some d) := by rw [← h1]; exact (List.getElem?_append_left (by rw [lp]; exact hi)).symm
      have h2' : g.adr[i]? = some b := by rw [← h2]; exact (List.getElem?_append_left (by rw [hl]; exact hi)).symm
      by_cases hm : i ∈ idx
      · obtain ⟨m, e⟩ := List.getElem?_of_mem hm
        obtain ⟨b', y, e1, e2, e3, e4⟩ := inC m i e
        rw [h2'] at e1; cases e1
        rw [h1'] at e4; cases e4
        have := hdc.own m d b (by rw [List.getElem?_map, e3]; rfl) (by rw [em, List.getElem?_append_left (List.getElem?_eq_some_iff.mp e2).1]; exact e2)
        exact this.stay (fun _ q => q) (fun _ _ _ q => q) fun x z => .inl (ovq x z)
      · rw [putA_out _ _ _ hm] at h1'
        refine (hd.own i d b h1' h2').stay (fun o q => a.keep b o q fun z => ?_) av.kp av.ov
        have z' := (live_gC hl h l2).mp z
        obtain ⟨m, e1, j, e2⟩ := mem_adrC z'
        obtain ⟨b', x, e3, e4, _, _⟩ := adrC_get (os := os) hl h l2 e2
        rw [e1] at e4; cases e4
        have : i = j := Hold.write.nodup_ixA hd.nod h2' e3
        exact hm (by rw [this]; exact List.mem_of_getElem? e2)
    · have h1' : ((own'.drop idx.length).map some)[i - s.own.length]? = some (some d) := by rw [← h1, List.getElem?_append_right (by rw [lp]; omega), lp]
      have h2' : more[i - s.own.length]? = some b := by
        have q : (g.adr ++ more)[i]? = some b := h2
        rw [List.getElem?_append_right (by rw [hl]; omega), hl] at q
        exact q
      rw [List.getElem?_map, List.getElem?_drop] at h1'
      have e3 : own'[idx.length + (i - s.own.length)]? = some d := by
        cases q : own'[idx.length + (i - s.own.length)]? with
        | none => rw [q] at h1'; cases h1'
        | some y => rw [q] at h1'; simp at h1'; rw [h1']
      have := hdc.own (idx.length + (i - s.own.length)) d b (by rw [List.getElem?_map, e3]; rfl) (by rw [em, List.getElem?_append_right (by rw [lC]; omega), lC, Nat.add_sub_cancel_left]; exact h2')
      exact this.stay (fun _ q => q) (fun _ _ _ q => q) fun x z => .inl (ovq x z)
  · show (g.adr ++ more).length = (putA s.own idx own' ++ (own'.drop idx.length).map some).length
    simp [lp, hl, lo]
  · refine List.nodup_append.mpr ⟨hd.nod, moreN, fun x hx y hy e => ?_⟩
    subst e
    exact hd.trk x hx (freshM x hy)
  · rcases List.mem_append.mp z with z | z
    · exact a.trk x (hd.trk x z)
    · exact hdc.trk x (by rw [em]; exact List.mem_append_right _ z)
  · rcases List.mem_append.mp z with z | z
    · exact hd.sep x z q
    · exact hd.fr x q (freshM x z)
end
end Bx
end

section
/-! Calls as rules; a def's body keeps its promise. -/
namespace Bx
open PySem L2 PySem.Spec PyProof.Rows

def wCall (sp : Spec) (pa : TPa) : TP := fun s Q => pa s fun cs s1 => callW sp (fun _ _ => False) cs s1 Q
section
variable {K : PySem.W.Frag} {g : G} {s : S} {σ : L2.St} {H : Hp} {vs : List V} {cs : List Val} {sp : Spec} {Ex : Addr → S → Prop} {Qp : Val → S → Prop} {Q : VK} {E : XK}
theorem callW_ok (hd : Hold K g s σ H) (rs : RepVs K g s H vs cs) (h : callW sp Ex cs s Qp) (k : Kont K g s σ H Qp Q)
    (kx : ∀ C H' g' s', Hold K g' s' σ H' → Adv g s H g' s' H' → Ex C s' → E (.ref C) none H') : liftF K sp vs H Q E := by
  unfold callW at h
  split at h
  · rename_i args idx os hs
    split at h
    · rename_i hf
      have co := call_ok hd rs hs hf
      refine ⟨gC g s idx, args, os, _, _, co.hold, h, fun v H' c g' own' hdc a r q => ?_, fun C H' g' own' hdc a q => ?_⟩
      · have a0 : Adv (gC g s idx) ⟨[], os.map some⟩ H g' ⟨[], own'.map some⟩ H' := a
        obtain ⟨more, em⟩ := a0.adr
        have em : g'.adr = adrC g idx ++ more := em
        obtain ⟨b1, b2, b3⟩ := call_back hd co hdc a0 em
        have lo : own'.length = idx.length + more.length := by
          have := hdc.adl
          rw [em, List.length_append] at this
          simpa [adrC] using this.symm
        unfold backW at q
        split at q
        · rename_i x
          split at q
          · rename_i b hl
            have hl := lenIs_eq hl
            have e0 : own'.drop idx.length = [] := List.drop_eq_nil_of_le (by omega)
            have m0 : more = [] := List.length_eq_zero_iff.mp (by omega)
            rw [e0, m0] at b1 b2 b3
            simp only [List.map_nil, List.append_nil] at b1 b2 b3
            exact k _ _ (.d x) _ _ b1 b2 (b3 _ _ r) q
          · exact q.elim
        · rename_i kk
          split at q
          · rename_i b1' b2' b3' x hk hl hx
            have hl := lenIs_eq hl
            have ek : kk = idx.length := Nat.eq_of_beq_eq_true hk
            subst ek
            rw [nth_eq] at hx
            have e0 : own'.drop idx.length = [x] := by
              rw [List.drop_eq_getElem_cons (by omega), List.drop_eq_nil_of_le (by omega)]
              rw [List.getElem?_eq_getElem (by omega)] at hx
              rw [Option.some.inj hx]
            rw [e0] at b1 b2 b3
            obtain ⟨p, ep, ev⟩ := r
            rw [em, List.getElem?_append_right (by simp [adrC])] at ep
            refine k _ _ (.loc s.own.length) _ _ b1 b2 ⟨p, ?_, ev⟩ q
            show (g.adr ++ more)[s.own.length]? = some p
            rw [List.getElem?_append_right (by rw [hd.adl]; exact Nat.le_refl _), hd.adl, Nat.sub_self]
            simpa [adrC] using ep
          · exact q.elim
      · have a0 : Adv (gC g s idx) ⟨[], os.map some⟩ H g' ⟨[], own'.map some⟩ H' := a
        obtain ⟨more, em⟩ := a0.adr
        have em : g'.adr = adrC g idx ++ more := em
        obtain ⟨b1, b2, b3⟩ := call_back hd co hdc a0 em
        obtain ⟨hl, q⟩ := q
        have hl := lenIs_eq hl
        have e0 : own'.drop idx.length = [] := List.drop_eq_nil_of_le (by omega)
        rw [e0] at b1 b2
        simp only [List.map_nil, List.append_nil] at b1 b2
        exact kx C H' _ _ b1 b2 q
    · exact h.elim
  · exact h.elim
end
section
variable {X : Cx} {e : Expr} {es : List Expr} {pa : TPa} {k : Nat} {f : Addr} {fd : FuncData} {ps : List Str} {sp : Spec} {x : Str} {p pos : Pos}
/-- f(..), nothing is let out -/
theorem pp_call (F : FnOk X.prog X.w X.K X.mg X.base CX0 k f fd ps (liftF X.K sp)) (hr : Room k X.A) (hg : Gl X x) (hm : X.mg x = some (.ref f)) (hk : PySem.W.keepIn X.K (.ref f) = true) (hb : Binds X.K fd ps []) (ha : PPa X (e :: es) pa)
    (hdb : (x == ("__debug__" : Str)) = false := by decide) (he : starEach (e :: es) X.env = (false, eval e X.env) :: starEach es X.env := by rfl) (hpl : (backTo pos (starEach es X.env)).any (·.1) = false := by rfl) : PP X (.Call (.Name x p) (e :: es) [] pos) (wCall sp pa) :=
  PEw (pe_call F hr hg hm hk hb .nil pass0 ha hdb he hpl) fun σ H Q ⟨g, s, Qp, hd, hp, kt⟩ => ⟨g, s, _, hd, hp, fun vs H1 cs g1 s1 hd1 a1 rs hq => by
    show liftF X.K sp (vs ++ []) H1 Q E0
    rw [List.append_nil]
    exact callW_ok hd1 rs hq (kt.after a1) fun _ _ _ _ _ _ z => z.elim⟩
end

/-! ### a def's end -/
def takeAll : Nat → List (Option D) → Option (List D)
  | 0, _ => some []
  | n + 1, some x :: l => match takeAll n l with
    | some xs => some (x :: xs)
    | none => none
  | _ + 1, _ => none
/-- n0: how many objects came with the arguments; an own object that is handed out is data from then on, or the caller's own -/
def exitW (n0 : Nat) (c : Val) (s : S) (Q : Val → List D → Prop) : Prop := match takeAll n0 s.own with
  | none => False
  | some own' => match c with
    | .d x => Q (.d x) own'
    | .loc i => match Nat.blt i n0, nth s.own i with
      | false, some (some x) => Q (.d x) own' ∨ Q (.loc n0) (own' ++ [x])
      | _, _ => False
def endsF (n0 : Nat) (Q : Val → List D → Prop) (Ep : Addr → List D → Prop) : EndsP :=
  { nx := fun s => exitW n0 (.d .non) s Q, rt := fun c s => exitW n0 c s Q, ex := fun C s => match takeAll n0 s.own with
    | none => False
    | some own' => Ep C own' }
theorem takeAll_eq : ∀ {n : Nat} {l : List (Option D)} {xs : List D}, takeAll n l = some xs → l.take n = xs.map some ∧ xs.length = n
  | 0, l, xs, h => by cases h; exact ⟨by simp, rfl⟩
  | n + 1, [], xs, h => by cases h
  | n + 1, none :: l, xs, h => by cases h
  | n + 1, some x :: l, xs, h => by
    unfold takeAll at h
    split at h
    · rename_i e
      cases h
      obtain ⟨h1, h2⟩ := takeAll_eq e
      exact ⟨by simp [h1], by simp [h2]⟩
    · cases h
section
variable {K : PySem.W.Frag} {g g0 : G} {s s0 : S} {σ : L2.St} {H H0 : Hp} {own' : List D} {n0 : Nat}
theorem live_cut (e : s.own.take n0 = own'.map some) {a : Addr} (h : live ⟨g.F, g.adr.take n0⟩ ⟨[], own'.map some⟩ a) : live g s a ∧ ∃ i : Nat, i < n0 ∧ g.adr[i]? = some a := by
  obtain ⟨i, d, h1, h2⟩ := h
  have hi : i < n0 := by
    have := (List.getElem?_eq_some_iff.mp h1).1
    have q : i < (g.adr.take n0).length := this
    rw [List.length_take] at q; omega
  have h1' : g.adr[i]? = some a := by rw [← h1]; exact (List.getElem?_take_of_lt hi).symm
  have h2' : s.own[i]? = some (some d) := by rw [← h2]; show _ = (own'.map some)[i]?; rw [← e]; exact (List.getElem?_take_of_lt hi).symm
  exact ⟨⟨i, d, h1', h2'⟩, i, hi, h1'⟩
theorem Hold.cut (hd : Hold K g s σ H) (e : s.own.take n0 = own'.map some) (hn : own'.length = n0) (a : Adv g0 s0 H0 g s H) (h0 : g0.adr.length = n0) : Hold K ⟨g.F, g.adr.take n0⟩ ⟨[], own'.map some⟩ [] H ∧ Adv g0 s0 H0 ⟨g.F, g.adr.take n0⟩ ⟨[], own'.map some⟩ H ∧
    (∀ x, Ov ⟨g.F, g.adr.take n0⟩ ⟨[], own'.map some⟩ x → Ov g s x) := by
  have ov : ∀ x, Ov ⟨g.F, g.adr.take n0⟩ ⟨[], own'.map some⟩ x → Ov g s x := fun x z => z.elim .inl fun z => .inr (live_cut e z).1
  have l1 : n0 ≤ s.own.length := by
    have := congrArg List.length e
    rw [List.length_take, List.length_map, hn] at this; omega
  refine ⟨⟨rfl, fun i c h => by simp at h, fun i d b h1 h2 => ?_, by simp [hn, hd.adl]; omega, hd.nod.sublist (List.take_sublist _ _), hd.fr, fun b hb => hd.trk b (List.mem_of_mem_take hb), fun b hb => hd.sep b (List.mem_of_mem_take hb)⟩,
    ⟨a.F, ⟨[], ?_⟩, a.keep, fun x z => a.liv x (live_cut e z).1, a.trk⟩, ov⟩
  · have hi : i < n0 := by
      have := (List.getElem?_eq_some_iff.mp h2).1
      have q : i < (g.adr.take n0).length := this
      rw [List.length_take] at q; omega
    have h2' : g.adr[i]? = some b := by rw [← h2]; exact (List.getElem?_take_of_lt hi).symm
    have h1' : s.own[i]? = some (some d) := by rw [← h1]; show _ = (own'.map some)[i]?; rw [← e]; exact (List.getElem?_take_of_lt hi).symm
    exact (hd.own i d b h1' h2').stay (fun _ q => q) (fun _ _ _ q => q) fun x z => .inl (ov x z)
  · obtain ⟨m, em⟩ := a.adr
    show g.adr.take n0 = g0.adr ++ []
    rw [em, ← h0]; simp
theorem exit_ok {Q : Val → List D → Prop} {v : V} {c : Val} {R : VK} (hd : Hold K g s σ H) (a : Adv g0 s0 H0 g s H) (h0 : g0.adr.length = n0) (r : RepV K g s H v c) (h : exitW n0 c s Q)
    (k : ∀ v H' c g' own', Hold K g' ⟨[], own'.map some⟩ [] H' → Adv g0 s0 H0 g' ⟨[], own'.map some⟩ H' → RepV K g' ⟨[], own'.map some⟩ H' v c → Q c own' → R v H') : R v H := by
  unfold exitW at h
  split at h
  · exact h.elim
  · rename_i own' e
    obtain ⟨e1, e2⟩ := takeAll_eq e
    obtain ⟨c1, c2, ov⟩ := hd.cut e1 e2 a h0
    split at h
    · exact k _ _ (.d _) _ _ c1 c2 (Rep.stay r (fun _ _ _ q => q) fun x z => .inl (ov x z)) h
    · rename_i i
      split at h
      · rename_i x hb hx
        rw [nth_eq] at hx
        obtain ⟨p, ep, rfl⟩ := r
        have hi : n0 ≤ i := by
          rw [← Nat.not_lt]
          intro z
          have : Nat.blt i n0 = true := by unfold Nat.blt; exact Nat.ble_eq.mpr z
          rw [hb] at this; cases this
        obtain ⟨o, ho, q⟩ := (hd.own i x p hx ep).obj
        have np : ∀ j : Nat, j < n0 → g.adr[j]? ≠ some p := fun j hj z => by
          have := Hold.write.nodup_ixA hd.nod z ep
          omega
        rcases h with h | h
        · refine k _ _ (.d x) _ _ c1 c2 (ObjRep.rep (fun z => ?_) ho (q.stay (fun _ _ _ q => q) fun x z => .inl (ov x z))) h
          rcases z with z | z
          · exact hd.sep p (List.mem_of_getElem? ep) z
          · obtain ⟨_, j, hj, z⟩ := live_cut e1 z
            exact np j hj z
        · have lv : live g s p := ⟨i, x, ep, hx⟩
          have lp : ∀ b, live ⟨g.F, g.adr.take n0 ++ [p]⟩ ⟨[], own'.map some ++ [some x]⟩ b ↔ live ⟨g.F, g.adr.take n0⟩ ⟨[], own'.map some⟩ b ∨ b = p := fun b => live_push (g := ⟨g.F, g.adr.take n0⟩) (s := ⟨[], own'.map some⟩) c1.adl
          have ov2 : ∀ b, Ov ⟨g.F, g.adr.take n0 ++ [p]⟩ ⟨[], own'.map some ++ [some x]⟩ b → Ov g s b := fun b z => z.elim .inl fun z => ((lp b).mp z).elim (fun z => ov b (.inr z)) fun z => .inr (by rw [z]; exact lv)
          have hnd : (g.adr.take n0 ++ [p]).Nodup := List.nodup_append.mpr ⟨hd.nod.sublist (List.take_sublist _ _), by simp, fun y hy z hz e => by
            simp at hz
            subst hz; subst e
            obtain ⟨j, hj⟩ := List.getElem?_of_mem hy
            have hj' : j < n0 := by
              have := (List.getElem?_eq_some_iff.mp hj).1
              rw [List.length_take] at this; omega
            rw [List.getElem?_take_of_lt hj'] at hj
            exact np j hj' hj⟩
          have em : (own' ++ [x]).map some = own'.map some ++ [some x] := by simp
          have hl : (g.adr.take n0).length = n0 := by
            have := c1.adl
            simpa [e2] using this
          refine k _ _ (.loc n0) ⟨g.F, g.adr.take n0 ++ [p]⟩ (own' ++ [x]) ?_ ?_ ⟨p, by simp [hl], rfl⟩ h
          · rw [em]
            refine ⟨rfl, fun i c h => by simp at h, fun j d b h1 h2 => ?_, by have := c1.adl; simp at this ⊢; omega, hnd, hd.fr, fun b hb => ?_, fun b hb => ?_⟩
            · by_cases hj : j < n0
              · have h1' : (own'.map some)[j]? = some (some d) := by rw [← h1]; exact (List.getElem?_append_left (by simp [e2]; exact hj)).symm
                have h2' : (g.adr.take n0)[j]? = some b := by rw [← h2]; exact (List.getElem?_append_left (by rw [hl]; exact hj)).symm
                rw [← e1, List.getElem?_take_of_lt hj] at h1'
                rw [List.getElem?_take_of_lt hj] at h2'
                exact (hd.own j d b h1' h2').stay (fun _ q => q) (fun _ _ _ q => q) fun b z => .inl (ov2 b z)
              · have hj2 : j = n0 := by
                  have := (List.getElem?_eq_some_iff.mp h2).1
                  have q : j < (g.adr.take n0 ++ [p]).length := this
                  rw [List.length_append, hl] at q; simp at q; omega
                subst hj2
                have h1' : (own'.map some ++ [some x])[j]? = some (some d) := h1
                rw [List.getElem?_append_right (by simp [e2])] at h1'
                simp [e2] at h1'
                have h2' : (g.adr.take j ++ [p])[j]? = some b := h2
                rw [List.getElem?_append_right (by omega)] at h2'
                simp [hl] at h2'
                subst h1'; subst h2'
                exact (hd.own i x p hx ep).stay (fun _ q => q) (fun _ _ _ q => q) fun b z => .inl (ov2 b z)
            · rcases List.mem_append.mp hb with hb | hb
              · exact c1.trk b hb
              · simp at hb; subst hb; exact hd.tr lv
            · rcases List.mem_append.mp hb with hb | hb
              · exact c1.sep b hb
              · simp at hb; subst hb; exact hd.sep b lv.mem
          · rw [em]
            refine ⟨c2.F, ?_, c2.keep, fun b z => ?_, c2.trk⟩
            · obtain ⟨m, e⟩ := c2.adr
              exact ⟨m ++ [p], by show g.adr.take n0 ++ [p] = _; rw [show g.adr.take n0 = g0.adr ++ m from e, List.append_assoc]⟩
            · rcases (lp b).mp z with z | z
              · exact c2.liv b z
              · exact a.liv b (by rw [z]; exact lv)
      · exact h.elim
end

/-! ### a def -/
abbrev startE (N : List Str) (args : List Val) : List (Option Val) := args.map some ++ List.replicate (N.length - args.length) none
section
variable {P : Program} {w : World} {K : PySem.W.Frag} {mg : Str → Option Value} {base : Heap}
theorem Hold.start {g : G} {args : List Val} {own : List D} {vs : List V} {H : Hp} {N : List Str} (hd : Hold K g ⟨args.map some, own.map some⟩ (vs.map some) H) : Hold K g ⟨startE N args, own.map some⟩ (L2.start N vs) H where
  len := by
    have := hd.len
    simp at this
    unfold L2.start
    simp [this]
  env := fun i c h => by
    have hl := hd.len
    simp at hl
    have hi : i < args.length := by
      rcases Nat.lt_or_ge i args.length with z | z
      · exact z
      · have h : (args.map some ++ List.replicate (N.length - args.length) none)[i]? = some (some c) := h
        rw [List.getElem?_append_right (by simp; exact z)] at h
        have := List.mem_of_getElem? h
        simp at this
    have h' : (args.map some)[i]? = some (some c) := by rw [← h]; exact (List.getElem?_append_left (by simp; exact hi)).symm
    obtain ⟨v, e, r⟩ := hd.env i c h'
    refine ⟨v, ?_, ?_⟩
    · unfold L2.start
      rw [List.getElem?_append_left (by simp; omega)]; exact e
    · cases c <;> exact r
  own := hd.own
  adl := hd.adl
  nod := hd.nod
  fr := hd.fr
  trk := hd.trk
  sep := hd.sep
theorem liftF_len {sp : Spec} {n : Nat} (len : ∀ args own Q E, sp args own Q E → args.length = n) : ∀ vs H Q E, liftF K sp vs H Q E → vs.length = n := fun vs H Q E ⟨g, args, own, Qp, Ep, hd, h, _⟩ => by
  have := hd.len
  simp at this
  rw [this]; exact len _ _ _ _ h
theorem fin_ok {g : G} {args : List Val} {own : List D} {vs : List V} {H : Hp} {N : List Str} {Qp : Val → List D → Prop} {Ep : Addr → List D → Prop} {Q : VK} (hd : Hold K g ⟨args.map some, own.map some⟩ (vs.map some) H)
    (k : ∀ v H' c g' own', Hold K g' ⟨[], own'.map some⟩ [] H' → Adv g ⟨[], own.map some⟩ H g' ⟨[], own'.map some⟩ H' → RepV K g' ⟨[], own'.map some⟩ H' v c → Qp c own' → Q v H') :
    KontS K g ⟨startE N args, own.map some⟩ H (endsF own.length Qp Ep) { nx := fun _ H' => Q .non H', rt := Q } := fun σ' H' g' s' hd' a' => by
  have h0 : g.adr.length = own.length := by simpa using hd.adl
  have a0 : Adv g ⟨[], own.map some⟩ H g' s' H' := ⟨a'.F, a'.adr, a'.keep, a'.liv, a'.trk⟩
  refine ⟨fun q => exit_ok (c := .d .non) hd' a0 h0 .non q fun v H' c g' own' h1 h2 h3 h4 => k v H' c g' own' h1 h2 h3 h4, fun q => q.elim, fun q => q.elim, fun v c r q => exit_ok hd' a0 h0 r q fun v H' c g' own' h1 h2 h3 h4 => k v H' c g' own' h1 h2 h3 h4⟩
/-- a def that lets nothing out: its body, and what that comes to -/
theorem fnP {x qual : Str} {st : Stmt} {f : Addr} {fd : FuncData} {N ps : List Str} {k : Nat} {sp : Spec} {p : TPs} (F : Fun K x qual st f fd) (S : FnScope N ps (defScope st)) (len : ∀ args own Q E, sp args own Q E → args.length = ps.length)
    (hb : ∀ (cdv : Value) (A : Around) (outer : List Env) (s : Shared) (H : Hp) (E : XK), Room k (A.deeper (envOfC qual (defScope st) s.heap.objs.size f cdv)) →
      PPss (cxOf CX0 P w K mg base N qual (defScope st) f cdv A outer s H E).nox (fun _ _ _ _ => False) (defBody st) p)
    (hp : ∀ args own Q E, sp args own Q E → p (endsF own.length Q fun _ _ => False) ⟨startE N args, own.map some⟩) : FnOk P w K mg base CX0 (k + 1) f fd ps (liftF K sp) :=
  F.ok S (liftF_len len) fun cdv A outer s H vs Q E hr ⟨g, args, own, Qp, Ep, hd, h, k1, k2⟩ =>
    ⟨_, hb cdv A outer s H E hr, g, _, _, hd.start, hp _ _ _ _ h, fin_ok hd k1, fun σ' H' g' s' C hd' a' q => by
      have q' : (match takeAll own.length s'.own with | none => False | some own' => False) := q
      split at q' <;> exact q'.elim⟩
end

/-! ### what may raise -/
abbrev TPx := S → (Val → S → Prop) → (Addr → S → Prop) → Prop
def liftX (K : PySem.W.Frag) (W : WX) (p : TPx) : TE := fun σ H Q => ∃ g s Qp Ex, Hold K g s σ H ∧ p s Qp Ex ∧ Kont K g s σ H Qp Q ∧ KontX K g s H Ex W
abbrev PPx (X : Cx) (W : WX) (e : Expr) (p : TPx) : Prop := PE X e (liftX X.K W p)
def wCallX (sp : Spec) (pa : TPa) : TPx := fun s Q Ex => pa s fun cs s1 => callW sp Ex cs s1 Q
def wDropX (p : TPx) : TPs := fun E s => p s (fun _ s1 => E.nx s1) E.ex
def wRetX (p : TPx) : TPs := fun E s => p s (fun c s1 => E.rt c s1) E.ex
def wSetX (i : Nat) (p : TPx) : TPs := fun E s => p s (fun c s1 => E.nx ⟨s1.env.set i (some c), s1.own⟩) E.ex
def wRaise (C : Addr) : TPs := fun E s => E.ex C s
section
variable {X : Cx} {W : WX} {e : Expr} {es : List Expr} {pa : TPa} {k : Nat} {f : Addr} {fd : FuncData} {ps : List Str} {sp : Spec} {x : Str} {p pos : Pos} {px : TPx}
theorem pp_exprX (he : PPx X W e px) (hs : swapsWith e none pos.line X.env = pure false := by rfl) : PPs X W (.Expr e pos) (wDropX px) :=
  PSw (ps_expr he hs) fun D σ H ⟨g, s, E, hd, hp, k, kx⟩ => ⟨g, s, _, _, hd, hp, fun v H' c g' s' hd' a' r hq => k.nx hd' a' hq, kx⟩
theorem pp_retX (he : PPx X W e px) : PPs X W (.Return (some e) pos) (wRetX px) :=
  PSw (ps_ret he) fun D σ H ⟨g, s, E, hd, hp, k, kx⟩ => ⟨g, s, _, _, hd, hp, fun v H' c g' s' hd' a' r hq => k.rt hd' a' r hq, kx⟩
theorem pps_nox {st : List Stmt} {p : TPs} (h : PPss X.nox W st p) : PPss X W st p := PSs.nox h
end
end Bx
end

section
/-! Operators and comparisons by values, over data. -/
namespace Bx
open PySem L2 PySem.Spec PyProof.Rows

theorem OpR.w {X : Cx} {f : Value → Value → Sem Value} {r r' : R2} (h : OpR X f r) (w : ∀ x y H Q, r' x y H Q → r x y H Q) : OpR X f r' := fun pins s σ H x y v u Q I rx ry q => h pins s σ H x y v u Q I rx ry (w _ _ _ _ q)

/-! ### numbers -/
/-- // by a divisor that is not nought, below 2 ^ 9000 in size -/
def CDivX (_ j : Int) : Prop := j ≠ 0 ∧ j.natAbs.log2 < 9000
theorem op_fdivX {X : Cx} : OpR X (binaryOp .FloorDiv) (rI CDivX fun i j => .int (i.fdiv j)) := opI fun _ _ _ _ _ _ _ hc q => floordiv_int hc.1 q (.inl (PyProof.noPylong_of_log2 hc.2))

section
variable {K : PySem.W.Frag}
/-- two whole numbers: C must hold of them, f is what comes -/
def bInt (C : Int → Int → Prop) (f : Int → Int → D) : B2 := fun c d s Q => match c, d with
  | .d (.int i), .d (.int j) => C i j ∧ Q (.d (f i j)) s
  | _, _ => False
def bInt0 (f : Int → Int → D) : B2 := fun c d s Q => match c, d with
  | .d (.int i), .d (.int j) => Q (.d (f i j)) s
  | _, _ => False
theorem bi_int {C : Int → Int → Prop} {f : Int → Int → D} {h : Int → Int → V} (hr : ∀ i j O H, Rep K O H (h i j) (f i j)) : BinI K (rI C h) (bInt C f) := fun g s σ H x y c d Qp Q hd rx ry hb k => by
  unfold bInt at hb
  split at hb
  · cases rx; cases ry
    exact ⟨_, _, rfl, rfl, hb.1, k _ _ (.d _) _ _ hd .refl (hr _ _ _ _) hb.2⟩
  · exact hb.elim
theorem bi_int0 {f : Int → Int → D} {h : Int → Int → V} (hr : ∀ i j O H, Rep K O H (h i j) (f i j)) : BinI K (rI0 h) (bInt0 f) := fun g s σ H x y c d Qp Q hd rx ry hb k => by
  unfold bInt0 at hb
  split at hb
  · cases rx; cases ry
    exact ⟨_, _, rfl, rfl, k _ _ (.d _) _ _ hd .refl (hr _ _ _ _) hb⟩
  · exact hb.elim
abbrev bSub : B2 := bInt0 fun i j => .int (i - j)
abbrev bFDiv : B2 := bInt CDivX fun i j => .int (i.fdiv j)
abbrev bMod : B2 := bInt (fun _ j => j ≠ 0) fun i j => .int (i.fmod j)
abbrev bPow : B2 := bInt CPow fun i j => .int (i ^ j.toNat)
theorem bi_sub : BinI K (rI0 fun i j => .int (i - j)) bSub := bi_int0 fun _ _ _ _ => .int _
theorem bi_fdiv : BinI K (rI CDivX fun i j => .int (i.fdiv j)) bFDiv := bi_int fun _ _ _ _ => .int _
theorem bi_mod : BinI K (rI (fun _ j => j ≠ 0) fun i j => .int (i.fmod j)) bMod := bi_int fun _ _ _ _ => .int _
theorem bi_pow : BinI K (rI CPow fun i j => .int (i ^ j.toNat)) bPow := bi_int fun _ _ _ _ => .int _
def uNeg : B1 := fun c s Q => match c with
  | .d (.int i) => Q (.d (.int (-i))) s
  | _ => False
theorem ui_neg : UnI K (rU fun i => .int (-i)) uNeg := fun g s σ H x c Qp Q hd rx hb k => by
  unfold uNeg at hb
  split at hb
  · cases rx
    exact ⟨_, rfl, k _ _ (.d _) _ _ hd .refl (.int _) hb⟩
  · exact hb.elim
end
section
variable {X : Cx} {a b : Expr} {p q : TP} {pos : Pos}
theorem pp_sub (ha : PP X a p) (hb : PP X b q) : PP X (.BinOp a .Sub b pos) (wBin bSub p q) := pp_op op_sub bi_sub ha hb
theorem pp_fdiv (ha : PP X a p) (hb : PP X b q) : PP X (.BinOp a .FloorDiv b pos) (wBin bFDiv p q) := pp_op op_fdivX bi_fdiv ha hb
theorem pp_mod (ha : PP X a p) (hb : PP X b q) : PP X (.BinOp a .Mod b pos) (wBin bMod p q) := pp_op op_modN bi_mod ha hb
theorem pp_pow (ha : PP X a p) (hb : PP X b q) : PP X (.BinOp a .Pow b pos) (wBin bPow p q) := pp_op op_pow bi_pow ha hb
theorem pp_neg (ha : PP X a p) : PP X (.UnaryOp .USub a pos) (wUn uNeg p) := pp_un un_neg ui_neg ha
end

/-! ### + -/
def bAdd (k : Bool) : B2 := fun c d s Q => match c, d with
  | .d (.int i), .d (.int j) => Q (.d (.int (i + j))) s
  | .d (.str x), .d (.str y) => x.length + y.length ≤ sizeLine ∧ Q (.d (.str (x ++ y))) s
  | .d (.tup xs), .d (.tup ys) => xs.length + ys.length ≤ sizeLine ∧ Q (.d (.tup (xs ++ ys))) s
  | c, d => match asLst c s, asLst d s with
    | some xs, some ys => xs.length + ys.length ≤ sizeLine ∧ newO k (.lst (xs ++ ys)) s Q
    | _, _ => False
def rAddA (K : PySem.W.Frag) : R2 := fun x y H Q => (∃ i j, x = .int i ∧ y = .int j ∧ Q (.int (i + j)) H) ∨ (∃ i j, x = .str i ∧ y = .str j ∧ i.length + j.length ≤ sizeLine ∧ Q (.str (i ++ j)) H) ∨ rCatP K x y H Q ∨ rCat x y H Q
theorem op_addA {X : Cx} : OpR X (binaryOp .Add) (rAddA X.K) := OpR.or op_add (OpR.or op_add_str (OpR.or op_catP op_cat))
theorem Reps.nil_iff {K : PySem.W.Frag} {O : Addr → Prop} {H : Hp} {xs : List V} {ds : List D} (r : Reps K O H xs ds) : xs = [] ↔ ds = [] := by
  cases r with
  | nil => simp
  | cons => simp
theorem bi_add (k : Bool) {K : PySem.W.Frag} : BinI K (rAddA K) (bAdd k) := fun g s σ H x y c d Qp Q hd rx ry hb kt => by
  unfold bAdd at hb
  split at hb
  · cases rx; cases ry
    exact .inl ⟨_, _, rfl, rfl, kt _ _ (.d _) _ _ hd .refl (.int _) hb⟩
  · cases rx; cases ry
    exact .inr (.inl ⟨_, _, rfl, rfl, hb.1, kt _ _ (.d _) _ _ hd .refl (.str _) hb.2⟩)
  · rename_i ds es
    obtain ⟨a, xs, rfl, hx, lx, r1⟩ := asTup_q (c := .d (.tup ds)) hd rx rfl
    obtain ⟨b, ys, rfl, hy, ly, r2⟩ := asTup_q (c := .d (.tup es)) hd ry rfl
    have hl : xs.length + ys.length ≤ sizeLine := by rw [r1.length, r2.length]; exact hb.1
    refine .inr (.inr (.inl ⟨a, b, xs, ys, rfl, rfl, hx, hy, hl, fun e => ?_, fun e => ?_, ?_⟩))
    · have e' := r1.nil_iff.mp e
      subst e'
      exact kt _ _ (.d (.tup es)) _ _ hd .refl ry hb.2
    · have e' := r2.nil_iff.mp e
      subst e'
      have q := hb.2
      rw [List.append_nil] at q
      exact kt _ _ (.d (.tup ds)) _ _ hd .refl rx q
    · exact new_t hd kt (by rw [List.length_append]; exact hl) (r1.append r2) hb.2
  · split at hb
    · rename_i e1 e2
      obtain ⟨a, xs, rfl, hx, lx, r1⟩ := asLst_rd hd rx e1
      obtain ⟨b, ys, rfl, hy, ly, r2⟩ := asLst_rd hd ry e2
      have hl : xs.length + ys.length ≤ sizeLine := by rw [r1.length, r2.length]; exact hb.1
      exact .inr (.inr (.inr ⟨a, b, xs, ys, rfl, rfl, hx, hy, hl, new_o k (o := .lst (xs ++ ys)) (d := .lst _) hd kt ⟨by rw [List.length_append]; exact hl, r1.append r2⟩ hb.2⟩))
    · exact hb.elim
theorem pp_add {X : Cx} {a b : Expr} {p q : TP} {pos : Pos} (k : Bool) (ha : PP X a p) (hb : PP X b q) : PP X (.BinOp a .Add b pos) (wBin (bAdd k) p q) := pp_op op_addA (bi_add k) ha hb

/-! ### * -/
theorem Reps.rep {K : PySem.W.Frag} {O : Addr → Prop} {H : Hp} {xs : List V} {ds : List D} (r : Reps K O H xs ds) : ∀ k : Nat, Reps K O H (List.replicate k xs).flatten (List.replicate k ds).flatten
  | 0 => .nil
  | k + 1 => by
    rw [List.replicate_succ, List.replicate_succ, List.flatten_cons, List.flatten_cons]
    exact r.append (Reps.rep r k)
def bMul (k : Bool) : B2 := fun c d s Q => match c, d with
  | .d (.int i), .d (.int j) => CMulW i j ∧ Q (.d (.int (i * j))) s
  | .d (.tup xs), .d (.int n) => (-1000 ≤ n ∧ n ≤ 1000 ∧ xs.length ≤ 1000) ∧ Q (.d (.tup (List.replicate n.toNat xs).flatten)) s
  | c, .d (.int n) => match asLst c s with
    | some xs => (n ≤ 1000 ∧ -1000 ≤ n ∧ xs.length ≤ 1000) ∧ newO k (.lst (List.replicate n.toNat xs).flatten) s Q
    | none => False
  | _, _ => False
def rMulA (K : PySem.W.Frag) : R2 := fun x y H Q => (∃ i j, x = .int i ∧ y = .int j ∧ CMulW i j ∧ Q (.int (i * j)) H) ∨ rRepP K x y H Q ∨ rRep x y H Q
theorem op_mulA {X : Cx} : OpR X (binaryOp .Mult) (rMulA X.K) := OpR.or op_mulW (OpR.or op_repP op_rep)
theorem bi_mul (k : Bool) {K : PySem.W.Frag} : BinI K (rMulA K) (bMul k) := fun g s σ H x y c d Qp Q hd rx ry hb kt => by
  unfold bMul at hb
  split at hb
  · cases rx; cases ry
    exact .inl ⟨_, _, rfl, rfl, hb.1, kt _ _ (.d _) _ _ hd .refl (.int _) hb.2⟩
  · rename_i ds n
    obtain ⟨a, xs, rfl, hx, lx, r1⟩ := asTup_q (c := .d (.tup ds)) hd rx rfl
    cases ry
    obtain ⟨⟨h1, h2, h3⟩, q⟩ := hb
    have hl := r1.length
    have hm : n.toNat * xs.length ≤ 1000 * 1000 := Nat.mul_le_mul (by omega) (by omega)
    refine .inr (.inl ⟨a, n, xs, rfl, rfl, hx, h1, h2, by omega, fun e => ?_, new_t hd kt ?_ (r1.rep _) q⟩)
    · have e' : (List.replicate n.toNat ds).flatten = ds := by
        rcases e with e | e
        · rw [r1.nil_iff.mp e]; simp
        · subst e; simp
      rw [e'] at q
      exact kt _ _ (.d (.tup ds)) _ _ hd .refl rx q
    · rw [PyProof.Rows.lm_len_rep_flat, sizeLine_eq]; omega
  · cases ry
    rename_i n _ _
    split at hb
    · rename_i ds e1
      obtain ⟨a, xs, rfl, hx, lx, r1⟩ := asLst_rd hd rx e1
      obtain ⟨⟨h1, h2, h3⟩, q⟩ := hb
      have hl := r1.length
      have hm : n.toNat * xs.length ≤ 1000 * 1000 := Nat.mul_le_mul (by omega) (by omega)
      refine .inr (.inr ⟨a, n, xs, rfl, rfl, hx, by omega, by omega, ?_, new_o k (o := .lst (List.replicate n.toNat xs).flatten) (d := .lst _) hd kt ⟨?_, r1.rep _⟩ q⟩)
      · rw [Nat.mul_comm, sizeLine_eq]; omega
      · rw [PyProof.Rows.lm_len_rep_flat, sizeLine_eq]; omega
    · exact hb.elim
  · exact hb.elim
theorem pp_mul {X : Cx} {a b : Expr} {p q : TP} {pos : Pos} (k : Bool) (ha : PP X a p) (hb : PP X b q) : PP X (.BinOp a .Mult b pos) (wBin (bMul k) p q) := pp_op op_mulA (bi_mul k) ha hb

/-! ### ==, != -/
mutual
def deq : D → D → Bool
  | .non, .non => true
  | .bl a, .bl b => a == b
  | .bl a, .int j => (if a then 1 else 0) == j
  | .int i, .bl b => i == (if b then 1 else 0)
  | .int i, .int j => i == j
  | .str x, .str y => x == y
  | .tup xs, .tup ys => deqs xs ys
  | .lst xs, .lst ys => deqs xs ys
  | _, _ => false
def deqs : List D → List D → Bool
  | [], [] => true
  | x :: xs, y :: ys => deq x y && deqs xs ys
  | _, _ => false
end
mutual
def toPy : D → PyData
  | .non => .none
  | .bl b => .bool b
  | .int i => .int i
  | .str x => .str x
  | .tup xs => .tuple (toPys xs)
  | .lst xs => .list (toPys xs)
  | .dct _ => .none
  | .raw _ => .none
  | .scr _ => .none
def toPys : List D → List PyData
  | [] => []
  | x :: xs => toPy x :: toPys xs
end
mutual
/-- data without dicts and other things, the texts' signs in their bounds, at most n deep -/
def plain : Nat → D → Bool
  | _, .non => true
  | _, .bl _ => true
  | _, .int _ => true
  | _, .str x => PyData.strOk x
  | n, .tup xs => match n with
    | 0 => false
    | n + 1 => plains n xs
  | n, .lst xs => match n with
    | 0 => false
    | n + 1 => plains n xs
  | _, _ => false
def plains : Nat → List D → Bool
  | _, [] => true
  | n, x :: xs => plain n x && plains n xs
end
mutual
theorem plain_py : ∀ (x : D) (n : Nat), plain n x = true → (toPy x).canLay0 = true ∧ (toPy x).depth ≤ n
  | .non, n, _ => ⟨rfl, by simp [toPy, PyData.depth]⟩
  | .bl _, n, _ => ⟨by simp [toPy, PyData.canLay0], by simp [toPy, PyData.depth]⟩
  | .int _, n, _ => ⟨by simp [toPy, PyData.canLay0], by simp [toPy, PyData.depth]⟩
  | .str x, n, h => ⟨by simpa [toPy, PyData.canLay0, plain] using h, by simp [toPy, PyData.depth]⟩
  | .tup xs, n, h => by
    cases n with
    | zero => simp [plain] at h
    | succ n =>
      obtain ⟨h1, h2⟩ := plains_py xs n (by simpa [plain] using h)
      exact ⟨by simpa [toPy, PyData.canLay0] using h1, by simp only [toPy, PyData.depth]; omega⟩
  | .lst xs, n, h => by
    cases n with
    | zero => simp [plain] at h
    | succ n =>
      obtain ⟨h1, h2⟩ := plains_py xs n (by simpa [plain] using h)
      exact ⟨by simpa [toPy, PyData.canLay0] using h1, by simp only [toPy, PyData.depth]; omega⟩
  | .dct _, n, h => by simp [plain] at h
  | .raw _, n, h => by simp [plain] at h
  | .scr _, n, h => by simp [plain] at h
theorem plains_py : ∀ (xs : List D) (n : Nat), plains n xs = true → PyData.canLayAll0 (toPys xs) = true ∧ PyData.depthAll (toPys xs) ≤ n
  | [], n, _ => ⟨rfl, by simp [toPys, PyData.depthAll]⟩
  | x :: xs, n, h => by
    have h' : plain n x = true ∧ plains n xs = true := by simpa [plains] using h
    obtain ⟨a1, a2⟩ := plain_py x n h'.1
    obtain ⟨b1, b2⟩ := plains_py xs n h'.2
    exact ⟨by simp [toPys, PyData.canLayAll0, a1, b1], by simp only [toPys, PyData.depthAll]; omega⟩
end
theorem plain_shaped {x : D} (h : plain 64 x = true) : SeqAt.shaped (toPy x) = true := by
  obtain ⟨h1, h2⟩ := plain_py x 64 h
  unfold SeqAt.shaped
  rw [h1, decide_eq_true h2]; rfl
mutual
theorem eqv_deq : ∀ (x y : D) (n m : Nat), plain n x = true → plain m y = true → PyData.eqv (toPy x) (toPy y) = deq x y
  | .non, y, n, m, _, h => by cases y <;> simp [plain] at h <;> simp [toPy, PyData.eqv, deq]
  | .bl _, y, n, m, _, h => by cases y <;> simp [plain] at h <;> simp [toPy, PyData.eqv, deq]
  | .int _, y, n, m, _, h => by cases y <;> simp [plain] at h <;> simp [toPy, PyData.eqv, deq]
  | .str _, y, n, m, _, h => by cases y <;> simp [plain] at h <;> simp [toPy, PyData.eqv, deq]
  | .tup xs, y, n, m, h1, h => by
    cases y with
    | tup ys =>
      cases n with
      | zero => simp [plain] at h1
      | succ n =>
        cases m with
        | zero => simp [plain] at h
        | succ m => simp only [toPy, PyData.eqv, deq]; exact eqv_deqs xs ys n m (by simpa [plain] using h1) (by simpa [plain] using h)
    | _ => simp [plain] at h <;> simp [toPy, PyData.eqv, deq]
  | .lst xs, y, n, m, h1, h => by
    cases y with
    | lst ys =>
      cases n with
      | zero => simp [plain] at h1
      | succ n =>
        cases m with
        | zero => simp [plain] at h
        | succ m => simp only [toPy, PyData.eqv, deq]; exact eqv_deqs xs ys n m (by simpa [plain] using h1) (by simpa [plain] using h)
    | _ => simp [plain] at h <;> simp [toPy, PyData.eqv, deq]
  | .dct _, y, n, m, h1, h => by simp [plain] at h1
  | .raw _, y, n, m, h1, h => by simp [plain] at h1
  | .scr _, y, n, m, h1, h => by simp [plain] at h1
theorem eqv_deqs : ∀ (xs ys : List D) (n m : Nat), plains n xs = true → plains m ys = true → PyData.eqvAll (toPys xs) (toPys ys) = deqs xs ys
  | [], [], n, m, _, _ => by simp [toPys, PyData.eqvAll, deqs]
  | [], y :: ys, n, m, _, _ => by simp [toPys, PyData.eqvAll, deqs]
  | x :: xs, [], n, m, _, _ => by simp [toPys, PyData.eqvAll, deqs]
  | x :: xs, y :: ys, n, m, h1, h2 => by
    have h1' : plain n x = true ∧ plains n xs = true := by simpa [plains] using h1
    have h2' : plain m y = true ∧ plains m ys = true := by simpa [plains] using h2
    simp only [toPys, PyData.eqvAll, deqs]
    rw [eqv_deq x y n m h1'.1 h2'.1, eqv_deqs xs ys n m h1'.2 h2'.2]
end
mutual
theorem rep_dp {K : PySem.W.Frag} {O : Addr → Prop} {H : Hp} : ∀ {v : V} {x : D} {n : Nat}, Rep K O H v x → plain n x = true → Dp K H v (toPy x)
  | _, _, _, .non, _ => by unfold toPy; exact .non
  | _, _, _, .bl b, _ => by unfold toPy; exact .bl b
  | _, _, _, .int i, _ => by unfold toPy; exact .int i
  | _, _, _, .str x, _ => by unfold toPy; exact .str x
  | _, _, _, .raw v, h => by simp [plain] at h
  | _, _, n, .tup a xs ds hO h1 hl r, h => by
    cases n with
    | zero => simp [plain] at h
    | succ n => unfold toPy; obtain ⟨o, _, h1⟩ := h1; exact .tup (.inl (.inr ⟨o, h1⟩)) (reps_dp r (by simpa [plain] using h))
  | _, _, n, .tupK a xs ds o its m hk hc hq hd hz hv r, h => by
    cases n with
    | zero => simp [plain] at h
    | succ n => unfold toPy; exact .tup (.inr ⟨o, its, m, hk, hc, hd, hz, hv⟩) (reps_dp r (by simpa [plain] using h))
  | _, _, n, .lst a xs ds hO h1 hl r, h => by
    cases n with
    | zero => simp [plain] at h
    | succ n => unfold toPy; exact .lst (.of h1) (reps_dp r (by simpa [plain] using h))
  | _, _, _, .dct _ _ _ _ _ _ _, h => by simp [plain] at h
  | _, _, _, .scr _ _ _ _ _ _ _, h => by simp [plain] at h
  | _, _, _, .scrK _ _ _ _ _ _ _ _ _ _ _ _ _, h => by simp [plain] at h
theorem reps_dp {K : PySem.W.Frag} {O : Addr → Prop} {H : Hp} : ∀ {vs : List V} {xs : List D} {n : Nat}, Reps K O H vs xs → plains n xs = true → DpAll K H vs (toPys xs)
  | _, _, _, .nil, _ => by unfold toPys; exact .nil
  | _, _, n, .cons v vs d ds r t, h => by
    have h' : plain n d = true ∧ plains n ds = true := by simpa [plains] using h
    unfold toPys
    exact .cons (rep_dp r h'.1) (reps_dp t h'.2)
end
/-- the data behind a value -/
def asData (c : Val) (s : S) : Option D := match c with
  | .d x => some x
  | .loc i => match nth s.own i with
    | some (some x) => some x
    | _ => none
theorem asData_dp {K : PySem.W.Frag} {g : G} {s : S} {σ : L2.St} {H : Hp} {v : V} {c : Val} {x : D} {n : Nat} (hd : Hold K g s σ H) (r : RepV K g s H v c) (e : asData c s = some x) (h : plain n x = true) : Dp K H v (toPy x) := by
  unfold asData at e
  split at e
  · cases e; exact rep_dp r h
  · split at e
    · rename_i hn
      cases e
      rw [nth_eq] at hn
      obtain ⟨a, h1, rfl⟩ := r
      have q := hd.own _ _ _ hn h1
      cases x with
      | lst ds =>
        obtain ⟨xs, hH, hl, rr⟩ := q
        cases n with
        | zero => simp [plain] at h
        | succ n => unfold toPy; exact .lst (.of hH) (reps_dp rr (by simpa [plain] using h))
      | dct _ => simp [plain] at h
      | _ => exact q.elim
    · cases e
def cEqB (f : Bool → Bool) : B2 := fun c d s Q => match c, d with
  | .d (.int i), .d (.int j) => Q (.d (.bl (f (decide (i = j))))) s
  | .d (.str x), .d (.str y) => Q (.d (.bl (f (decide (x = y))))) s
  | c, d => match asData c s, asData d s with
    | some x, some y => (plain 64 x = true ∧ plain 64 y = true) ∧ Q (.d (.bl (f (deq x y)))) s
    | _, _ => False
abbrev cEq : B2 := cEqB id
abbrev cNe : B2 := cEqB not
def rEqA (K : PySem.W.Frag) : R2 := fun x y H Q => rEq x y H Q ∨ rEqD K x y H Q
def rNeA (K : PySem.W.Frag) : R2 := fun x y H Q => rNe x y H Q ∨ rNeD K x y H Q
theorem ci_eq {K : PySem.W.Frag} : BinI K (rEqA K) cEq := fun g s σ H x y c d Qp Q hd rx ry hb kt => by
  unfold cEq cEqB at hb
  split at hb
  · rename_i i j
    cases rx; cases ry
    refine .inl ⟨rfl, kt _ _ (.d _) _ _ hd .refl (.bl _) ?_⟩
    rw [show (decide (V.int i = V.int j)) = decide (i = j) from by simp]; exact hb
  · rename_i i j
    cases rx; cases ry
    refine .inl ⟨rfl, kt _ _ (.d _) _ _ hd .refl (.bl _) ?_⟩
    rw [show (decide (V.str i = V.str j)) = decide (i = j) from by simp]; exact hb
  · split at hb
    · rename_i e1 e2
      obtain ⟨⟨p1, p2⟩, q⟩ := hb
      refine .inr ⟨_, _, asData_dp hd rx e1 p1, asData_dp hd ry e2 p2, plain_shaped p1, plain_shaped p2, kt _ _ (.d _) _ _ hd .refl (.bl _) ?_⟩
      rw [eqv_deq _ _ 64 64 p1 p2]; exact q
    · exact hb.elim
theorem ci_ne {K : PySem.W.Frag} : BinI K (rNeA K) cNe := fun g s σ H x y c d Qp Q hd rx ry hb kt => by
  unfold cNe cEqB at hb
  split at hb
  · rename_i i j
    cases rx; cases ry
    refine .inl ⟨rfl, kt _ _ (.d _) _ _ hd .refl (.bl _) ?_⟩
    rw [show (decide (V.int i = V.int j)) = decide (i = j) from by simp]; exact hb
  · rename_i i j
    cases rx; cases ry
    refine .inl ⟨rfl, kt _ _ (.d _) _ _ hd .refl (.bl _) ?_⟩
    rw [show (decide (V.str i = V.str j)) = decide (i = j) from by simp]; exact hb
  · split at hb
    · rename_i e1 e2
      obtain ⟨⟨p1, p2⟩, q⟩ := hb
      refine .inr ⟨_, _, asData_dp hd rx e1 p1, asData_dp hd ry e2 p2, plain_shaped p1, plain_shaped p2, kt _ _ (.d _) _ _ hd .refl (.bl _) ?_⟩
      rw [eqv_deq _ _ 64 64 p1 p2]; exact q
    · exact hb.elim
section
variable {X : Cx} {a b c : Expr} {p q r : TP} {pos : Pos}
theorem pp_eq {k : Nat} (hr : Room k X.A) (ha : PP X a p) (hb : PP X b q) : PP X (.Compare a [.Eq] [b] pos) (wBin cEq p q) := pp_cmp (op_eq.or (op_eqD hr.units)) ci_eq ha hb (nomark _)
theorem pp_ne {k : Nat} (hr : Room k X.A) (ha : PP X a p) (hb : PP X b q) : PP X (.Compare a [.NotEq] [b] pos) (wBin cNe p q) := pp_cmp (op_ne.or (op_neD hr.units)) ci_ne ha hb (nomark _)
theorem ppt_eq {k : Nat} (hr : Room k X.A) (ha : PP X a p) (hb : PP X b q) : PPt X (.Compare a [.Eq] [b] pos) (wTest (wBin cEq p q)) := ppt_cmp (op_eq.or (op_eqD hr.units)) ci_eq ha hb (nomark _)
theorem ppt_ne {k : Nat} (hr : Room k X.A) (ha : PP X a p) (hb : PP X b q) : PPt X (.Compare a [.NotEq] [b] pos) (wTest (wBin cNe p q)) := ppt_cmp (op_ne.or (op_neD hr.units)) ci_ne ha hb (nomark _)
end

/-! ### <, <=, >, >= -/
def cLt : B2 := fun c d s Q => match c, d with
  | .d (.int i), .d (.int j) => Q (.d (.bl (decide (i < j)))) s
  | .d (.str x), .d (.str y) => Q (.d (.bl (decide (x.cps.toList < y.cps.toList)))) s
  | _, _ => False
abbrev cLe : B2 := bInt0 fun i j => .bl (decide (i ≤ j))
abbrev cGt : B2 := bInt0 fun i j => .bl (decide (j < i))
abbrev cGe : B2 := bInt0 fun i j => .bl (decide (j ≤ i))
def rLtA : R2 := fun x y H Q => (∃ i j, x = .int i ∧ y = .int j ∧ Q (.bl (decide (i < j))) H) ∨ (∃ i j, x = .str i ∧ y = .str j ∧ Q (.bl (decide (i.cps.toList < j.cps.toList))) H)
theorem ci_lt {K : PySem.W.Frag} : BinI K rLtA cLt := fun g s σ H x y c d Qp Q hd rx ry hb kt => by
  unfold cLt at hb
  split at hb
  · cases rx; cases ry
    exact .inl ⟨_, _, rfl, rfl, kt _ _ (.d _) _ _ hd .refl (.bl _) hb⟩
  · cases rx; cases ry
    exact .inr ⟨_, _, rfl, rfl, kt _ _ (.d _) _ _ hd .refl (.bl _) hb⟩
  · exact hb.elim
section
variable {X : Cx} {a b c : Expr} {p q r : TP} {pos : Pos}
theorem op_ltA : OpR X (compareOp .Lt) rLtA := op_lt.or op_lt_str
theorem pp_lt (ha : PP X a p) (hb : PP X b q) : PP X (.Compare a [.Lt] [b] pos) (wBin cLt p q) := pp_cmp op_ltA ci_lt ha hb (nomark _)
theorem ppt_lt (ha : PP X a p) (hb : PP X b q) : PPt X (.Compare a [.Lt] [b] pos) (wTest (wBin cLt p q)) := ppt_cmp op_ltA ci_lt ha hb (nomark _)
theorem pp_le (ha : PP X a p) (hb : PP X b q) : PP X (.Compare a [.LtE] [b] pos) (wBin cLe p q) := pp_cmp op_le (bi_int0 fun _ _ _ _ => .bl _) ha hb (nomark _)
theorem ppt_le (ha : PP X a p) (hb : PP X b q) : PPt X (.Compare a [.LtE] [b] pos) (wTest (wBin cLe p q)) := ppt_cmp op_le (bi_int0 fun _ _ _ _ => .bl _) ha hb (nomark _)
theorem pp_gt (ha : PP X a p) (hb : PP X b q) : PP X (.Compare a [.Gt] [b] pos) (wBin cGt p q) := pp_cmp op_gt (bi_int0 fun _ _ _ _ => .bl _) ha hb (nomark _)
theorem ppt_gt (ha : PP X a p) (hb : PP X b q) : PPt X (.Compare a [.Gt] [b] pos) (wTest (wBin cGt p q)) := ppt_cmp op_gt (bi_int0 fun _ _ _ _ => .bl _) ha hb (nomark _)
theorem pp_ge (ha : PP X a p) (hb : PP X b q) : PP X (.Compare a [.GtE] [b] pos) (wBin cGe p q) := pp_cmp op_ge (bi_int0 fun _ _ _ _ => .bl _) ha hb (nomark _)
theorem ppt_ge (ha : PP X a p) (hb : PP X b q) : PPt X (.Compare a [.GtE] [b] pos) (wTest (wBin cGe p q)) := ppt_cmp op_ge (bi_int0 fun _ _ _ _ => .bl _) ha hb (nomark _)
end
/-- a <= b <= c of whole numbers -/
def wChain (p q r : TP) : TP := fun s Q => p s fun c s1 => q s1 fun d s2 => match c, d with
  | .d (.int i), .d (.int j) => match decide (i ≤ j) with
    | true => r s2 fun e s3 => match e with
      | .d (.int m) => Q (.d (.bl (decide (j ≤ m)))) s3
      | _ => False
    | false => Q (.d (.bl false)) s2
  | _, _ => False
theorem lift_chain {K : PySem.W.Frag} {p q r : TP} : ∀ σ H Q, lift K (wChain p q r) σ H Q → tChain (rI0 fun i j => .bl (decide (i ≤ j))) (rI0 fun i j => .bl (decide (i ≤ j))) (lift K p) (lift K q) (lift K r) σ H Q := fun σ H Q ⟨g, s, Qp, hd, hp, k⟩ =>
  ⟨g, s, _, hd, hp, fun v1 H1 c1 g1 s1 hd1 a1 r1 hq => ⟨g1, s1, _, hd1, hq, fun v2 H2 c2 g2 s2 hd2 a2 r2 hb => by
    split at hb
    · rename_i i j
      cases r1; cases r2
      refine ⟨i, j, rfl, rfl, _, rfl, ?_⟩
      split at hb
      · rename_i hc
        rw [hc]
        refine iteT ⟨g2, s2, _, hd2, hb, fun v3 H3 c3 g3 s3 hd3 a3 r3 hb => ?_⟩
        split at hb
        · rename_i m
          cases r3
          exact ⟨j, m, rfl, rfl, k _ _ (.d _) _ _ hd3 (a1.trans (a2.trans a3)) (.bl _) hb⟩
        · exact hb.elim
      · rename_i hc
        rw [hc]
        exact iteF (k _ _ (.d _) _ _ hd2 (a1.trans a2) (.bl _) hb)
    · exact hb.elim⟩⟩
section
variable {X : Cx} {a b c : Expr} {p q r : TP} {pos : Pos}
theorem pp_chain (ha : PP X a p) (hb : PP X b q) (hc : PP X c r) (hm : lastMarks [.LtE, .LtE] [b, c] = false := by with_unfolding_all rfl) : PP X (.Compare a [.LtE, .LtE] [b, c] pos) (wChain p q r) := PEw (pe_chain op_le op_le ha hb hc hm) lift_chain
theorem ppt_chain (ha : PP X a p) (hb : PP X b q) (hc : PP X c r) (hm : lastMarks [.LtE, .LtE] [b, c] = false := by with_unfolding_all rfl) : PPt X (.Compare a [.LtE, .LtE] [b, c] pos) (wTest (wChain p q r)) :=
  PTw (pt_chain op_le op_le ha hb hc hm) fun σ H Q ⟨g, s, Qp, hd, hp, k⟩ => lift_chain σ H _ ⟨g, s, _, hd, hp, fun v H' c g' s' hd' a' r hq => by
    split at hq
    · cases r
      exact ⟨_, rfl, k _ _ _ _ hd' a' hq⟩
    · exact hq.elim⟩
end

/-! ### in, not in; is, is not -/
/-- a text among texts; a key of a dict; a sign of a text -/
def memS (x : Str) : List D → Option Bool
  | [] => some false
  | .str y :: ys => match memS x ys with
    | some b => some (decide (y = x) || b)
    | none => none
  | _ => none
def inStr (x z : Str) : Bool := !(Builtin.Str.occurrences z x 0 z.length 1).isEmpty
def look (k : Key) : List (Key × D) → Option D
  | [] => none
  | (j, d) :: r => if j = k then some d else look k r
def cInB (f : Bool → Bool) : B2 := fun c d s Q => match c with
  | .d (.str x) => match d with
    | .d (.str z) => Q (.d (.bl (f (inStr x z)))) s
    | d => match asSeq d s with
      | some ys => match memS x ys with
        | some b => Q (.d (.bl (f b))) s
        | none => False
      | none => False
  | _ => False
theorem memS_in {K : PySem.W.Frag} {O : Addr → Prop} {H : Hp} {x : Str} : ∀ {xs : List V} {ds : List D} {b : Bool}, Reps K O H xs ds → memS x ds = some b → xs.all flatV = true ∧ inV (.str x) xs = b
  | _, [], b, .nil, h => by cases h; exact ⟨rfl, rfl⟩
  | _, .str y :: ys, b, .cons v vs _ _ r t, h => by
    unfold memS at h
    split at h
    · rename_i b' e
      cases h
      cases r
      obtain ⟨h1, h2⟩ := memS_in t e
      refine ⟨by rw [List.all_cons]; exact Bool.and_eq_true_iff.mpr ⟨rfl, h1⟩, ?_⟩
      unfold inV at h2 ⊢
      rw [List.any_cons, h2]
      simp only [eqV]
      rw [Bool.beq_eq_decide_eq]
    · cases h
def rInA (K : PySem.W.Frag) : R2 := fun x y H Q => (∃ i j, x = .str i ∧ y = .str j ∧ Q (.bl (!(Builtin.Str.occurrences j i 0 j.length 1).isEmpty)) H) ∨ rIn K false x y H Q
def rNotInA (K : PySem.W.Frag) : R2 := fun x y H Q => (∃ i j, x = .str i ∧ y = .str j ∧ Q (.bl (!(!(Builtin.Str.occurrences j i 0 j.length 1).isEmpty))) H) ∨ rIn K true x y H Q
theorem ci_in {K : PySem.W.Frag} : BinI K (rInA K) (cInB id) := fun g s σ H x y c d Qp Q hd rx ry hb kt => by
  unfold cInB at hb
  split at hb
  · split at hb
    · cases rx; cases ry
      exact .inl ⟨_, _, rfl, rfl, kt _ _ (.d _) _ _ hd .refl (.bl _) hb⟩
    · cases rx
      split at hb
      · rename_i e
        obtain ⟨a, xs, rfl, hq, hl, r⟩ := asSeq_q hd ry e
        split at hb
        · rename_i e2
          obtain ⟨h1, h2⟩ := memS_in r e2
          exact .inr ⟨a, xs, rfl, hq, rfl, h1, kt _ _ (.d _) _ _ hd .refl (.bl _) (by rw [if_neg Bool.false_ne_true, h2]; exact hb)⟩
        · exact hb.elim
      · exact hb.elim
  · exact hb.elim
theorem ci_notIn {K : PySem.W.Frag} : BinI K (rNotInA K) (cInB not) := fun g s σ H x y c d Qp Q hd rx ry hb kt => by
  unfold cInB at hb
  split at hb
  · split at hb
    · cases rx; cases ry
      exact .inl ⟨_, _, rfl, rfl, kt _ _ (.d _) _ _ hd .refl (.bl _) hb⟩
    · cases rx
      split at hb
      · rename_i e
        obtain ⟨a, xs, rfl, hq, hl, r⟩ := asSeq_q hd ry e
        split at hb
        · rename_i e2
          obtain ⟨h1, h2⟩ := memS_in r e2
          exact .inr ⟨a, xs, rfl, hq, rfl, h1, kt _ _ (.d _) _ _ hd .refl (.bl _) (by rw [if_pos rfl, h2]; exact hb)⟩
        · exact hb.elim
      · exact hb.elim
  · exact hb.elim
section
variable {X : Cx} {a b : Expr} {p q : TP} {pos : Pos}
theorem pp_in (ha : PP X a p) (hb : PP X b q) (hm : behindInMarks .In b = false := by rfl) : PP X (.Compare a [.In] [b] pos) (wBin (cInB id) p q) := pp_cmp (op_in_str.or op_in_seq) ci_in ha hb hm
theorem ppt_in (ha : PP X a p) (hb : PP X b q) (hm : behindInMarks .In b = false := by rfl) : PPt X (.Compare a [.In] [b] pos) (wTest (wBin (cInB id) p q)) := ppt_cmp (op_in_str.or op_in_seq) ci_in ha hb hm
theorem pp_notIn (ha : PP X a p) (hb : PP X b q) (hm : behindInMarks .NotIn b = false := by rfl) : PP X (.Compare a [.NotIn] [b] pos) (wBin (cInB not) p q) := pp_cmp (op_notin_str.or op_notIn_seq) ci_notIn ha hb hm
theorem ppt_notIn (ha : PP X a p) (hb : PP X b q) (hm : behindInMarks .NotIn b = false := by rfl) : PPt X (.Compare a [.NotIn] [b] pos) (wTest (wBin (cInB not) p q)) := ppt_cmp (op_notin_str.or op_notIn_seq) ci_notIn ha hb hm
end
/-- is None -/
def isNon : Val → Option Bool
  | .d .non => some true
  | .d (.raw _) => none
  | _ => some false
def cIsN (f : Bool → Bool) : B2 := fun c d s Q => match d, isNon c with
  | .d .non, some b => Q (.d (.bl (f b))) s
  | _, _ => False
theorem isNon_ok {K : PySem.W.Frag} {g : G} {s : S} {H : Hp} {v : V} {c : Val} {b : Bool} (r : RepV K g s H v c) (e : isNon c = some b) : decide (v = V.non) = b := by
  unfold isNon at e
  split at e
  · cases e; cases r; rfl
  · cases e
  · cases e
    refine decide_eq_false fun z => ?_
    subst z
    cases c with
    | d x => cases r with
      | non => rename_i h _; exact h rfl
      | raw _ => rename_i h; exact h _ rfl
    | loc i => obtain ⟨a, _, z⟩ := r; cases z
theorem ci_isN {K : PySem.W.Frag} : BinI K (fun x y H Q => y = .non ∧ Q (.bl (decide (x = .non))) H) (cIsN id) := fun g s σ H x y c d Qp Q hd rx ry hb kt => by
  unfold cIsN at hb
  split at hb
  · rename_i e
    cases ry
    exact ⟨rfl, by rw [isNon_ok rx e]; exact kt _ _ (.d _) _ _ hd .refl (.bl _) hb⟩
  · exact hb.elim
theorem ci_notN {K : PySem.W.Frag} : BinI K (fun x y H Q => y = .non ∧ Q (.bl (!decide (x = .non))) H) (cIsN not) := fun g s σ H x y c d Qp Q hd rx ry hb kt => by
  unfold cIsN at hb
  split at hb
  · rename_i e
    cases ry
    exact ⟨rfl, by rw [isNon_ok rx e]; exact kt _ _ (.d _) _ _ hd .refl (.bl _) hb⟩
  · exact hb.elim
def cIsB (f : Bool → Bool) : B2 := fun c d s Q => match c, d with
  | .d (.bl a), .d (.bl b) => Q (.d (.bl (f (decide (a = b))))) s
  | _, _ => False
theorem ci_notB {K : PySem.W.Frag} : BinI K rNotB (cIsB not) := fun g s σ H x y c d Qp Q hd rx ry hb kt => by
  unfold cIsB at hb
  split at hb
  · cases rx; cases ry
    exact ⟨_, _, rfl, rfl, kt _ _ (.d _) _ _ hd .refl (.bl _) hb⟩
  · exact hb.elim
section
variable {X : Cx} {a b : Expr} {p q : TP} {pos : Pos}
theorem pp_isN (ha : PP X a p) (hb : PP X b q) : PP X (.Compare a [.Is] [b] pos) (wBin (cIsN id) p q) := pp_cmp op_isN ci_isN ha hb (nomark _)
theorem ppt_isN (ha : PP X a p) (hb : PP X b q) : PPt X (.Compare a [.Is] [b] pos) (wTest (wBin (cIsN id) p q)) := ppt_cmp op_isN ci_isN ha hb (nomark _)
theorem pp_notN (ha : PP X a p) (hb : PP X b q) : PP X (.Compare a [.IsNot] [b] pos) (wBin (cIsN not) p q) := pp_cmp op_notN ci_notN ha hb (nomark _)
theorem ppt_notN (ha : PP X a p) (hb : PP X b q) : PPt X (.Compare a [.IsNot] [b] pos) (wTest (wBin (cIsN not) p q)) := ppt_cmp op_notN ci_notN ha hb (nomark _)
theorem ppt_notB (ha : PP X a p) (hb : PP X b q) : PPt X (.Compare a [.IsNot] [b] pos) (wTest (wBin (cIsB not) p q)) := ppt_cmp op_notBl ci_notB ha hb (nomark _)
end
end Bx
end

section
/-! Subscripts, slices, built-ins, methods of lists, dicts, over data. -/
namespace Bx
open PySem L2 PySem.Spec PyProof.Rows

/-! ### subscripts -/
/-- the place that an index names -/
def ixD (n : Nat) : Int → Option Nat
  | .ofNat k => match Nat.blt k n with
    | true => some k
    | false => none
  | .negSucc k => match Nat.blt k n with
    | true => some (n - 1 - k)
    | false => none
theorem ixD_eq (n : Nat) (i : Int) : ixD n i = ixN n i := by
  have hb : ∀ k, Nat.blt k n = decide (k < n) := fun k => by
    rw [Bool.eq_iff_iff, decide_eq_true_iff]
    unfold Nat.blt
    exact ⟨Nat.le_of_ble_eq_true, Nat.ble_eq_true_of_le⟩
  unfold ixD ixN
  cases i with
  | ofNat k =>
    simp only [Int.ofNat_eq_natCast]
    rw [if_pos (by omega), hb]
    by_cases h : k < n
    · rw [decide_eq_true h, if_pos (by omega)]; simp
    · rw [decide_eq_false h, if_neg (by omega)]
  | negSucc k =>
    dsimp only
    rw [if_neg (by omega), hb]
    by_cases h : k < n
    · rw [decide_eq_true h, if_pos (by omega)]
      show some (n - 1 - k) = some _
      congr 1
      omega
    · rw [decide_eq_false h, if_neg (by omega)]
def getI {α : Type} (xs : List α) (i : Int) : Option α := match ixD xs.length i with
  | some j => nth xs j
  | none => none
theorem getI_eq {α : Type} (xs : List α) (i : Int) : getI xs i = atI xs i := by
  unfold getI atI
  rw [ixD_eq]
  cases ixN xs.length i with
  | none => rfl
  | some j => show nth xs j = xs[j]?; exact nth_eq xs j
def bIx : B2 := fun c d s Q => match d with
  | .d (.int i) => match asSeq c s with
    | some ds => match getI ds i with
      | some x => Q (.d x) s
      | none => False
    | none => False
  | _ => False
def rIxA (K : PySem.W.Frag) : R2 := fun x y H Q => rIxL K x y H Q ∨ rIxT K x y H Q
theorem at_rep {K : PySem.W.Frag} {O : Addr → Prop} {H : Hp} {xs : List V} {ds : List D} {i : Int} {x : D} (r : Reps K O H xs ds) (e : getI ds i = some x) : ∃ v, atI xs i = some v ∧ Rep K O H v x := by
  rw [getI_eq] at e
  unfold atI at e ⊢
  rw [r.length]
  cases q : ixN ds.length i with
  | none => rw [q] at e; cases e
  | some j =>
    rw [q] at e
    obtain ⟨v, h1, h2⟩ := r.get (show ds[j]? = some x from e)
    exact ⟨v, h1, h2⟩
theorem bi_ix {K : PySem.W.Frag} : BinI K (rIxA K) bIx := fun g s σ H x y c d Qp Q hd rx ry hb kt => by
  unfold bIx at hb
  split at hb
  · split at hb
    · rename_i ds e
      split at hb
      · rename_i z e2
        obtain ⟨a, xs, rfl, hq, hl, r⟩ := asSeq_q hd rx e
        cases ry
        obtain ⟨v, e3, rv⟩ := at_rep r e2
        rcases hq with hq | hq
        · exact .inl ⟨a, xs, _, v, rfl, rfl, hq, e3, kt _ _ (.d _) _ _ hd .refl rv hb⟩
        · exact .inr ⟨a, xs, _, v, rfl, rfl, hq, e3, kt _ _ (.d _) _ _ hd .refl rv hb⟩
      · exact hb.elim
    · exact hb.elim
  · exact hb.elim
theorem pp_ixA {X : Cx} {a b : Expr} {p q : TP} {pos : Pos} (ha : PP X a p) (hb : PP X b q) (hs : PlainIx b := by exact fun _ _ => rfl) : PP X (.Subscript a b pos) (wBin bIx p q) := pp_ix (ix_list.or ix_tup) bi_ix ha hb hs

/-! ### slices -/
abbrev TPo := S → (Option Int → S → Prop) → Prop
def liftO (K : PySem.W.Frag) (p : TPo) : TO := fun σ H Q => ∃ g s Qp, Hold K g s σ H ∧ p s Qp ∧ ∀ o H' g' s', Hold K g' s' σ H' → Adv g s H g' s' H' → Qp o s' → Q o H'
abbrev PPo (X : Cx) (e : Option Expr) (p : TPo) : Prop := PO X e (liftO X.K p)
def wNoPart : TPo := fun s Q => Q none s
def wPart (p : TP) : TPo := fun s Q => p s fun c s1 => match c with
  | .d (.int i) => Q (some i) s1
  | _ => False
theorem POw {X : Cx} {e : Option Expr} {t t' : TO} (h : PO X e t) (w : ∀ σ H Q, t' σ H Q → t σ H Q) : PO X e t' := ⟨fun pins s σ H Q I q => h.run pins s σ H Q I (w _ _ _ q)⟩
theorem ppo_none {X : Cx} : PPo X none wNoPart := POw po_none fun σ H Q ⟨g, s, Qp, hd, hp, k⟩ => k _ _ _ _ hd .refl hp
theorem ppo_some {X : Cx} {e : Expr} {p : TP} (h : PP X e p) : PPo X (some e) (wPart p) := POw (po_some h) fun σ H Q ⟨g, s, Qp, hd, hp, k⟩ => ⟨g, s, _, hd, hp, fun v H' c g' s' hd' a' r hq => by
  split at hq
  · cases r; exact ⟨_, rfl, k _ _ _ _ hd' a' hq⟩
  · exact hq.elim⟩
def cutD (xs : List D) (lo hi : Option Int) : List D := (xs.drop (HT.sIx xs.length 0 lo)).take (HT.sIx xs.length xs.length hi - HT.sIx xs.length 0 lo)
theorem Reps.cut {K : PySem.W.Frag} {O : Addr → Prop} {H : Hp} {xs : List V} {ds : List D} (r : Reps K O H xs ds) (lo hi : Option Int) : Reps K O H (cutV xs lo hi) (cutD ds lo hi) := by
  unfold cutV cutD
  rw [r.length]
  exact (r.drop _).take _
def wSl (k : Bool) (p : TP) (lo hi : TPo) : TP := fun s Q => p s fun c s1 => lo s1 fun l s2 => hi s2 fun u s3 => match asLst c s3 with
  | some ds => newO k (.lst (cutD ds l u)) s3 Q
  | none => match c with
    | .d (.tup ds) => Q (.d (.tup (cutD ds l u))) s3
    | .d (.str z) => z.length ≤ sizeLine ∧ Q (.d (.str (cutS z l u))) s3
    | _ => False
def rSlAll (K : PySem.W.Frag) : V → Option Int → Option Int → Hp → VK → Prop := fun x lo hi H Q => rSlL K x lo hi H Q ∨ rSlP K x lo hi H Q ∨ rSlS x lo hi H Q
theorem lift_sl {K : PySem.W.Frag} (k : Bool) {p : TP} {lo hi : TPo} : ∀ σ H Q, lift K (wSl k p lo hi) σ H Q → tSl (rSlAll K) (lift K p) (liftO K lo) (liftO K hi) σ H Q := fun σ H Q ⟨g, s, Qp, hd, hp, kt⟩ =>
  ⟨g, s, _, hd, hp, fun v1 H1 c1 g1 s1 hd1 a1 r1 hq => ⟨g1, s1, _, hd1, hq, fun l H2 g2 s2 hd2 a2 hq2 => ⟨g2, s2, _, hd2, hq2, fun u H3 g3 s3 hd3 a3 hb => by
    have r3 := r1.adv (a2.trans a3)
    have k3 := kt.after (a1.trans (a2.trans a3))
    split at hb
    · rename_i ds e
      obtain ⟨a, xs, rfl, hq, hl, r⟩ := asLst_q hd3 r3 e
      exact .inl ⟨a, xs, rfl, hq, new_o k (o := .lst _) (d := .lst _) hd3 k3 ⟨Nat.le_trans (cutV_length _ _ _) hl, r.cut l u⟩ hb⟩
    · split at hb
      · rename_i ds _
        obtain ⟨a, xs, rfl, hq, hl, r⟩ := asTup_q (c := .d (.tup ds)) hd3 r3 rfl
        refine .inr (.inl ⟨a, xs, rfl, hq, fun ⟨e1, e2⟩ => ?_, fun _ => new_t hd3 k3 (Nat.le_trans (cutV_length _ _ _) hl) (r.cut l u) hb⟩)
        have e : cutD ds l u = ds := by
          unfold cutD
          rw [← r.length, e1, e2, List.drop_zero, Nat.sub_zero, r.length, List.take_length]
        rw [e] at hb
        exact k3 _ _ (.d (.tup ds)) _ _ hd3 .refl r3 hb
      · cases r3
        exact .inr (.inr ⟨_, rfl, hb.1, k3 _ _ (.d _) _ _ hd3 .refl (.str _) hb.2⟩)
      · exact hb.elim⟩⟩⟩
theorem pp_slice {X : Cx} {e : Expr} {lo hi : Option Expr} {p : TP} {tl th : TPo} {p2 pos : Pos} (k : Bool) (he : PP X e p) (hl : PPo X lo tl) (hu : PPo X hi th) : PP X (.Subscript e (.Slice lo hi none p2) pos) (wSl k p tl th) :=
  PEw (pe_slice (sl_list.or (sl_tupP.or sl_str)) he hl hu) (lift_sl k)
/-- xs[::-1] of a list -/
def wRev (k : Bool) (p : TP) : TP := fun s Q => p s fun c s1 => match asLst c s1 with
  | some ds => newO k (.lst ds.reverse) s1 Q
  | none => False
theorem pp_revL {X : Cx} {e : Expr} {p : TP} {n : Nat} {p1 p2 p3 pos : Pos} (k : Bool) (he : PP X e p) : PP X (.Subscript e (.Slice none none (some (.UnaryOp .USub (.Constant (.int 1) n p1) p2)) p3) pos) (wRev k p) :=
  PEw (pe_revL he) fun σ H Q ⟨g, s, Qp, hd, hp, kt⟩ => ⟨g, s, _, hd, hp, fun v1 H1 c1 g1 s1 hd1 a1 r1 hb => by
    split at hb
    · rename_i ds e
      obtain ⟨a, xs, rfl, hq, hl, r⟩ := asLst_q hd1 r1 e
      exact ⟨a, xs, rfl, hq, new_o k (o := .lst _) (d := .lst _) hd1 (kt.after a1) ⟨by rw [List.length_reverse]; exact hl, r.reverse⟩ hb⟩
    · exact hb.elim⟩

/-! ### built-in functions -/
theorem CallR.w {X : Cx} {f : Value} {r r' : List V → Hp → VK → Prop} (h : CallR X f r) (w : ∀ xs H Q, r' xs H Q → r xs H Q) : CallR X f r' := fun pins s σ H xs us Q I rs q => h pins s σ H xs us Q I rs (w _ _ _ q)
def fLen : BN := fun cs s Q => match cs with
  | [.d (.str z)] => z.length ≤ sizeLine ∧ Q (.d (.int (z.length : Nat))) s
  | [c] => match asSeq c s with
    | some ds => Q (.d (.int (ds.length : Nat))) s
    | none => False
  | _ => False
def rLenA (K : PySem.W.Frag) : List V → Hp → VK → Prop := fun xs H Q => (∃ z, xs = [.str z] ∧ z.length ≤ sizeLine ∧ Q (.int z.length) H) ∨ (∃ p ys, xs = [.ref p] ∧ (SqL K H p ys ∨ SqT K H p ys) ∧ Q (.int ys.length) H)
theorem fi_len {K : PySem.W.Frag} : ArgI K (rLenA K) fLen := fun g s σ H xs cs Qp Q hd rs hb kt => by
  unfold fLen at hb
  split at hb
  · cases rs with
    | cons r t =>
      cases t; cases r
      exact .inl ⟨_, rfl, hb.1, kt _ _ (.d _) _ _ hd .refl (.int _) hb.2⟩
  · cases rs with
    | cons r t =>
      cases t
      split at hb
      · rename_i ds e
        obtain ⟨a, ys, rfl, hq, hl, rr⟩ := asSeq_q hd r e
        refine .inr ⟨a, ys, rfl, hq, kt _ _ (.d _) _ _ hd .refl (.int _) ?_⟩
        rw [rr.length]; exact hb
      · exact hb.elim
  · exact hb.elim
theorem call_lenA {X : Cx} : CallR X (.builtin "len") (rLenA X.K) := CallR.or call_len_str call_len_seq
/-- one whole number -/
def fInt (f : Int → Int) : BN := fun cs s Q => match cs with
  | [.d (.int i)] => Q (.d (.int (f i))) s
  | _ => False
theorem fi_abs {K : PySem.W.Frag} : ArgI K (fun xs H Q => ∃ i, xs = [.int i] ∧ Q (.int (if i < 0 then -i else i)) H) (fInt fun i => (i.natAbs : Nat)) := fun g s σ H xs cs Qp Q hd rs hb kt => by
  unfold fInt at hb
  split at hb
  · rename_i i
    cases rs with
    | cons r t =>
      cases t; cases r
      refine ⟨_, rfl, kt _ _ (.d _) _ _ hd .refl (.int _) ?_⟩
      rw [show (if i < 0 then -i else i) = ((i.natAbs : Nat) : Int) from by split <;> omega]; exact hb
  · exact hb.elim
def fInt2 (f : Int → Int → Int) : BN := fun cs s Q => match cs with
  | [.d (.int i), .d (.int j)] => Q (.d (.int (f i j))) s
  | _ => False
theorem fi_min {K : PySem.W.Frag} : ArgI K (fun xs H Q => ∃ i j, xs = [.int i, .int j] ∧ Q (.int (if j < i then j else i)) H) (fInt2 min) := fun g s σ H xs cs Qp Q hd rs hb kt => by
  unfold fInt2 at hb
  split at hb
  · rename_i i j
    cases rs with
    | cons r t =>
      cases t with
      | cons r2 t =>
        cases t; cases r; cases r2
        refine ⟨_, _, rfl, kt _ _ (.d _) _ _ hd .refl (.int _) ?_⟩
        rw [show (if j < i then j else i) = min i j from by split <;> omega]; exact hb
  · exact hb.elim
theorem fi_max {K : PySem.W.Frag} : ArgI K (fun xs H Q => ∃ i j, xs = [.int i, .int j] ∧ Q (.int (if j > i then j else i)) H) (fInt2 max) := fun g s σ H xs cs Qp Q hd rs hb kt => by
  unfold fInt2 at hb
  split at hb
  · rename_i i j
    cases rs with
    | cons r t =>
      cases t with
      | cons r2 t =>
        cases t; cases r; cases r2
        refine ⟨_, _, rfl, kt _ _ (.d _) _ _ hd .refl (.int _) ?_⟩
        rw [show (if j > i then j else i) = max i j from by split <;> omega]; exact hb
  · exact hb.elim
/-- int(truth), int(number) -/
def fToInt : BN := fun cs s Q => match cs with
  | [.d (.int i)] => Q (.d (.int i)) s
  | [.d (.bl true)] => Q (.d (.int 1)) s
  | [.d (.bl false)] => Q (.d (.int 0)) s
  | _ => False
theorem fi_int {K : PySem.W.Frag} : ArgI K (fun xs H Q => (∃ i, xs = [.int i] ∧ Q (.int i) H) ∨ ∃ k, xs = [.bl k] ∧ Q (.int (if k then 1 else 0)) H) fToInt := fun g s σ H xs cs Qp Q hd rs hb kt => by
  unfold fToInt at hb
  split at hb
  · cases rs with
    | cons r t =>
      cases t; cases r
      exact .inl ⟨_, rfl, kt _ _ (.d _) _ _ hd .refl (.int _) hb⟩
  · cases rs with
    | cons r t =>
      cases t; cases r
      exact .inr ⟨true, rfl, kt _ _ (.d (.int 1)) _ _ hd .refl (.int _) hb⟩
  · cases rs with
    | cons r t =>
      cases t; cases r
      exact .inr ⟨false, rfl, kt _ _ (.d (.int 0)) _ _ hd .refl (.int _) hb⟩
  · exact hb.elim
/-- list(x), tuple(x) of lists and tuples -/
def fList (k : Bool) : BN := fun cs s Q => match cs with
  | [c] => match asSeq c s with
    | some ds => newO k (.lst ds) s Q
    | none => False
  | _ => False
def fTuple : BN := fun cs s Q => match cs with
  | [c] => match asSeq c s with
    | some ds => Q (.d (.tup ds)) s
    | none => False
  | _ => False
theorem fi_list (k : Bool) {K : PySem.W.Frag} : ArgI K (fun xs H Q => ∃ p ys, xs = [.ref p] ∧ (SqL K H p ys ∨ SqT K H p ys) ∧ ∀ l, H l = none → Q (.ref l) (upd H l (.lst ys))) (fList k) := fun g s σ H xs cs Qp Q hd rs hb kt => by
  unfold fList at hb
  split at hb
  · cases rs with
    | cons r t =>
      cases t
      split at hb
      · rename_i ds e
        obtain ⟨a, ys, rfl, hq, hl, rr⟩ := asSeq_q hd r e
        exact ⟨a, ys, rfl, hq, new_o k (o := .lst ys) (d := .lst ds) hd kt ⟨hl, rr⟩ hb⟩
      · exact hb.elim
  · exact hb.elim
theorem fi_tuple {K : PySem.W.Frag} : ArgI K (rTuple K) fTuple := fun g s σ H xs cs Qp Q hd rs hb kt => by
  unfold fTuple at hb
  split at hb
  · rename_i c
    cases rs with
    | cons r t =>
      cases t
      split at hb
      · rename_i ds e
        unfold asSeq at e
        split at e
        · obtain ⟨a, ys, rfl, hq, hl, rr⟩ := asLst_q (c := .d (.lst _)) hd r rfl
          cases e
          exact ⟨a, ys, rfl, .inl ⟨hq, new_t hd kt hl rr hb⟩⟩
        · cases e
          cases r with
          | scr a ys _ hO h hl rr => exact ⟨a, ys, rfl, .inl ⟨.inl h, new_t hd kt hl rr hb⟩⟩
          | scrK a ys _ o its n hk hc hq hdd hz hv rr => exact ⟨a, ys, rfl, .inl ⟨.inr ⟨o, its, n, hk, hc, hq, hdd, hz, hv⟩, new_t hd kt (by rw [hv.length]; simpa using hz) rr hb⟩⟩
        · obtain ⟨a, ys, rfl, hq, hl, rr⟩ := asTup_q (c := .d (.tup _)) hd r rfl
          cases e
          exact ⟨a, ys, rfl, .inr ⟨hq, kt _ _ (.d (.tup ds)) _ _ hd .refl r hb⟩⟩
        · obtain ⟨a, ys, rfl, hq, hl, rr⟩ := asLst_q (c := .loc _) hd r e
          exact ⟨a, ys, rfl, .inl ⟨hq, new_t hd kt hl rr hb⟩⟩
        · cases e
      · exact hb.elim
  · exact hb.elim
/-- all(list of truths), any -/
def unB : List D → Option (List Bool)
  | [] => some []
  | .bl b :: l => match unB l with
    | some bs => some (b :: bs)
    | none => none
  | _ => none
def unI : List D → Option (List Int)
  | [] => some []
  | .int b :: l => match unI l with
    | some bs => some (b :: bs)
    | none => none
  | _ => none
def unS : List D → Option (List Str)
  | [] => some []
  | .str b :: l => match unS l with
    | some bs => some (b :: bs)
    | none => none
  | _ => none
theorem unB_ok {K : PySem.W.Frag} {O : Addr → Prop} {H : Hp} : ∀ {xs : List V} {ds : List D} {bs : List Bool}, Reps K O H xs ds → unB ds = some bs → xs = bs.map V.bl
  | _, _, _, .nil, h => by cases h; rfl
  | _, .bl b :: l, bs, .cons v vs _ _ r t, h => by
    unfold unB at h
    split at h
    · rename_i e; cases h; cases r; rw [unB_ok t e]; rfl
    · cases h
theorem unI_ok {K : PySem.W.Frag} {O : Addr → Prop} {H : Hp} : ∀ {xs : List V} {ds : List D} {bs : List Int}, Reps K O H xs ds → unI ds = some bs → xs = bs.map V.int
  | _, _, _, .nil, h => by cases h; rfl
  | _, .int b :: l, bs, .cons v vs _ _ r t, h => by
    unfold unI at h
    split at h
    · rename_i e; cases h; cases r; rw [unI_ok t e]; rfl
    · cases h
theorem unS_ok {K : PySem.W.Frag} {O : Addr → Prop} {H : Hp} : ∀ {xs : List V} {ds : List D} {bs : List Str}, Reps K O H xs ds → unS ds = some bs → xs = bs.map V.str
  | _, _, _, .nil, h => by cases h; rfl
  | _, .str b :: l, bs, .cons v vs _ _ r t, h => by
    unfold unS at h
    split at h
    · rename_i e; cases h; cases r; rw [unS_ok t e]; rfl
    · cases h
def allB : List Bool → Bool
  | [] => true
  | b :: bs => b && allB bs
def anyB : List Bool → Bool
  | [] => false
  | b :: bs => b || anyB bs
theorem allB_eq : ∀ bs : List Bool, allB bs = bs.all id
  | [] => rfl
  | b :: bs => by unfold allB; rw [allB_eq bs]; rfl
theorem anyB_eq : ∀ bs : List Bool, anyB bs = bs.any id
  | [] => rfl
  | b :: bs => by unfold anyB; rw [anyB_eq bs]; rfl
def fBools (f : List Bool → Bool) : BN := fun cs s Q => match cs with
  | [c] => match asLst c s with
    | some ds => match unB ds with
      | some bs => Q (.d (.bl (f bs))) s
      | none => False
    | none => False
  | _ => False
theorem fi_all {K : PySem.W.Frag} : ArgI K (rAll K) (fBools allB) := fun g s σ H xs cs Qp Q hd rs hb kt => by
  unfold fBools at hb
  split at hb
  · cases rs with
    | cons r t =>
      cases t
      split at hb
      · rename_i ds e
        split at hb
        · rename_i bs e2
          obtain ⟨a, ys, rfl, hq, hl, rr⟩ := asLst_q hd r e
          rw [unB_ok rr e2] at hq
          exact ⟨a, bs, rfl, hq, kt _ _ (.d _) _ _ hd .refl (.bl _) (by rw [← allB_eq]; exact hb)⟩
        · exact hb.elim
      · exact hb.elim
  · exact hb.elim
theorem fi_any {K : PySem.W.Frag} : ArgI K (rAny K) (fBools anyB) := fun g s σ H xs cs Qp Q hd rs hb kt => by
  unfold fBools at hb
  split at hb
  · cases rs with
    | cons r t =>
      cases t
      split at hb
      · rename_i ds e
        split at hb
        · rename_i bs e2
          obtain ⟨a, ys, rfl, hq, hl, rr⟩ := asLst_q hd r e
          rw [unB_ok rr e2] at hq
          exact ⟨a, bs, rfl, hq, kt _ _ (.d _) _ _ hd .refl (.bl _) (by rw [← anyB_eq]; exact hb)⟩
        · exact hb.elim
      · exact hb.elim
  · exact hb.elim
/-- sum, max of whole numbers -/
def fSum : BN := fun cs s Q => match cs with
  | [c] => match asLst c s with
    | some ds => match unI ds with
      | some ns => Q (.d (.int ns.sum)) s
      | none => False
    | none => False
  | _ => False
def fMax : BN := fun cs s Q => match cs with
  | [c] => match asLst c s with
    | some ds => match unI ds with
      | some ns => 0 < ns.length ∧ ∀ m, m ∈ ns → (∀ y, y ∈ ns → y ≤ m) → Q (.d (.int m)) s
      | none => False
    | none => False
  | _ => False
theorem fi_sum {K : PySem.W.Frag} : ArgI K (rSum K) fSum := fun g s σ H xs cs Qp Q hd rs hb kt => by
  unfold fSum at hb
  split at hb
  · cases rs with
    | cons r t =>
      cases t
      split at hb
      · rename_i ds e
        split at hb
        · rename_i bs e2
          obtain ⟨a, ys, rfl, hq, hl, rr⟩ := asLst_q hd r e
          rw [unI_ok rr e2] at hq
          exact ⟨a, bs, rfl, hq, kt _ _ (.d _) _ _ hd .refl (.int _) hb⟩
        · exact hb.elim
      · exact hb.elim
  · exact hb.elim
theorem fi_max1 {K : PySem.W.Frag} : ArgI K (rMax K) fMax := fun g s σ H xs cs Qp Q hd rs hb kt => by
  unfold fMax at hb
  split at hb
  · cases rs with
    | cons r t =>
      cases t
      split at hb
      · rename_i ds e
        split at hb
        · rename_i bs e2
          obtain ⟨a, ys, rfl, hq, hl, rr⟩ := asLst_q hd r e
          rw [unI_ok rr e2] at hq
          exact ⟨a, bs, rfl, hq, hb.1, fun m h1 h2 => kt _ _ (.d _) _ _ hd .refl (.int _) (hb.2 m h1 h2)⟩
        · exact hb.elim
      · exact hb.elim
  · exact hb.elim
/-- sorted(texts), below 64 of them -/
def fSortS (k : Bool) : BN := fun cs s Q => match cs with
  | [c] => match asLst c s with
    | some ds => match unS ds with
      | some ns => ns.length < 64 ∧ ∀ ys : List Str, ys.Perm ns → sortedS ys = true → newO k (.lst (ys.map D.str)) s Q
      | none => False
    | none => False
  | _ => False
theorem reps_str {K : PySem.W.Frag} {O : Addr → Prop} {H : Hp} : ∀ ys : List Str, Reps K O H (ys.map V.str) (ys.map D.str)
  | [] => .nil
  | y :: ys => .cons _ _ _ _ (.str y) (reps_str ys)
theorem fi_sortS (k : Bool) {K : PySem.W.Frag} : ArgI K (rSortedS K) (fSortS k) := fun g s σ H xs cs Qp Q hd rs hb kt => by
  unfold fSortS at hb
  split at hb
  · cases rs with
    | cons r t =>
      cases t
      split at hb
      · rename_i ds e
        split at hb
        · rename_i bs e2
          obtain ⟨a, ys, rfl, hq, hl, rr⟩ := asLst_q hd r e
          rw [unS_ok rr e2] at hq
          exact ⟨a, bs, rfl, hq, hb.1, fun zs p hp hs hn => new_o k (o := .lst (zs.map V.str)) (d := .lst (zs.map D.str)) hd kt ⟨by rw [List.length_map, hp.length_eq]; exact small64 hb.1, reps_str zs⟩ (hb.2 zs hp hs) p hn⟩
        · exact hb.elim
      · exact hb.elim
  · exact hb.elim
section
variable {X : Cx} {e : Expr} {es : List Expr} {pa : TPa} {p' pos : Pos}
theorem pp_len (hg : Gl X "len") (hm : X.mg "len" = none) (ha : PPa X [e] pa) (he : starEach [e] X.env = (false, eval e X.env) :: starEach [] X.env := by rfl) : PP X (.Call (.Name "len" p') [e] [] pos) (wArg fLen pa) := pp_callB call_lenA fi_len hg hm PySem.boot_len ha (by decide) (by decide) he rfl
end
end Bx
end

section
/-! What changes a list or a dict; dicts; isinstance; over data. -/
namespace Bx
open PySem L2 PySem.Spec PyProof.Rows

/-! ### a name read whose object is not changed any more -/
def wFrz (i : Nat) : TP := fun s Q => match nth s.env i with
  | some (some (.loc l)) => match nth s.own l with
    | some (some x) => Q (.d x) ⟨s.env.set i (some (.d x)), s.own.set l none⟩
    | _ => False
  | some (some (.d x)) => Q (.d x) s
  | _ => False
section
variable {K : PySem.W.Frag} {g g1 g' : G} {s s1 s' : S} {σ : L2.St} {H H1 H' : Hp}
/-- another view of a slot -/
theorem Hold.view (hd : Hold K g s σ H) {i : Nat} {v : V} {c : Val} (h : σ[i]? = some (some v)) (r : RepV K g s H v c) : Hold K g ⟨s.env.set i (some c), s.own⟩ σ H := by
  have q := hd.set i r
  have e : σ.set i (some v) = σ := by
    apply List.ext_getElem?
    intro j
    by_cases hj : j = i
    · subst hj
      rw [List.getElem?_set_self (List.getElem?_eq_some_iff.mp h).1, h]
    · rw [List.getElem?_set_ne (Ne.symm hj)]
  rw [e] at q
  exact q
theorem lift_frz {i : Nat} : ∀ σ H Q, lift K (wFrz i) σ H Q → tVar i σ H Q := fun σ H Q ⟨g, s, Qp, hd, hp, k⟩ => by
  unfold wFrz at hp
  split at hp
  · rename_i l hl
    rw [nth_eq] at hl
    obtain ⟨v, e, r⟩ := hd.env i _ hl
    split at hp
    · rename_i x hx
      rw [nth_eq] at hx
      obtain ⟨a, ea, rfl⟩ := r
      obtain ⟨h1, h2, h3⟩ := hd.freeze hx ea
      refine ⟨.ref a, e, k _ _ (.d x) g ⟨s.env.set i (some (.d x)), s.own.set l none⟩ (h1.view (c := .d x) e h3) (h2.trans adv_env) ?_ hp⟩
      exact Rep.adv h3 (adv_env (s := ⟨s.env, s.own.set l none⟩))
    · exact hp.elim
  · rename_i x hl
    rw [nth_eq] at hl
    obtain ⟨v, e, r⟩ := hd.env i _ hl
    exact ⟨v, e, k _ _ (.d x) g s hd .refl r hp⟩
  · exact hp.elim
end
theorem ppz {X : Cx} (i : Nat) {x : Str} {pos : Pos} (hN : X.N[i]? = some x := by rfl) (hv : Vis X.env.scope x := by first | exact Or.inl rfl | exact Or.inr (Or.inl rfl) | exact Or.inr (Or.inr rfl)) (hd : (x == ("__debug__" : Str)) = false := by decide)
    (hcd : (x == ("__classdict__" : Str)) = false := by decide) : PP X (.Name x pos) (wFrz i) := PEw (pv i hN hv hd hcd) lift_frz

/-! ### methods of lists -/
abbrev BM := Val → List Val → TP
def MetI (K : PySem.W.Frag) (r : V → List V → Hp → VK → Prop) (b : BM) : Prop := ∀ g s σ H x xs c cs Qp Q, Hold K g s σ H → RepV K g s H x c → RepVs K g s H xs cs → b c cs s Qp → Kont K g s σ H Qp Q → r x xs H Q
def wMt (p : TP) (pa : TPa) (b : BM) : TP := fun s Q => p s fun c s1 => match asLst c s1 with
  | some _ => pa s1 fun cs s2 => b c cs s2 Q
  | none => False
theorem lift_mt {K : PySem.W.Frag} {p : TP} {pa : TPa} {r : V → List V → Hp → VK → Prop} {b : BM} (hi : MetI K r b) : ∀ σ H Q, lift K (wMt p pa b) σ H Q → tBM K "list" r (lift K p) (liftA K pa) σ H Q := fun σ H Q ⟨g, s, Qp, hd, hp, kt⟩ =>
  ⟨g, s, _, hd, hp, fun v1 H1 c1 g1 s1 hd1 a1 r1 hb => by
    split at hb
    · rename_i ds e
      obtain ⟨a, xs, rfl, hq, hl, r⟩ := asLst_q hd1 r1 e
      exact ⟨.inl ⟨rfl, xs, hq⟩, g1, s1, _, hd1, hb, fun vs H2 cs g2 s2 hd2 a2 rs hb2 => hi _ _ _ _ _ _ _ _ _ _ hd2 (r1.adv a2) rs hb2 (kt.after (a1.trans a2))⟩
    · exact hb.elim⟩
/-- the own list behind a value -/
def ownL (c : Val) (s : S) : Option (Nat × List D) := match c with
  | .loc l => match nth s.own l with
    | some (some (.lst ds)) => some (l, ds)
    | _ => none
  | _ => none
def setO (s : S) (l : Nat) (d : D) : S := ⟨s.env, s.own.set l (some d)⟩
theorem ownL_q {K : PySem.W.Frag} {g : G} {s : S} {σ : L2.St} {H : Hp} {v : V} {c : Val} {l : Nat} {ds : List D} (hd : Hold K g s σ H) (r : RepV K g s H v c) (e : ownL c s = some (l, ds)) :
    ∃ a xs, v = .ref a ∧ H a = some (.lst xs) ∧ xs.length ≤ sizeLine ∧ Reps K (Ov g s) H xs ds ∧ s.own[l]? = some (some (.lst ds)) ∧ g.adr[l]? = some a := by
  unfold ownL at e
  split at e
  · split at e
    · rename_i hn
      cases e
      rw [nth_eq] at hn
      obtain ⟨a, ea, rfl⟩ := r
      obtain ⟨xs, h1, h2, h3⟩ := hd.own _ _ _ hn ea
      exact ⟨a, xs, rfl, h1, h2, h3, hn, ea⟩
    · cases e
  · cases e
def mApp : BM := fun c cs s Q => match ownL c s, cs with
  | some (l, ds), [.d x] => ds.length < sizeLine ∧ Q (.d .non) (setO s l (.lst (ds ++ [x])))
  | _, _ => False
def mPop : BM := fun c cs s Q => match ownL c s, cs with
  | some (l, ds), [.d (.int i)] => match ixD ds.length i with
    | some j => match nth ds j with
      | some x => (-(2 ^ 62) < i ∧ i < 2 ^ 62) ∧ Q (.d x) (setO s l (.lst (ds.eraseIdx j)))
      | none => False
    | none => False
  | _, _ => False
def mIns : BM := fun c cs s Q => match ownL c s, cs with
  | some (l, ds), [.d (.int i), .d x] => (ds.length < sizeLine ∧ 0 ≤ i ∧ i < 2 ^ 62) ∧ Q (.d .non) (setO s l (.lst (ds.take i.toNat ++ [x] ++ ds.drop i.toNat)))
  | _, _ => False
section
variable {K : PySem.W.Frag}
theorem put_own {g : G} {s : S} {σ : L2.St} {H : Hp} {Qp : Val → S → Prop} {Q : VK} {l : Nat} {a : Addr} {d d' : D} {o : HO} {v : V} {x : D} (hd : Hold K g s σ H) (kt : Kont K g s σ H Qp Q) (h1 : s.own[l]? = some (some d)) (h2 : g.adr[l]? = some a)
    (r : ObjRep K (Ov g s) H o d') (rv : Rep K (Ov g s) H v x) (q : Qp (.d x) (setO s l d')) : Q v (upd H a o) := by
  obtain ⟨b1, b2⟩ := hd.write h1 h2 r
  exact kt _ _ (.d x) _ _ b1 b2 (rv.adv b2) q
theorem mi_app : MetI K rAppend mApp := fun g s σ H x xs c cs Qp Q hd rx rs hb kt => by
  unfold mApp at hb
  split at hb
  · rename_i l ds z e
    obtain ⟨a, ys, rfl, h1, h2, h3, h4, h5⟩ := ownL_q hd rx e
    cases rs with
    | cons r t =>
      cases t
      refine ⟨a, ys, _, rfl, rfl, h1, by rw [h3.length]; exact hb.1, put_own hd kt h4 h5 (o := .lst (ys ++ [_])) (d' := .lst _) ⟨?_, h3.append (.cons _ _ _ _ r .nil)⟩ .non hb.2⟩
      rw [List.length_append, h3.length]; exact hb.1
  · exact hb.elim
theorem mi_pop : MetI K rPopAt mPop := fun g s σ H x xs c cs Qp Q hd rx rs hb kt => by
  unfold mPop at hb
  split at hb
  · rename_i l ds i e
    obtain ⟨a, ys, rfl, h1, h2, h3, h4, h5⟩ := ownL_q hd rx e
    cases rs with
    | cons r t =>
      cases t; cases r
      split at hb
      · rename_i j ej
        split at hb
        · rename_i z ez
          rw [nth_eq] at ez
          obtain ⟨v, e1, e2⟩ := h3.get ez
          rw [ixD_eq] at ej
          obtain ⟨b1, b2, b3, b4⟩ := ixN_seq ej
          refine ⟨a, ys, i, j, v, rfl, rfl, h1, by omega, by omega, by rw [h3.length]; exact b1, e1, put_own hd kt h4 h5 (o := .lst (ys.eraseIdx j)) (d' := .lst _) ⟨?_, h3.eraseIdx j⟩ e2 hb.2⟩
          exact Nat.le_trans (len_erase ys j) h2
        · exact hb.elim
      · exact hb.elim
  · exact hb.elim
theorem mi_ins : MetI K (fun x vs H Q => ∃ (l : Addr) (xs : List V) (i : Int) (y : V), x = .ref l ∧ vs = [.int i, y] ∧ H l = some (.lst xs) ∧ xs.length < sizeLine ∧ 0 ≤ i ∧ i < 2 ^ 63 ∧
    Q .non (upd H l (.lst (xs.take i.toNat ++ [y] ++ xs.drop i.toNat)))) mIns := fun g s σ H x xs c cs Qp Q hd rx rs hb kt => by
  unfold mIns at hb
  split at hb
  · rename_i l ds i z e
    obtain ⟨a, ys, rfl, h1, h2, h3, h4, h5⟩ := ownL_q hd rx e
    cases rs with
    | cons r t =>
      cases t with
      | cons r2 t =>
        cases t; cases r
        obtain ⟨⟨b1, b2, b3⟩, q⟩ := hb
        have hl := h3.length
        refine ⟨a, ys, i, _, rfl, rfl, h1, by omega, b2, by omega, put_own hd kt h4 h5 (o := .lst _) (d' := .lst _) ⟨?_, ((h3.take _).append (.cons _ _ _ _ r2 .nil)).append (h3.drop _)⟩ .non q⟩
        rw [List.length_append, List.length_append, List.length_take, List.length_drop, List.length_singleton]
        omega
  · exact hb.elim
end
section
variable {X : Cx} {o e e2 : Expr} {p : TP} {pa : TPa} {apos cpos : Pos}
theorem pp_app (ho : PP X o p) (ha : PPa X [e] pa) (hbase : attributeBase o "append" X.env (eval o X.env) = eval o X.env := by rfl)
    (hfew : ((backTo cpos (starEach [e] X.env)).all (fun x => !x.1) && (backToKw cpos (keywordEach [] X.env)).all (fun x => x.1.isSome) && decide ([e].length + ([] : List Keyword).length + (if ([] : List Keyword).isEmpty then 0 else 1) < 30)) = true := by rfl)
    (hline : (apos.endLine == cpos.line) = true := by rfl) (hs : starEach [e] X.env = (false, eval e X.env) :: starEach [] X.env := by rfl) : PP X (.Call (.Attribute o "append" apos) [e] [] cpos) (wMt p pa mApp) :=
  PEw (pe_bm PySem.F.plainAttrs_list PySem.F.slot_list_append PySem.F.type_list_append mt_append ho ha hbase hfew hline hs rfl) (lift_mt mi_app)
theorem pp_pop (ho : PP X o p) (ha : PPa X [e] pa) (hbase : attributeBase o "pop" X.env (eval o X.env) = eval o X.env := by rfl)
    (hfew : ((backTo cpos (starEach [e] X.env)).all (fun x => !x.1) && (backToKw cpos (keywordEach [] X.env)).all (fun x => x.1.isSome) && decide ([e].length + ([] : List Keyword).length + (if ([] : List Keyword).isEmpty then 0 else 1) < 30)) = true := by rfl)
    (hline : (apos.endLine == cpos.line) = true := by rfl) (hs : starEach [e] X.env = (false, eval e X.env) :: starEach [] X.env := by rfl) : PP X (.Call (.Attribute o "pop" apos) [e] [] cpos) (wMt p pa mPop) :=
  PEw (pe_bm PySem.F.plainAttrs_list PySem.F.slot_list_pop PySem.F.type_list_pop mt_popAt ho ha hbase hfew hline hs rfl) (lift_mt mi_pop)
end

/-! ### stores into lists -/
def sL : Val → Val → Val → S → (S → Prop) → Prop := fun o i c s Q => match ownL o s, i, c with
  | some (l, ds), .d (.int k), .d x => match ixD ds.length k with
    | some j => Q (setO s l (.lst (ds.set j x)))
    | none => False
  | _, _, _ => False
def wSub (po pi : TP) : TPg := fun c s Q => po s fun o s1 => pi s1 fun i s2 => sL o i c s2 Q
theorem ppg_sub {X : Cx} {o i : Expr} {po pi : TP} {pos : Pos} (ho : PP X o po) (hi : PP X i pi)
    (ha : ∀ v, assign (.Subscript o i pos) X.env v = (do
      let ov ← holding [v] (eval o X.env)
      let iv ← holding [v, ov] (eval i X.env)
      standAt pos
      holding [v, ov, iv] (setItem ov iv v)
      release [v, ov, iv] []) := by intro _; rfl) : PPg X (.Subscript o i pos) (wSub po pi) :=
  PGw (pg_sub ho hi set_list ha) fun v σ H Q ⟨g, s, c, Qp, hd, r, hp, k⟩ => ⟨g, s, _, hd, hp, fun vo H1 co g1 s1 hd1 a1 r1 h1 => ⟨g1, s1, _, hd1, h1, fun vi H2 ci g2 s2 hd2 a2 r2 h2 => by
    have rv := (r.adv a1).adv a2
    have ro := r1.adv a2
    unfold sL at h2
    split at h2
    · rename_i l ds kk x e
      obtain ⟨a, ys, rfl, b1, b2, b3, b4, b5⟩ := ownL_q hd2 ro e
      cases r2
      split at h2
      · rename_i j ej
        rw [ixD_eq] at ej
        obtain ⟨c1, c2⟩ := hd2.write b4 b5 (o' := .lst (ys.set j v)) (d' := .lst (ds.set j x)) ⟨by simpa using b2, b3.set rv j⟩
        exact ⟨a, ys, kk, j, rfl, rfl, b1, by rw [b3.length]; exact ej, k _ _ _ _ c1 (a1.trans (a2.trans c2)) h2⟩
      · exact h2.elim
    · exact h2.elim⟩⟩
/-- several subscripts at once: x[i], y[j] = a, b -/
def wSubs : List (TP × TP) → List D → S → (S → Prop) → Prop
  | [], [], s, Q => Q s
  | (po, pi) :: r, x :: xs, s, Q => wSub po pi (.d x) s fun s1 => wSubs r xs s1 Q
  | _, _, _, _ => False
end Bx
end

section
/-! The top's names: defs, constants, built-ins; calls by them. -/
namespace Bx
open PySem L2 PySem.Spec PyProof.Rows

/-- a def stands at the top under its name -/
structure Has (K : PySem.W.Frag) (mg : Str → Option Value) (name : Str) (st : Stmt) (ps : List Str) : Prop where
  ex : ∃ f fd, Fun K name name st f fd ∧ mg name = some (.ref f) ∧ Binds K fd ps []
/-- .. and keeps a promise -/
structure Cal (P : Program) (w : World) (K : PySem.W.Frag) (mg : Str → Option Value) (base : Heap) (k : Nat) (name : Str) (ps : List Str) (sp : Spec) : Prop where
  ex : ∃ f fd, FnOk P w K mg base CX0 k f fd ps (liftF K sp) ∧ mg name = some (.ref f) ∧ PySem.W.keepIn K (.ref f) = true ∧ Binds K fd ps [] ∧ ∃ o, K.lookup f = some o ∧ o.data = .func fd
/-- a module's constant -/
structure GlobD (K : PySem.W.Frag) (mg : Str → Option Value) (name : Str) (x : D) : Prop where
  ex : ∃ v u, mg name = some u ∧ RelV v u ∧ ∀ O H, Rep K O H v x
section
variable {P : Program} {w : World} {K : PySem.W.Frag} {mg : Str → Option Value} {base : Heap}
theorem mkP {name : Str} {st : Stmt} {N ps : List Str} {k : Nat} {sp : Spec} {p : TPs} (h : Has K mg name st ps) (S : FnScope N ps (defScope st)) (len : ∀ args own Q E, sp args own Q E → args.length = ps.length)
    (hb : ∀ (f : Addr) (cdv : Value) (A : Around) (outer : List Env) (s : Shared) (H : Hp) (E : XK), Room k (A.deeper (envOfC name (defScope st) s.heap.objs.size f cdv)) →
      PPss (cxOf CX0 P w K mg base N name (defScope st) f cdv A outer s H E).nox (fun _ _ _ _ => False) (defBody st) p)
    (hp : ∀ args own Q E, sp args own Q E → p (endsF own.length Q fun _ _ => False) ⟨startE N args, own.map some⟩) : Cal P w K mg base (k + 1) name ps sp := by
  obtain ⟨f, fd, F, hm, b⟩ := h.ex
  exact ⟨f, fd, fnP F S len (fun cdv A outer s H E hr => hb f cdv A outer s H E hr) hp, hm, F.kp, b, by
    obtain ⟨oc, od, kV, doc, pm, an, cdv, ct, osl, _, lk, _⟩ := F.ex
    exact ⟨_, lk, rfl⟩⟩
theorem Cal.mono {j k : Nat} {name : Str} {ps : List Str} {sp : Spec} (c : Cal P w K mg base j name ps sp) (h : j ≤ k) : Cal P w K mg base k name ps sp := by
  obtain ⟨f, fd, F, r⟩ := c.ex
  exact ⟨f, fd, F.mono h, r⟩
theorem Cal.imp {k : Nat} {name : Str} {ps : List Str} {sp sp' : Spec} (c : Cal P w K mg base k name ps sp) (h : ∀ args own Q E, sp' args own Q E → sp args own Q E) : Cal P w K mg base k name ps sp' := by
  obtain ⟨f, fd, F, r⟩ := c.ex
  refine ⟨f, fd, F.imp fun vs H Q E q => ?_, r⟩
  obtain ⟨g, args, own, Qp, Ep, a, b, c⟩ := q
  exact ⟨g, args, own, Qp, Ep, a, h _ _ _ _ b, c⟩
end
section
variable {X : Cx} {e : Expr} {es : List Expr} {pa : TPa} {k j : Nat} {ps : List Str} {sp : Spec} {x : Str} {d : D} {p pos : Pos}
theorem pp_callC (c : Cal X.prog X.w X.K X.mg X.base j x ps sp) (hr : Room k X.A) (hj : j ≤ k) (hg : Gl X x) (ha : PPa X (e :: es) pa)
    (hdb : (x == ("__debug__" : Str)) = false := by decide) (he : starEach (e :: es) X.env = (false, eval e X.env) :: starEach es X.env := by rfl) (hpl : (backTo pos (starEach es X.env)).any (·.1) = false := by rfl) : PP X (.Call (.Name x p) (e :: es) [] pos) (wCall sp pa) := by
  obtain ⟨f, fd, F, hm, hk, hb, _⟩ := c.ex
  exact pp_call F (hr.mono hj) hg hm hk hb ha hdb he hpl
theorem pp_glob (h : GlobD X.K X.mg x d) (hg : Gl X x) (hd : (x == ("__debug__" : Str)) = false := by decide) : PP X (.Name x pos) (wC d) := by
  obtain ⟨v, u, hm, r, rep⟩ := h.ex
  exact PEw (pe_glob hg hm r hd) fun σ H Q ⟨g, s, Qp, hd, hp, k⟩ => k v H (.d d) g s hd .refl (rep _ _) hp
theorem pp_never {W : WX} {st : Stmt} : PPs X W st (fun _ _ => False) := PSw ps_never fun D σ H ⟨g, s, E, hd, hp, k, kx⟩ => hp
theorem ppts_nil : PTs X [] (liftT X.K fun s Q => Q true s) := ⟨fun pins s σ H Q I ⟨g, st, Qp, hd, hp, k⟩ => pts_nil.run pins s σ H Q I (k _ _ _ _ hd .refl hp)⟩
theorem ppts_one {c : Expr} {t : TPt} (h : PPt X c t) : PTs X [c] (liftT X.K t) := pts_one h
/-- a built-in type as a value -/
theorem pp_ty {T : String} (hg : Gl X x) (hm : X.mg x = none) (hv : bootBuiltins x = some (.type T)) (hn : x ≠ "__name__" := by decide) (hd : (x == ("__debug__" : Str)) = false := by decide) : PP X (.Name x pos) (wC (.raw (.ty T))) :=
  pp_of_const (pe_bltn (v := .ty T) hg hm hv rfl hn hd) fun _ _ _ => .raw _
theorem pp_setLc {W : WX} {i : Nat} {y : Str} {py : Pos} {elt tg iter : Expr} {ifs : List Expr} {scope : Scope} {own : List (Str × Nat)} {spos : Pos} {pi : TPi} {t : Tg} {tt : TPt} {te : TP} (k : Bool) (hc : X.calm = true) (hN : X.N.Nodup) (hy : X.N[i]? = some y) (hyl : X.env.scope.names.lookup y = some .local)
    (hsw : swapsWith (.ListComp elt [⟨tg, iter, ifs, 0⟩] scope pos) (some (.Name y py)) spos.line X.env = pure true) (hi : PPi X tg iter pi) (ok : BlkOk X.N X.env.scope scope own) (hsl : ∀ j ∈ t.slots, j ∈ own.map (·.2))
    (hg : ∀ (s : Shared) (H : Hp) (C : Addr) (cl : List (Str × Addr)) (fp : List Addr), PG (X.blk s H scope (compEnvC scope cl C X.env) fp) tg (t.H X.K)) (ht : ∀ (s : Shared) (H : Hp) (C : Addr) (cl : List (Str × Addr)) (fp : List Addr), PTs (X.blk s H scope (compEnvC scope cl C X.env) fp) ifs (liftT X.K tt))
    (he : ∀ (s : Shared) (H : Hp) (C : Addr) (cl : List (Str × Addr)) (fp : List Addr), PP (X.blk s H scope (compEnvC scope cl C X.env) fp) elt te) (hs : ∀ x, foldedSetIterable iter X.env x = pure x := by intro _; rfl) :
    PPs X W (.Assign [.Name y py] (.ListComp elt [⟨tg, iter, ifs, 0⟩] scope pos) spos) (wSet i (wLc (own.map (·.2)) k pi t.w tt te)) :=
  PSw (ps_setLc hc hN hy hyl hsw hi ok hg ht he hs) fun D σ H ⟨g, s, E, hd, hp, kt, kx⟩ => lift_lc k _ hsl σ H _ ⟨g, s, _, hd, hp, fun v H' c g' s' hd' a' r hq => kt.nx (hd'.set i r) (a'.trans adv_env) hq⟩
end
/-- the built-in names that no def of the top hides -/
structure Blt (mg : Str → Option Value) : Prop where
  len : mg "len" = none
  range : mg "range" = none
  zip : mg "zip" = none
  enumerate : mg "enumerate" = none
  abs : mg "abs" = none
  min : mg "min" = none
  max : mg "max" = none
  sum : mg "sum" = none
  all : mg "all" = none
  any : mg "any" = none
  int : mg "int" = none
  str : mg "str" = none
  bool : mg "bool" = none
  tuple : mg "tuple" = none
  list : mg "list" = none
  dict : mg "dict" = none
  set : mg "set" = none
  sorted : mg "sorted" = none
  isinstance : mg "isinstance" = none
section
variable {X : Cx} {e e2 : Expr} {es : List Expr} {pa : TPa} {p' pos : Pos} {k : Nat}
abbrev Se1 (X : Cx) (e : Expr) : Prop := starEach [e] X.env = (false, eval e X.env) :: starEach [] X.env
theorem pp_lenB (T : Blt X.mg) (hg : Gl X "len") (ha : PPa X [e] pa) (he : Se1 X e := by rfl) : PP X (.Call (.Name "len" p') [e] [] pos) (wArg fLen pa) := pp_callB call_lenA fi_len hg T.len PySem.boot_len ha (by decide) (by decide) he rfl
theorem pp_absB (T : Blt X.mg) (hg : Gl X "abs") (ha : PPa X [e] pa) (he : Se1 X e := by rfl) : PP X (.Call (.Name "abs" p') [e] [] pos) (wArg (fInt fun i => (i.natAbs : Nat)) pa) := pp_callB call_abs fi_abs hg T.abs (by decide +kernel) ha (by decide) (by decide) he rfl
theorem pp_intB (T : Blt X.mg) (hg : Gl X "int") (ha : PPa X [e] pa) (he : Se1 X e := by rfl) : PP X (.Call (.Name "int" p') [e] [] pos) (wArg fToInt pa) := pp_callTy call_int1 fi_int hg T.int (by decide +kernel) ha (by decide) (by decide) he rfl
theorem pp_listB (kk : Bool) (T : Blt X.mg) (hg : Gl X "list") (ha : PPa X [e] pa) (he : Se1 X e := by rfl) : PP X (.Call (.Name "list" p') [e] [] pos) (wArg (fList kk) pa) := pp_callTy call_list_of (fi_list kk) hg T.list (by decide +kernel) ha (by decide) (by decide) he rfl
theorem pp_tupleB (T : Blt X.mg) (hg : Gl X "tuple") (ha : PPa X [e] pa) (he : Se1 X e := by rfl) : PP X (.Call (.Name "tuple" p') [e] [] pos) (wArg fTuple pa) := pp_callTy call_tupleP fi_tuple hg T.tuple (by decide +kernel) ha (by decide) (by decide) he rfl
theorem pp_allB (T : Blt X.mg) (hg : Gl X "all") (hc : X.calm = true) (ha : PPa X [e] pa) (he : Se1 X e := by rfl) : PP X (.Call (.Name "all" p') [e] [] pos) (wArg (fBools allB) pa) := pp_callB (cr_all hc) fi_all hg T.all (by decide +kernel) ha (by decide) (by decide) he rfl
theorem pp_anyB (T : Blt X.mg) (hg : Gl X "any") (hc : X.calm = true) (ha : PPa X [e] pa) (he : Se1 X e := by rfl) : PP X (.Call (.Name "any" p') [e] [] pos) (wArg (fBools anyB) pa) := pp_callB (cr_any hc) fi_any hg T.any (by decide +kernel) ha (by decide) (by decide) he rfl
theorem pp_sumB (T : Blt X.mg) (hg : Gl X "sum") (hc : X.calm = true) (ha : PPa X [e] pa) (he : Se1 X e := by rfl) : PP X (.Call (.Name "sum" p') [e] [] pos) (wArg fSum pa) := pp_callB (cr_sum hc) fi_sum hg T.sum (by decide +kernel) ha (by decide) (by decide) he rfl
theorem pp_maxB (T : Blt X.mg) (hg : Gl X "max") (hc : X.calm = true) (ha : PPa X [e] pa) (he : Se1 X e := by rfl) : PP X (.Call (.Name "max" p') [e] [] pos) (wArg fMax pa) := pp_callB (cr_max hc) fi_max1 hg T.max (by decide +kernel) ha (by decide) (by decide) he rfl
theorem pp_sortedSB (kk : Bool) (T : Blt X.mg) (hg : Gl X "sorted") (ha : PPa X [e] pa) (he : Se1 X e := by rfl) : PP X (.Call (.Name "sorted" p') [e] [] pos) (wArg (fSortS kk) pa) := pp_callB cr_sortedS (fi_sortS kk) hg T.sorted (by decide +kernel) ha (by decide) (by decide) he rfl
theorem pp_min2B (T : Blt X.mg) (hg : Gl X "min") (hc : X.calm = true) (ha : PPa X [e, e2] pa) (he : starEach [e, e2] X.env = (false, eval e X.env) :: starEach [e2] X.env := by rfl) (hpl : (backTo pos (starEach [e2] X.env)).any (·.1) = false := by rfl) : PP X (.Call (.Name "min" p') [e, e2] [] pos) (wArg (fInt2 min) pa) := pp_callB (call_min2 hc) fi_min hg T.min (by decide +kernel) ha (by decide) (by decide) he hpl
theorem pp_max2B (T : Blt X.mg) (hg : Gl X "max") (hc : X.calm = true) (ha : PPa X [e, e2] pa) (he : starEach [e, e2] X.env = (false, eval e X.env) :: starEach [e2] X.env := by rfl) (hpl : (backTo pos (starEach [e2] X.env)).any (·.1) = false := by rfl) : PP X (.Call (.Name "max" p') [e, e2] [] pos) (wArg (fInt2 max) pa) := pp_callB (call_max2 hc) fi_max hg T.max (by decide +kernel) ha (by decide) (by decide) he hpl
end
end Bx
end

section
/-! zip and enumerate over lists and tuples alike. -/
namespace Bx
open PySem L2 PySem.Spec PyProof.Rows

/-! ### a list (k) or a tuple -/
def SqB (k : Bool) (K : PySem.W.Frag) (H : Hp) (a : Addr) (xs : List V) : Prop := match k with
  | true => SqL K H a xs
  | false => SqT K H a xs
def SeqB (k : Bool) (h : Heap) (a : Addr) (items : Array Value) : Prop := match k with
  | true => h.IsList a items
  | false => h.IsTuple a items
def ItB (k : Bool) (h : Heap) (it a : Addr) (i : Nat) : Prop := match k with
  | true => h.IsListIter it a i
  | false => h.IsTupleIter it a i
def obB (k : Bool) (a : Addr) : Obj := match k with
  | true => { cls := .type "list_iterator", data := .fields #[.ref a, .int 0 0] }
  | false => { cls := .type "tuple_iterator", data := .fields #[.ref a, .int 0 0] }
theorem drawsB (k : Bool) {prog : Program} {w : World} {A : Around} (hh : A.handled = none) (it a : Addr) (hne : a ≠ it) (items : Array Value) :
    Draws prog w A it [it, a] items.size (fun i v => items[i]? = some v) (fun i h => ItB k h it a i ∧ SeqB k h a items) := by
  cases k with
  | true => exact Draws.list hh it a hne items
  | false => exact Draws.tuple hh it a hne items
theorem beginsB (k : Bool) (a : Addr) (items : Array Value) : Begins (.ref a) (obB k a) (fun h => SeqB k h a items) := by
  cases k with
  | true => exact begins_list a items
  | false => exact begins_tuple a items
theorem itB_new (k : Bool) {h : Heap} {it a : Addr} (e : h.get? it = some (obB k a)) : ItB k h it a 0 := by
  cases k with
  | true => exact ⟨_, e, rfl, rfl⟩
  | false => exact ⟨_, e, rfl, rfl⟩
theorem itB_at {k : Bool} {h h' : Heap} {it a : Addr} {i : Nat} (st : ItB k h it a i) (e : ∀ o, h.get? it = some o → h'.get? it = some o) : ItB k h' it a i := by
  cases k with
  | true => exact Heap.IsListIter.at st e
  | false => exact Heap.IsTupleIter.at st e
theorem itB_obj {k : Bool} {h : Heap} {it a : Addr} {i : Nat} (st : ItB k h it a i) : ∃ o, h.get? it = some o ∧ ∀ v, o.data ≠ .cell v := by
  cases k with
  | true => obtain ⟨o, e, _, d⟩ := st; exact ⟨o, e, fun v q => by rw [d] at q; cases q⟩
  | false => obtain ⟨o, e, _, d⟩ := st; exact ⟨o, e, fun v q => by rw [d] at q; cases q⟩
section
variable {X : Cx} {pins : List (Addr × Obj)} {σ : L2.St} {H : Hp} {s : Shared} {a : Addr} {xs ys : List V} {k : Bool}
theorem sqB_seq (I : Inv X pins σ H s) (h : SqB k X.K H a xs) : ∃ its : List Value, Vals xs its ∧ SeqB k s.heap a its.toArray ∧ xs.length ≤ sizeLine := by
  cases k with
  | true => obtain ⟨its, r, p, z⟩ := I.list h; exact ⟨its, r, p.isList, z⟩
  | false => obtain ⟨its, r, p, z⟩ := I.tuple h; exact ⟨its, r, p, z⟩
theorem sqB_inj (I : Inv X pins σ H s) (h : SqB k X.K H a xs) (h' : SqB k X.K H a ys) : xs = ys := by
  cases k with
  | true => exact I.list_inj h h'
  | false => exact I.tuple_inj h h'
theorem seqB_lt {h : Heap} {items : Array Value} (q : SeqB k h a items) : a < h.objs.size := by
  cases k with
  | true => obtain ⟨_, e, _⟩ := q; exact Heap.lt_size e
  | false => obtain ⟨_, e, _⟩ := q; exact Heap.lt_size e
end

/-! ### zip -/
/-- the sequences at a and b as they stand at each turn, the items in new pairs -/
def ItZ (k1 k2 : Bool) (K : PySem.W.Frag) (a b : Addr) : It :=
  ⟨fun i H => ∃ (xs ys : List V) (x y : V), SqB k1 K H a xs ∧ SqB k2 K H b ys ∧ xs[i]? = some x ∧ ys[i]? = some y,
    fun i H v H' => ∃ T o x y, v = .ref T ∧ o.dict = none ∧ H T = none ∧ H' = upd H T (.frz o (.tup [x, y])) ∧ (∀ xs, SqB k1 K H a xs → xs[i]? = some x) ∧ ∀ ys, SqB k2 K H b ys → ys[i]? = some y,
    fun i H => ∃ xs ys : List V, SqB k1 K H a xs ∧ SqB k2 K H b ys ∧ i ≤ xs.length ∧ i ≤ ys.length ∧ (i = xs.length ∨ i = ys.length)⟩
/-- the five cells -/
structure ZipCells (z TI TO i1 i2 a b : Addr) : Prop where
  S : ZipSep2 z TI TO i1 i2 [i1, a] [i2, b]
  a1 : a ≠ i1
  b2 : b ≠ i2
abbrev ZipSt (k1 k2 : Bool) (z TI TO i1 i2 a b : Addr) (i : Nat) (h : Heap) : Prop := IsZip h z TI TO .none ∧ IsTupOf2 h TI (.ref i1) (.ref i2) ∧ (∃ x y, IsTupOf2 h TO x y) ∧ ItB k1 h i1 a i ∧ ItB k2 h i2 b i
theorem turn_zipB {P : Program} {w : World} {K : PySem.W.Frag} {elts : List Expr} {kk : Nat} {tpos : Pos} (k1 k2 : Bool) {a b z TI TO i1 i2 : Addr} (D : ZipCells z TI TO i1 i2 a b) :
    Turn P w K (.Tuple elts kk tpos) (ItZ k1 k2 K a b) [z, TI, TO, i1, i2] z (ZipSt k1 k2 z TI TO i1 i2 a b) where
  mem := List.mem_cons_self
  obj := fun i h st c hc => by
    obtain ⟨hz, hTI, ⟨x, y, hTO⟩, h1, h2⟩ := st
    simp only [List.mem_cons, List.not_mem_nil, or_false] at hc
    rcases hc with q | q | q | q | q <;> rw [q]
    · exact ⟨_, hz, fun v q => nomatch q⟩
    · exact ⟨_, hTI, fun v q => nomatch q⟩
    · exact ⟨_, hTO, fun v q => nomatch q⟩
    · exact itB_obj h1
    · exact itB_obj h2
  keep := fun i h h' ⟨hz, hTI, ⟨x, y, hTO⟩, h1, h2⟩ kp =>
    ⟨kp z (by simp) _ hz, kp TI (by simp) _ hTI, ⟨x, y, kp TO (by simp) _ hTO⟩, itB_at h1 fun o q => kp i1 (by simp) o q, itB_at h2 fun o q => kp i2 (by simp) o q⟩
  item := by
    intro X hP hw hK hc i pins s σ H E I hf ⟨hz, hTI, ⟨x0, y0, hTO⟩, h1, h2⟩ hg
    subst hP hw hK
    obtain ⟨xs, ys, x, y, hqx, hqy, hx, hy⟩ := hg
    obtain ⟨us, rv, p1, _⟩ := sqB_seq I hqx
    obtain ⟨ws, rv2, p2, _⟩ := sqB_seq I hqy
    obtain ⟨u, hu, ru⟩ := rv.get hx
    obtain ⟨u2, hu2, ru2⟩ := rv2.get hy
    have hh := I.ok.hd hc
    have hzl : z < s.heap.objs.size := Heap.lt_size hz
    have l1 : i < us.toArray.size := by simpa using (List.getElem?_eq_some_iff.mp hu).1
    have l2 : i < ws.toArray.size := by simpa using (List.getElem?_eq_some_iff.mp hu2).1
    refine wpAny_pyNext_zipD2_item D.S (drawsB k1 (A := X.A.in1) hh i1 a D.a1 us.toArray) (drawsB k2 (A := X.A.in1) hh i2 b D.b2 ws.toArray) hz hTI hTO ⟨h1, p1⟩ ⟨h2, p2⟩ l1 l2 fun v1 v2 h' tk e1 e2 z' TO' s1 s2 hT hsz hk => ?_
    have ev1 : u = v1 := by rw [show us.toArray[i]? = us[i]? by simp, hu] at e1; exact Option.some.inj e1
    have ev2 : u2 = v2 := by rw [show ws.toArray[i]? = ws[i]? by simp, hu2] at e2; exact Option.some.inj e2
    subst ev1 ev2
    refine ⟨_, rfl, wpAny_letOwnedTupleGo_zip (s := { s with heap := h', toks := tk }) z' fun h'' z'' sb => ?_⟩
    have old : ∀ c o, c ≠ z → h'.get? c = some o → h''.get? c = some o := fun c o hcz q => (sb.2 c hcz).trans q
    have new : ObjOk X.prog X.w (upd H s.heap.objs.size (.frz { cls := .type "tuple", data := .seq #[u, u2] } (.tup [x, y]))) h'' s.heap.objs.size (.frz { cls := .type "tuple", data := .seq #[u, u2] } (.tup [x, y])) :=
      ⟨old _ _ (Nat.ne_of_gt hzl) hT, (by decide : 2 ≤ sizeLine), [u, u2], .cons ru (.cons ru2 .nil), ⟨_, old _ _ (Nat.ne_of_gt hzl) hT, rfl, _, rfl⟩⟩
    have I1 : Inv X pins σ (upd H s.heap.objs.size (.frz { cls := .type "tuple", data := .seq #[u, u2] } (.tup [x, y]))) { s with heap := h'', toks := tk } :=
      I.turnedNew (t' := tk) (ch := [z, TI, TO, i1, i2]) (fun c o hb q => by
        simp only [List.mem_cons, List.not_mem_nil, or_false, not_or] at hb
        exact old c o hb.1 (hk c o hb.1 hb.2.2.1 hb.2.2.2.1 hb.2.2.2.2 q)) hf (Nat.le_refl _) new
    refine ⟨.ref s.heap.objs.size, _, I1, rfl, ⟨_, _, x, y, rfl, rfl, I.hok.fresh (Nat.le_refl _), rfl, fun l hl => by rw [sqB_inj I hl hqx]; exact hx, fun l hl => by rw [sqB_inj I hl hqy]; exact hy⟩, ⟨z'', ?_, ⟨u, u2, old _ _ D.S.TOz TO'⟩, ?_, ?_⟩, fun c hcm => ?_⟩
    · exact old _ _ D.S.TIz (hk _ _ D.S.TIz D.S.TITO D.S.TIi1 D.S.TIi2 hTI)
    · exact itB_at s1.1 fun o q => old _ o D.S.zi1.symm q
    · exact itB_at s2.1 fun o q => old _ o D.S.zi2.symm q
    · have hlt : c < s.heap.objs.size := by
        simp only [List.mem_cons, List.not_mem_nil, or_false] at hcm
        rcases hcm with q | q | q | q | q <;> rw [q]
        · exact hzl
        · exact Heap.lt_size hTI
        · exact Heap.lt_size hTO
        · obtain ⟨_, e, _⟩ := itB_obj h1; exact Heap.lt_size e
        · obtain ⟨_, e, _⟩ := itB_obj h2; exact Heap.lt_size e
      rw [upd_ne (Nat.ne_of_lt hlt)]
      exact (hf c hcm).1
  done := by
    intro X hP hw hK hc i pins s σ H E I hf ⟨hz, hTI, ⟨x0, y0, hTO⟩, h1, h2⟩ hg
    subst hP hw hK
    obtain ⟨xs, ys, hqx, hqy, b1, b2, hend⟩ := hg
    obtain ⟨us, rv, p1, _⟩ := sqB_seq I hqx
    obtain ⟨ws, rv2, p2, _⟩ := sqB_seq I hqy
    have hh := I.ok.hd hc
    have e1 : us.toArray.size = xs.length := by rw [List.size_toArray]; exact rv.length.symm
    have e2 : ws.toArray.size = ys.length := by rw [List.size_toArray]; exact rv2.length.symm
    refine wpAny_pyNext_zipD2_end D.S (drawsB k1 (A := X.A.in1) hh i1 a D.a1 us.toArray) (drawsB k2 (A := X.A.in1) hh i2 b D.b2 ws.toArray) hz hTI hTO ⟨h1, p1⟩ ⟨h2, p2⟩ (by rw [e1]; exact b1) (by rw [e2]; exact b2) (by rw [e1, e2]; exact hend) fun h' tk hk => ?_
    exact ⟨rfl, I.turnedL (t' := tk) (ch := [z, TI, TO, i1, i2]) (fun c o hb q => by
      simp only [List.mem_cons, List.not_mem_nil, or_false, not_or] at hb
      exact hk c o hb.1 hb.2.2.1 hb.2.2.2.1 hb.2.2.2.2 q) hf⟩
  self := fun A i s Q E st h => wpAny_pyIter_zip st.1 h
theorem zipCells_new {a b N : Nat} (ha : a < N) (hb : b < N) : ZipCells (N + 4) (N + 2) (N + 3) N (N + 1) a b := by
  have m1 : ∀ {x : Nat}, x ≠ N → x ≠ a → x ∉ [N, a] := fun h h' => by simp [h, h']
  have m2 : ∀ {x : Nat}, x ≠ N + 1 → x ≠ b → x ∉ [N + 1, b] := fun h h' => by simp [h, h']
  have w : ∀ {x y : Nat}, (x < y ∨ y < x) → x ≠ y := fun h => by omega
  refine ⟨⟨w ?_, w ?_, w ?_, w ?_, List.mem_cons_self, m1 (w ?_) (w ?_), m1 (w ?_) (w ?_), w ?_, List.mem_cons_self, m2 (w ?_) (w ?_), m2 (w ?_) (w ?_), m2 (w ?_) (w ?_), m1 (w ?_) (w ?_)⟩, w ?_, w ?_⟩ <;> omega
theorem cells_le5 {N c : Nat} (h : c ∈ [N + 4, N + 2, N + 3, N, N + 1]) : N ≤ c := by
  simp only [List.mem_cons, List.not_mem_nil, or_false] at h
  omega
theorem cells_le2 {N c : Nat} (h : c ∈ [N + 1, N]) : N ≤ c := by
  simp only [List.mem_cons, List.not_mem_nil, or_false] at h
  omega
theorem enum_ne {a N : Nat} (ha : a < N) : N + 1 ≠ N ∧ N + 1 ≠ a ∧ a ≠ N := by omega
def iZ (K : PySem.W.Frag) (ta : TA) : TI := fun σ H R => ta σ H fun vs H1 => ∃ k1 k2 a b xs ys, vs = [.ref a, .ref b] ∧ SqB k1 K H1 a xs ∧ SqB k2 K H1 b ys ∧ R (ItZ k1 k2 K a b) H1
theorem pi_zipB {X : Cx} {e e2 : Expr} {ta : TA} {p pos tpos : Pos} {elts : List Expr} {kk : Nat} (hg : Gl X "zip") (hm : X.mg "zip" = none) (ha : PA X [e, e2] ta)
    (hs : starEach [e, e2] X.env = (false, eval e X.env) :: starEach [e2] X.env := by rfl) (hpl : (backTo pos (starEach [e2] X.env)).any (·.1) = false := by rfl) :
    PI X (.Tuple elts kk tpos) (.Call (.Name "zip" p) [e, e2] [] pos) (iZ X.K ta) := by
  refine ⟨fun pins s σ H R I h => Call_ (ld_blt I hg hm PyProof.Rows.boot_zip (PyProof.Rows.callWith_type1 (thn (ha.run pos pins s σ H _ I h) fun us s1 ⟨vs, H1, I1, r1, q1⟩ => ?_) hs hpl))⟩
  obtain ⟨k1, k2, a, b, xs, ys, rfl, hqx, hqy, q⟩ := q1
  cases r1 with
  | cons r t =>
    cases t with
    | cons r' t =>
      cases t; cases r; cases r'
      obtain ⟨us, rv, p1, _⟩ := sqB_seq I1 hqx
      obtain ⟨ws, rv2, p2, _⟩ := sqB_seq I1 hqy
      have la := seqB_lt p1
      have lb := seqB_lt p2
      refine zip_begins2 (beginsB k1 a us.toArray) (beginsB k2 b ws.toArray) p1 p2 fun h' hz hTI hTO h1 h2 hsz hk => wpAny_pyIter_zip hz ?_
      generalize hN : s1.heap.objs.size = N at *
      have I2 : Inv X pins σ H1 { s1 with heap := h' } := I1.kept (t' := s1.toks) hk
      refine ⟨N + 4, [N + 4, N + 2, N + 3, N, N + 1], _, _, H1, rfl, I2, turn_zipB k1 k2 (TI := N + 2) (TO := N + 3) (i1 := N) (i2 := N + 1) (zipCells_new la lb), ⟨hz, hTI, ⟨_, _, hTO⟩, itB_new k1 h1, itB_new k2 h2⟩, fun c hcm => ?_, q⟩
      have hle : s1.heap.objs.size ≤ c := by
        rw [hN]; exact cells_le5 hcm
      exact I1.fpOk hle (I1.hok.fresh hle)

/-! ### enumerate -/
def ItE (k : Bool) (K : PySem.W.Frag) (a : Addr) : It :=
  ⟨fun i H => ∃ (xs : List V) (x : V), SqB k K H a xs ∧ xs[i]? = some x, fun i H v H' => ∃ T o x, v = .ref T ∧ o.dict = none ∧ H T = none ∧ H' = upd H T (.frz o (.tup [.int (i : Nat), x])) ∧ ∀ xs, SqB k K H a xs → xs[i]? = some x, fun i H => ∃ xs : List V, SqB k K H a xs ∧ xs.length = i⟩
theorem turn_enumB {P : Program} {w : World} {K : PySem.W.Frag} {elts : List Expr} {kk : Nat} {tpos : Pos} (k : Bool) {a e it : Addr} (hei : e ≠ it) (hea : e ≠ a) (hai : a ≠ it) :
    Turn P w K (.Tuple elts kk tpos) (ItE k K a) [e, it] e (fun i h => (∃ old, IsEnum h e it ((i : Nat) : Int) old) ∧ ItB k h it a i) where
  mem := List.mem_cons_self
  obj := fun i h ⟨⟨old, he⟩, hi⟩ c hc => by
    simp only [List.mem_cons, List.not_mem_nil, or_false] at hc
    rcases hc with q | q <;> rw [q]
    · exact ⟨_, he, fun v q => nomatch q⟩
    · exact itB_obj hi
  keep := fun i h h' ⟨⟨old, he⟩, hi⟩ kp => ⟨⟨old, kp e (by simp) _ he⟩, itB_at hi fun o q => kp it (by simp) o q⟩
  item := by
    intro X hP hw hK hc i pins s σ H E I hf ⟨⟨old, he⟩, hit⟩ hg
    subst hP hw hK
    obtain ⟨xs, x, hq, hx⟩ := hg
    obtain ⟨us, rv, p1, _⟩ := sqB_seq I hq
    obtain ⟨u, hu, ru⟩ := rv.get hx
    have hh := I.ok.hd hc
    have hel : e < s.heap.objs.size := Heap.lt_size he
    have hil : it < s.heap.objs.size := by obtain ⟨_, q, _⟩ := itB_obj hit; exact Heap.lt_size q
    have l1 : i < us.toArray.size := by simpa using (List.getElem?_eq_some_iff.mp hu).1
    refine wpAny_pyNext_enum_itemD (drawsB k (A := X.A.in1) hh it a hai us.toArray) he ⟨hit, p1⟩ l1 hei (by simp [hei, hea]) fun v h' tk e1 ho st hT hsz hk => ?_
    have ev1 : u = v := by rw [show us.toArray[i]? = us[i]? by simp, hu] at e1; exact Option.some.inj e1
    subst ev1
    refine ⟨_, rfl, wpAny_letOwnedTupleGo_enum (s := { s with heap := h', toks := tk + 1 }) ho fun h'' he' sb => ?_⟩
    have keepE : ∀ c o, c ≠ e → h'.get? c = some o → h''.get? c = some o := fun c o hce q => (sb.2 c hce).trans q
    have new : ObjOk X.prog X.w (upd H s.heap.objs.size (.frz { cls := .type "tuple", data := .seq #[.int i tk, u] } (.tup [.int (i : Nat), x]))) h'' s.heap.objs.size (.frz { cls := .type "tuple", data := .seq #[.int i tk, u] } (.tup [.int (i : Nat), x])) :=
      ⟨keepE _ _ (Nat.ne_of_gt hel) hT, (by decide : 2 ≤ sizeLine), [.int i tk, u], .cons ⟨_, rfl⟩ (.cons ru .nil), ⟨_, keepE _ _ (Nat.ne_of_gt hel) hT, rfl, _, rfl⟩⟩
    have I1 : Inv X pins σ (upd H s.heap.objs.size (.frz { cls := .type "tuple", data := .seq #[.int i tk, u] } (.tup [.int (i : Nat), x]))) { s with heap := h'', toks := tk + 1 } :=
      I.turnedNew (t' := tk + 1) (ch := [e, it]) (fun c o hb q => by
        simp only [List.mem_cons, List.not_mem_nil, or_false, not_or] at hb
        exact keepE c o hb.1 (hk c o hb.1 hb.2 q)) hf (Nat.le_refl _) new
    refine ⟨.ref s.heap.objs.size, _, I1, rfl, ⟨_, _, x, rfl, rfl, I.hok.fresh (Nat.le_refl _), rfl, fun l hl => by rw [sqB_inj I hl hq]; exact hx⟩, ⟨⟨u, by rw [show ((i + 1 : Nat) : Int) = (i : Int) + 1 by omega]; exact he'⟩, itB_at st.1 fun o q => keepE _ o (Ne.symm hei) q⟩, fun c hcm => ?_⟩
    have hlt : c < s.heap.objs.size := by
      simp only [List.mem_cons, List.not_mem_nil, or_false] at hcm
      rcases hcm with q | q <;> rw [q]
      · exact hel
      · exact hil
    rw [upd_ne (Nat.ne_of_lt hlt)]
    exact (hf c hcm).1
  done := by
    intro X hP hw hK hc i pins s σ H E I hf ⟨⟨old, he⟩, hit⟩ hg
    subst hP hw hK
    obtain ⟨xs, hq, hl⟩ := hg
    obtain ⟨us, rv, p1, _⟩ := sqB_seq I hq
    obtain ⟨f0, f1, f2, f3, f4, f5⟩ := hf it (by simp)
    have hh := I.ok.hd hc
    have e1 : us.toArray.size = i := by rw [List.size_toArray, ← hl]; exact rv.length.symm
    exact wpAny_pyNext_enum_endD (drawsB k (A := X.A.in1) hh it a hai us.toArray) he ⟨by rw [e1]; exact hit, p1⟩ fun h' eb => ⟨rfl, I.turned (t' := s.toks) (fun b o hb q => eb b o hb q) f0 f1 f3 f4 f5⟩
  self := fun A i s Q E st h => let ⟨⟨_, he⟩, _⟩ := st; wpAny_pyIter_enum he h
theorem meets_enumA {v : Value} {o : Obj} {H1 : Heap → Prop} (B : Begins v o H1) :
    Meets (Builtin.«enumerate.__new__» ⟨[.type "enumerate", v], []⟩) (fun _ R s => H1 s.heap ∧
      R (.ok (.ret (.ref (s.heap.push o).objs.size))) { s with heap := (s.heap.push o).push { cls := .type "enumerate", data := .fields #[.none, .bool false, .ref s.heap.objs.size, rawInt 0, .none, .none] } }) :=
  .of_wp fun prog w A R s h => by
    obtain ⟨hp, gg, dd, tk, os⟩ := s
    obtain ⟨hB, h⟩ := h
    have hsub := sub_enumerate
    have qi : ∀ {A' : Around} {E' : Value → Shared → Prop} {Q' : Value → Shared → Prop}, Q' (.ref hp.objs.size) ⟨hp.push o, gg, dd, tk, os⟩ → wpAny (model prog w) A' (pyIter v) Q' E' ⟨hp, gg, dd, tk, os⟩ := fun q => B.iter prog w _ _ ⟨hp, gg, dd, tk, os⟩ _ hB q
    wp_walk
    refine wpAny_stack_any fun st => wpAny_pure ?_
    split
    · rename_i c _ _ _ _ _
      cases (c == Value.type "enumerate") <;> (wp_walk using qi; exact ⟨_, rfl, h⟩)
    · wp_walk using qi
      exact ⟨_, rfl, h⟩
theorem enumA_begins {prog : Program} {w : World} {A : Around} {E : Value → Shared → Prop} {s : Shared} {v : Value} {o : Obj} {H1 : Heap → Prop} {Q : Value → Shared → Prop} (B : Begins v o H1) (h1 : H1 s.heap)
    (h : ∀ h', IsEnum h' (s.heap.objs.size + 1) s.heap.objs.size 0 .none → h'.get? s.heap.objs.size = some o → (∀ b o, s.heap.get? b = some o → h'.get? b = some o) → Q (.ref (s.heap.objs.size + 1)) { s with heap := h' }) :
    wpAny (model prog w) A (call (.type "enumerate") [v]) Q E s := by
  refine callType_new F.called_enumerate (by decide) (F.typeCall_enumerate_1 _) (F.newCall_enumerate_1 _) (fun obj => F.args_object_init_2 obj _) F.entry_enumerate_new (meets_enumA B) ⟨h1, ?_⟩
  have sz : (s.heap.push o).objs.size = s.heap.objs.size + 1 := Heap.size_push ..
  have he := Heap.get?_push_size (s.heap.push o) (o := { cls := .type "enumerate", data := .fields #[.none, .bool false, .ref s.heap.objs.size, rawInt 0, .none, .none] }) rfl
  show _ ∧ _
  rw [sz] at he ⊢
  exact ⟨⟨_, he, rfl⟩, h _ he (Heap.get?_push_of_some _ (Heap.get?_push_size _ B.free)) fun b o x => Heap.get?_push_of_some _ (Heap.get?_push_of_some _ x)⟩
def iE (K : PySem.W.Frag) (ta : TA) : TI := fun σ H R => ta σ H fun vs H1 => ∃ k a xs, vs = [.ref a] ∧ SqB k K H1 a xs ∧ R (ItE k K a) H1
theorem pi_enumB {X : Cx} {e : Expr} {ta : TA} {p pos tpos : Pos} {elts : List Expr} {kk : Nat} (hg : Gl X "enumerate") (hm : X.mg "enumerate" = none) (ha : PA X [e] ta) (hs : starEach [e] X.env = [(false, eval e X.env)] := by rfl) :
    PI X (.Tuple elts kk tpos) (.Call (.Name "enumerate" p) [e] [] pos) (iE X.K ta) := by
  refine ⟨fun pins s σ H R I h => Call_ (ld_blt I hg hm boot_enumerate (PyProof.Rows.callWith_type1 (thn (ha.run pos pins s σ H _ I h) fun us s1 ⟨vs, H1, I1, r1, q1⟩ => ?_) hs rfl))⟩
  obtain ⟨k, a, xs, rfl, hq, q⟩ := q1
  cases r1 with
  | cons r t =>
    cases t; cases r
    obtain ⟨us, rv, p1, _⟩ := sqB_seq I1 hq
    have la := seqB_lt p1
    refine enumA_begins (beginsB k a us.toArray) p1 fun h' he hi hk => wpAny_pyIter_enum he ?_
    generalize hN : s1.heap.objs.size = N at *
    have I2 : Inv X pins σ H1 { s1 with heap := h' } := I1.kept (t' := s1.toks) hk
    refine ⟨N + 1, [N + 1, N], _, _, H1, rfl, I2, turn_enumB k (e := N + 1) (it := N) (enum_ne la).1 (enum_ne la).2.1 (enum_ne la).2.2, ⟨⟨_, he⟩, itB_new k hi⟩, fun c hcm => ?_, q⟩
    have hle : s1.heap.objs.size ≤ c := by
      rw [hN]; exact cells_le2 hcm
    exact I1.fpOk hle (I1.hok.fresh hle)

/-! ### over data -/
/-- a list or tuple that is data -/
def asSeqD : Val → Option (List D)
  | .d (.lst ds) => some ds
  | .d (.tup ds) => some ds
  | _ => none
def zipD : List D → List D → List D
  | x :: xs, y :: ys => .tup [x, y] :: zipD xs ys
  | _, _ => []
def enumD : Int → List D → List D
  | _, [] => []
  | i, x :: xs => .tup [.int i, x] :: enumD (i + 1) xs
theorem zipD_get : ∀ {xs ys : List D} {i : Nat} {d : D}, (zipD xs ys)[i]? = some d → ∃ x y, xs[i]? = some x ∧ ys[i]? = some y ∧ d = .tup [x, y]
  | x :: xs, y :: ys, 0, d, h => by simp [zipD] at h; exact ⟨x, y, rfl, rfl, h.symm⟩
  | x :: xs, y :: ys, i + 1, d, h => by
    obtain ⟨a, b, h1, h2, h3⟩ := zipD_get (xs := xs) (ys := ys) (i := i) (d := d) (by simpa [zipD] using h)
    exact ⟨a, b, by simpa using h1, by simpa using h2, h3⟩
  | [], ys, i, d, h => by simp [zipD] at h
  | x :: xs, [], i, d, h => by simp [zipD] at h
theorem zipD_length : ∀ (xs ys : List D), (zipD xs ys).length = min xs.length ys.length
  | x :: xs, y :: ys => by simp [zipD, zipD_length xs ys]
  | [], ys => by simp [zipD]
  | x :: xs, [] => by simp [zipD]
theorem enumD_get : ∀ {xs : List D} {j : Int} {i : Nat} {d : D}, (enumD j xs)[i]? = some d → ∃ x, xs[i]? = some x ∧ d = .tup [.int (j + (i : Int)), x]
  | x :: xs, j, 0, d, h => by simp [enumD] at h; exact ⟨x, rfl, by rw [← h]; simp⟩
  | x :: xs, j, i + 1, d, h => by
    obtain ⟨a, h1, h3⟩ := enumD_get (xs := xs) (j := j + 1) (i := i) (d := d) (by simpa [enumD] using h)
    exact ⟨a, by simpa using h1, by rw [h3]; congr 3; show _ = j + ((i + 1 : Nat) : Int); omega⟩
  | [], j, i, d, h => by simp [enumD] at h
theorem enumD_length : ∀ (xs : List D) (j : Int), (enumD j xs).length = xs.length
  | [], j => rfl
  | x :: xs, j => by simp [enumD, enumD_length xs]
/-- a sequence that stays -/
theorem asSeqD_q {K : PySem.W.Frag} {g : G} {s : S} {H : Hp} {v : V} {c : Val} {ds : List D} (r : RepV K g s H v c) (e : asSeqD c = some ds) :
    ∃ k a xs, v = .ref a ∧ SqB k K H a xs ∧ xs.length ≤ sizeLine ∧ Reps K (Ov g s) H xs ds ∧ ∀ H', (∀ a, ¬ Ov g s a → ∀ o, H a = some o → H' a = some o) → SqB k K H' a xs := by
  unfold asSeqD at e
  split at e
  · cases e
    cases r with
    | lst a xs ds hO h hl r =>
      exact ⟨true, a, xs, rfl, .of h, hl, r, fun H' kp => .of (kp a hO _ h)⟩
  · cases e
    cases r with
    | tup a xs ds hO h hl r =>
      obtain ⟨o, _, h⟩ := h
      exact ⟨false, a, xs, rfl, .inl (.inr ⟨o, h⟩), hl, r, fun H' kp => .inl (.inr ⟨o, kp a hO _ h⟩)⟩
    | tupK a xs ds o its n hk hc hq hd hz hv r => exact ⟨false, a, xs, rfl, .inr ⟨o, its, n, hk, hc, hd, hz, hv⟩, by rw [hv.length]; simpa using hz, r, fun H' kp => .inr ⟨o, its, n, hk, hc, hd, hz, hv⟩⟩
  · cases e
def wZip (pa : TPa) : TPi := fun s Q => pa s fun cs s1 => match cs with
  | [c, d] => match asSeqD c, asSeqD d with
    | some xs, some ys => Q (zipD xs ys) s1
    | _, _ => False
  | _ => False
def wEnum (pa : TPa) : TPi := fun s Q => pa s fun cs s1 => match cs with
  | [c] => match asSeqD c with
    | some xs => Q (enumD 0 xs) s1
    | _ => False
  | _ => False
theorem fresh_tup2 {K : PySem.W.Frag} {O : Addr → Prop} {H : Hp} {T : Addr} {o : Obj} {x y : V} {a b : D} (ho : o.dict = none) (hT : H T = none) (hO : ¬ O T) (ra : Rep K O H x a) (rb : Rep K O H y b) : Rep K O (upd H T (.frz o (.tup [x, y]))) (.ref T) (.tup [a, b]) := by
  have st : ∀ c, ¬ O c → ∀ u, H c = some u → upd H T (.frz o (.tup [x, y])) c = some u := fun c _ u h => upd_keeps hT c u h
  exact .tup T _ _ hO ⟨o, ho, upd_same⟩ (by show 2 ≤ sizeLine; decide) (.cons _ _ _ _ (ra.stay st fun c h => .inl h) (.cons _ _ _ _ (rb.stay st fun c h => .inl h) .nil))
section
variable {X : Cx} {e e2 : Expr} {pa : TPa} {p' pos tpos : Pos} {elts : List Expr} {kk : Nat}
theorem ppi_zip (T : Blt X.mg) (hg : Gl X "zip") (ha : PPa X [e, e2] pa) (hs : starEach [e, e2] X.env = (false, eval e X.env) :: starEach [e2] X.env := by rfl) (hpl : (backTo pos (starEach [e2] X.env)).any (·.1) = false := by rfl) :
    PPi X (.Tuple elts kk tpos) (.Call (.Name "zip" p') [e, e2] [] pos) (wZip pa) :=
  PIw (pi_zipB hg T.zip ha hs hpl) fun σ H R ⟨g, s, Qp, hd, hp, k⟩ => ⟨g, s, _, hd, hp, fun vs H' cs g' s' hd' a' r hq => by
    split at hq
    · rename_i c d
      split at hq
      · rename_i xs ys e1 e2
        cases r with
        | cons r t =>
          cases t with
          | cons r2 t =>
            cases t
            obtain ⟨k1, a, us, rfl, h1, l1, rr1, st1⟩ := asSeqD_q r e1
            obtain ⟨k2, b, ws, rfl, h2, l2, rr2, st2⟩ := asSeqD_q r2 e2
            refine ⟨k1, k2, a, b, us, ws, rfl, h1, h2, k _ _ _ _ _ hd' a' ⟨?_, fun i O' H2 kp ov tr => ⟨fun hi => ⟨us, ws, st1 H2 kp, st2 H2 kp, ?_⟩, fun x hx => ?_⟩⟩ hq⟩
            · rw [zipD_length, ← rr1.length]; omega
            · rw [zipD_length, ← rr1.length, ← rr2.length] at hi
              omega
            · obtain ⟨x1, y1, f1, f2, rfl⟩ := zipD_get hx
              obtain ⟨u, g1, g2⟩ := rr1.get f1
              obtain ⟨v, g3, g4⟩ := rr2.get f2
              refine ⟨⟨us, ws, u, v, st1 H2 kp, st2 H2 kp, g1, g3⟩, fun z H3 ⟨T, o', u', v', ez, ho, hT, eH, q1, q2⟩ => ?_⟩
              subst ez eH
              have e3 := q1 us (st1 H2 kp)
              rw [g1] at e3; cases e3
              have e4 := q2 ws (st2 H2 kp)
              rw [g3] at e4; cases e4
              exact ⟨upd_keeps hT, fresh_tup2 ho hT (fun z => tr T z hT) (g2.stay kp ov) (g4.stay kp ov)⟩
      · exact hq.elim
    · exact hq.elim⟩
theorem ppi_enum (T : Blt X.mg) (hg : Gl X "enumerate") (ha : PPa X [e] pa) (hs : starEach [e] X.env = [(false, eval e X.env)] := by rfl) :
    PPi X (.Tuple elts kk tpos) (.Call (.Name "enumerate" p') [e] [] pos) (wEnum pa) :=
  PIw (pi_enumB hg T.enumerate ha hs) fun σ H R ⟨g, s, Qp, hd, hp, k⟩ => ⟨g, s, _, hd, hp, fun vs H' cs g' s' hd' a' r hq => by
    split at hq
    · rename_i c
      split at hq
      · rename_i xs e1
        cases r with
        | cons r t =>
          cases t
          obtain ⟨k1, a, us, rfl, h1, l1, rr1, st1⟩ := asSeqD_q r e1
          refine ⟨k1, a, us, rfl, h1, k _ _ _ _ _ hd' a' ⟨?_, fun i O' H2 kp ov tr => ⟨fun hi => ⟨us, st1 H2 kp, ?_⟩, fun x hx => ?_⟩⟩ hq⟩
          · rw [enumD_length, ← rr1.length]; omega
          · rw [enumD_length, ← rr1.length] at hi
            exact hi
          · obtain ⟨x1, f1, rfl⟩ := enumD_get hx
            obtain ⟨u, g1, g2⟩ := rr1.get f1
            refine ⟨⟨us, u, st1 H2 kp, g1⟩, fun z H3 ⟨T, o', u', ez, ho, hT, eH, q1⟩ => ?_⟩
            subst ez eH
            have e3 := q1 us (st1 H2 kp)
            rw [g1] at e3; cases e3
            refine ⟨upd_keeps hT, fresh_tup2 ho hT (fun z => tr T z hT) ?_ (g2.stay kp ov)⟩
            rw [Int.zero_add]; exact .int _
      · exact hq.elim
    · exact hq.elim⟩
end
end Bx
end

section
/-! Dicts over data. -/
namespace Bx
open PySem L2 PySem.Spec PyProof.Rows

/-! ### tables -/
def putD (kvs : List (Key × D)) (k : Key) (d : D) : List (Key × D) := if (kvs.any fun kv => decide (kv.1 = k)) = true then kvs.map (fun kv => if kv.1 = k then (kv.1, d) else kv) else kvs ++ [(k, d)]
def mergeD (kvs more : List (Key × D)) : List (Key × D) := more.foldl (fun acc kv => putD acc kv.1 kv.2) kvs
def keyD : Val → Option Key
  | .d (.int i) => some (.inl i)
  | .d (.str x) => some (.inr x)
  | _ => none
theorem look_snoc (k : Key) (d : D) : ∀ kvs, look k (kvs ++ [(k, d)]) = some ((look k kvs).getD d)
  | [] => by simp [look]
  | (j, x) :: r => by
    simp only [List.cons_append, look]
    split
    · rfl
    · exact look_snoc k d r
theorem look_app (k : Key) : ∀ kvs more : List (Key × D), look k (kvs ++ more) = (look k kvs).or (look k more)
  | [], more => rfl
  | (j, x) :: r, more => by
    simp only [List.cons_append, look]
    split
    · rfl
    · exact look_app k r more
theorem look_map (k j : Key) (d : D) : ∀ kvs : List (Key × D), look j (kvs.map fun kv => if kv.1 = k then (kv.1, d) else kv) = (look j kvs).map fun x => if j = k then d else x
  | [] => rfl
  | (i, x) :: r => by
    rw [List.map_cons]
    by_cases h : i = k
    · rw [if_pos h]
      simp only [look]
      by_cases e : i = j
      · rw [if_pos e, if_pos e, Option.map_some, if_pos (e.symm.trans h)]
      · rw [if_neg e, if_neg e]; exact look_map k j d r
    · rw [if_neg h]
      simp only [look]
      by_cases e : i = j
      · rw [if_pos e, if_pos e, Option.map_some, if_neg (fun z => h (e.trans z))]
      · rw [if_neg e, if_neg e]; exact look_map k j d r
theorem look_any (k : Key) : ∀ kvs : List (Key × D), (kvs.any fun kv => decide (kv.1 = k)) = (look k kvs).isSome
  | [] => rfl
  | (i, x) :: r => by
    rw [List.any_cons]
    simp only [look]
    by_cases e : i = k
    · rw [if_pos e, decide_eq_true e]; rfl
    · rw [if_neg e, decide_eq_false e, Bool.false_or]; exact look_any k r
theorem look_put (kvs : List (Key × D)) (k j : Key) (d : D) : look j (putD kvs k d) = if j = k then some d else look j kvs := by
  unfold putD
  rw [look_any]
  cases h : look k kvs with
  | some x =>
    rw [Option.isSome_some, if_pos rfl, look_map]
    by_cases e : j = k
    · rw [if_pos e, e, h, Option.map_some, if_pos rfl]
    · rw [if_neg e]
      cases look j kvs with
      | none => rfl
      | some y => rw [Option.map_some, if_neg e]
  | none =>
    rw [Option.isSome_none, if_neg (by decide), look_app]
    by_cases e : j = k
    · rw [if_pos e, e, h, Option.none_or]; simp [look]
    · rw [if_neg e]
      simp only [look]
      rw [if_neg (fun z => e z.symm)]
      cases look j kvs <;> rfl
theorem putD_new {kvs : List (Key × D)} {k : Key} (d : D) (h : look k kvs = none) : putD kvs k d = kvs ++ [(k, d)] := by
  unfold putD
  rw [look_any, h]
  exact if_neg (by decide)
section
variable {K : PySem.W.Frag} {O : Addr → Prop} {H : Hp}
theorem RepK.length : ∀ {vs : List (Key × V)} {ds : List (Key × D)}, RepK K O H vs ds → vs.length = ds.length
  | _, _, .nil => rfl
  | _, _, .cons _ _ _ _ _ _ t => congrArg Nat.succ (RepK.length t)
theorem RepK.val {k : Key} : ∀ {vs : List (Key × V)} {ds : List (Key × D)}, RepK K O H vs ds → match look k ds with
    | some d => ∃ v, valV vs k = some v ∧ Rep K O H v d
    | none => valV vs k = none
  | _, _, .nil => rfl
  | _, _, .cons j v vs d ds r t => by
    simp only [look]
    by_cases e : j = k
    · rw [if_pos e]
      exact ⟨v, valV_pos e, r⟩
    · rw [if_neg e, valV_neg e]
      exact RepK.val t
theorem RepK.some {k : Key} {vs : List (Key × V)} {ds : List (Key × D)} {d : D} (r : RepK K O H vs ds) (e : look k ds = some d) : ∃ v, valV vs k = some v ∧ Rep K O H v d := by
  have := r.val (k := k)
  rw [e] at this; exact this
theorem RepK.none {k : Key} {vs : List (Key × V)} {ds : List (Key × D)} (r : RepK K O H vs ds) (e : look k ds = none) : valV vs k = none := by
  have := r.val (k := k)
  rw [e] at this; exact this
theorem RepK.isSome {k : Key} {vs : List (Key × V)} {ds : List (Key × D)} (r : RepK K O H vs ds) : (valV vs k).isSome = (look k ds).isSome := by
  cases e : look k ds with
  | none => rw [r.none e]; rfl
  | some d => obtain ⟨v, h, _⟩ := r.some e; rw [h]; rfl
theorem RepK.append : ∀ {vs ws : List (Key × V)} {ds es : List (Key × D)}, RepK K O H vs ds → RepK K O H ws es → RepK K O H (vs ++ ws) (ds ++ es)
  | _, _, _, _, .nil, t => t
  | _, _, _, _, .cons k v vs d ds r t, u => .cons k v _ d _ r (RepK.append t u)
theorem RepK.put {k : Key} {v : V} {d : D} {vs : List (Key × V)} {ds : List (Key × D)} (r : RepK K O H vs ds) (rv : Rep K O H v d) : RepK K O H (putK vs k v) (putD ds k d) := by
  have e : (vs.any fun kv => decide (kv.1 = k)) = (ds.any fun kv => decide (kv.1 = k)) := by rw [valV_any, look_any]; exact r.isSome
  have m : ∀ {vs : List (Key × V)} {ds : List (Key × D)}, RepK K O H vs ds → RepK K O H (vs.map fun kv => if kv.1 = k then (kv.1, v) else kv) (ds.map fun kv => if kv.1 = k then (kv.1, d) else kv) := by
    intro vs
    induction vs with
    | nil => intro ds r; cases r; exact .nil
    | cons p vs ih =>
      intro ds r
      cases r with
      | cons j x _ y es r t =>
        rw [List.map_cons, List.map_cons]
        by_cases h : j = k
        · rw [if_pos h, if_pos h]; exact .cons _ _ _ _ _ rv (ih t)
        · rw [if_neg h, if_neg h]; exact .cons _ _ _ _ _ r (ih t)
  unfold putK putD
  rw [e]
  split
  · exact m r
  · exact r.append (.cons _ _ _ _ _ rv .nil)
theorem RepK.merge {ws : List (Key × V)} {es : List (Key × D)} (t : RepK K O H ws es) : ∀ {vs : List (Key × V)} {ds : List (Key × D)}, RepK K O H vs ds → RepK K O H (mergeK vs ws) (mergeD ds es) := by
  have h : ∀ {ws : List (Key × V)} {es : List (Key × D)}, RepK K O H ws es → ∀ {vs : List (Key × V)} {ds : List (Key × D)}, RepK K O H vs ds → RepK K O H (mergeK vs ws) (mergeD ds es) := by
    intro ws
    induction ws with
    | nil => intro es t; cases t; exact fun r => r
    | cons p ws ih =>
      intro es t
      cases t with
      | cons j x _ y es rx t => exact fun r => ih t (r.put rx)
  intro vs ds r; exact h t r
end

/-! ### d[k], k in d, d.get, d[k] = v -/
def bDGet : B2 := fun c d s Q => match asDct c s, keyD d with
  | some kvs, some k => match look k kvs with
    | some x => Q (.d x) s
    | none => False
  | _, _ => False
def bDIn (f : Bool → Bool) : B2 := fun d c s Q => match asDct c s, keyD d with
  | some kvs, some k => Q (.d (.bl (f (look k kvs).isSome))) s
  | _, _ => False
def wGet2 (p q r : TP) : TP := fun s Q => p s fun c s1 => match asDct c s1 with
  | some _ => q s1 fun d s2 => r s2 fun e s3 => match asDct c s3, keyD d, e with
    | some kvs, some k, .d z => Q (.d ((look k kvs).getD z)) s3
    | _, _, _ => False
  | none => False
def ownD (c : Val) (s : S) : Option (Nat × List (Key × D)) := match c with
  | .loc l => match nth s.own l with
    | some (some (.dct ds)) => some (l, ds)
    | _ => none
  | _ => none
def wDPut (p q r : TP) : TPs := fun E s => r s fun e s1 => p s1 fun c s2 => q s2 fun d s3 => match ownD c s3, keyD d, e with
  | some (l, kvs), some k, .d x => kvs.length < sizeLine ∧ E.nx (setO s3 l (.dct (putD kvs k x)))
  | _, _, _ => False
section
variable {K : PySem.W.Frag} {g : G} {s : S} {σ : L2.St} {H : Hp} {v y : V} {c d : Val}
theorem keyD_kV {k : Key} (r : RepV K g s H v c) (e : keyD c = some k) : v = kV k := by
  unfold keyD at e
  split at e
  · cases e; cases r; rfl
  · cases e; cases r; rfl
  · cases e
theorem ownD_q {l : Nat} {ds : List (Key × D)} (hd : Hold K g s σ H) (r : RepV K g s H v c) (e : ownD c s = some (l, ds)) :
    ∃ a xs, v = .ref a ∧ H a = some (.dK xs) ∧ xs.length ≤ sizeLine ∧ RepK K (Ov g s) H xs ds ∧ s.own[l]? = some (some (.dct ds)) ∧ g.adr[l]? = some a := by
  unfold ownD at e
  split at e
  · split at e
    · rename_i hn
      cases e
      rw [nth_eq] at hn
      obtain ⟨a, ea, rfl⟩ := r
      obtain ⟨xs, h1, h2, h3⟩ := hd.own _ _ _ hn ea
      exact ⟨a, xs, rfl, h1, h2, h3, hn, ea⟩
    · cases e
  · cases e
end
section
variable {X : Cx} {o i e f value : Expr} {p q r : TP} {pos pos' apos cpos : Pos} {W : WX}
theorem pp_dget (hu : X.A.units + 1 < cLine) (ho : PP X o p) (hi : PP X i q) (hs : NoSl i := by exact fun _ _ => rfl) : PP X (.Subscript o i pos) (wBin bDGet p q) :=
  PEw (pe_dget hu ho hi hs) fun σ H Q ⟨g, s, Qp, hd, hp, k⟩ => ⟨g, s, _, hd, hp, fun v1 H1 c1 g1 s1 hd1 a1 r1 hq => ⟨g1, s1, _, hd1, hq, fun v2 H2 c2 g2 s2 hd2 a2 r2 hb => by
    unfold bDGet at hb
    split at hb
    · rename_i e1 e2
      obtain ⟨a, ks, rfl, h1, hl, rr⟩ := asDct_q hd2 (r1.adv a2) e1
      split at hb
      · rename_i x e3
        obtain ⟨v, e4, rv⟩ := rr.some e3
        refine ⟨a, v, rfl, ?_, k _ _ (.d x) _ _ hd2 (a1.trans a2) rv hb⟩
        rw [keyD_kV r2 e2, ← e4]
        exact DGet.k h1
      · exact hb.elim
    · exact hb.elim⟩⟩
theorem pc_dinW (hu : X.A.units + 1 < cLine) (hi : PP X i q) (ho : PP X o p) : PC X .In i o (lift X.K (wBin (bDIn id) q p)) := by
  refine ⟨fun pins s σ H Q I h => (pc_din hu hi ho).run pins s σ H Q I ?_⟩
  obtain ⟨g, s, Qp, hd, hp, k⟩ := h
  exact ⟨g, s, _, hd, hp, fun v1 H1 c1 g1 s1 hd1 a1 r1 hq => ⟨g1, s1, _, hd1, hq, fun v2 H2 c2 g2 s2 hd2 a2 r2 hb => by
    unfold bDIn at hb
    split at hb
    · rename_i kvs kk e1 e2
      obtain ⟨a, ks, rfl, h1, hl, rr⟩ := asDct_q hd2 r2 e1
      refine ⟨a, valV ks kk, rfl, ?_, k _ _ (.d _) _ _ hd2 (a1.trans a2) (.bl _) ?_⟩
      · rw [keyD_kV r1 e2]; exact DGet.k h1
      · rw [rr.isSome]; exact hb
    · exact hb.elim⟩⟩
theorem pc_dnotInW (hu : X.A.units + 1 < cLine) (hi : PP X i q) (ho : PP X o p) : PC X .NotIn i o (lift X.K (wBin (bDIn not) q p)) := by
  refine ⟨fun pins s σ H Q I h => (pc_dnotin hu hi ho).run pins s σ H Q I ?_⟩
  obtain ⟨g, s, Qp, hd, hp, k⟩ := h
  exact ⟨g, s, _, hd, hp, fun v1 H1 c1 g1 s1 hd1 a1 r1 hq => ⟨g1, s1, _, hd1, hq, fun v2 H2 c2 g2 s2 hd2 a2 r2 hb => by
    unfold bDIn at hb
    split at hb
    · rename_i kvs kk e1 e2
      obtain ⟨a, ks, rfl, h1, hl, rr⟩ := asDct_q hd2 r2 e1
      refine ⟨a, valV ks kk, rfl, ?_, k _ _ (.d _) _ _ hd2 (a1.trans a2) (.bl _) ?_⟩
      · rw [keyD_kV r1 e2]; exact DGet.k h1
      · rw [rr.isSome]; exact hb
    · exact hb.elim⟩⟩
theorem pp_din (hu : X.A.units + 1 < cLine) (hi : PP X i q) (ho : PP X o p) (hm : behindInMarks .In o = false := by rfl) : PP X (.Compare i [.In] [o] pos) (wBin (bDIn id) q p) := pe_cmp (pc_dinW hu hi ho) hm
theorem pp_dnotIn (hu : X.A.units + 1 < cLine) (hi : PP X i q) (ho : PP X o p) (hm : behindInMarks .NotIn o = false := by rfl) : PP X (.Compare i [.NotIn] [o] pos) (wBin (bDIn not) q p) := pe_cmp (pc_dnotInW hu hi ho) hm
theorem ptw_test {t : TP} {op : CmpOp} (h : PC X op i o (lift X.K t)) (hm : behindInMarks op o = false) : PPt X (.Compare i [op] [o] pos) (wTest t) :=
  PTw (pt_cmp h hm) fun σ H Q ⟨g, s, Qp, hd, hp, k⟩ => ⟨g, s, _, hd, hp, fun v H' c g' s' hd' a' r hq => by
    split at hq
    · cases r
      exact ⟨_, rfl, k _ _ _ _ hd' a' hq⟩
    · exact hq.elim⟩
theorem ppt_din (hu : X.A.units + 1 < cLine) (hi : PP X i q) (ho : PP X o p) (hm : behindInMarks .In o = false := by rfl) : PPt X (.Compare i [.In] [o] pos) (wTest (wBin (bDIn id) q p)) := ptw_test (pc_dinW hu hi ho) hm
theorem ppt_dnotIn (hu : X.A.units + 1 < cLine) (hi : PP X i q) (ho : PP X o p) (hm : behindInMarks .NotIn o = false := by rfl) : PPt X (.Compare i [.NotIn] [o] pos) (wTest (wBin (bDIn not) q p)) := ptw_test (pc_dnotInW hu hi ho) hm
theorem pp_get2 (hu : X.A.units + 1 < cLine) (ho : PP X o p) (he : PP X e q) (hf : PP X f r)
    (h1 : attributeBase o "get" X.env (eval o X.env) = eval o X.env := by rfl)
    (h2 : ((backTo cpos (starEach [e, f] X.env)).all (fun x => !x.1) && (backToKw cpos (keywordEach [] X.env)).all (fun x => x.1.isSome) && decide (([e, f] : List Expr).length + ([] : List Keyword).length + (if ([] : List Keyword).isEmpty then 0 else 1) < 30)) = true := by rfl)
    (h3 : (apos.endLine == cpos.line) = true := by rfl) (h4 : backTo cpos (starEach [e, f] X.env) = [(false, eval e X.env), (false, eval f X.env)] := by rfl) : PP X (.Call (.Attribute o "get" apos) [e, f] [] cpos) (wGet2 p q r) :=
  PEw (pe_dget2 hu ho he hf ⟨h1, h2, h3, h4⟩) fun σ H Q ⟨g, s, Qp, hd, hp, k⟩ => ⟨g, s, _, hd, hp, fun v1 H1 c1 g1 s1 hd1 a1 r1 hq => by
    split at hq
    · rename_i kvs e1
      obtain ⟨a, ks, rfl, h1, hl, rr⟩ := asDct_q hd1 r1 e1
      refine ⟨a, rfl, .inl ⟨ks, .inl h1⟩, g1, s1, _, hd1, hq, fun v2 H2 c2 g2 s2 hd2 a2 r2 hq => ⟨g2, s2, _, hd2, hq, fun v3 H3 c3 g3 s3 hd3 a3 r3 hb => ?_⟩⟩
      split at hb
      · rename_i kvs kk z e1 e2
        obtain ⟨a', ks, ea, h1, hl, rr⟩ := asDct_q hd3 ((r1.adv a2).adv a3) e1
        cases ea
        refine ⟨valV ks kk, ?_, ?_⟩
        · rw [keyD_kV r2 e2]; exact DGet.k h1
        · cases h : look kk kvs with
          | none => rw [rr.none h]; exact k _ _ (.d z) _ _ hd3 (a1.trans (a2.trans a3)) r3 (by rw [h] at hb; exact hb)
          | some x =>
            obtain ⟨v, e4, rv⟩ := rr.some h
            rw [e4]; exact k _ _ (.d x) _ _ hd3 (a1.trans (a2.trans a3)) rv (by rw [h] at hb; exact hb)
      · exact hb.elim
    · exact hq.elim⟩
theorem pp_dput (hu : X.A.units + 1 < cLine) (ho : PP X o p) (hi : PP X i q) (hv : PP X value r) (hs : swapsWith value (some (.Subscript o i pos')) pos.line X.env = pure false) : PPs X W (.Assign [.Subscript o i pos'] value pos) (wDPut p q r) :=
  PSw (ps_dput hu ho hi hv hs) fun D σ H ⟨g, s, E, hd, hp, k, kx⟩ => ⟨g, s, _, hd, hp, fun v1 H1 c1 g1 s1 hd1 a1 r1 hq => ⟨g1, s1, _, hd1, hq, fun v2 H2 c2 g2 s2 hd2 a2 r2 hq => ⟨g2, s2, _, hd2, hq, fun v3 H3 c3 g3 s3 hd3 a3 r3 hb => by
    split at hb
    · rename_i e1 e2 _
      obtain ⟨a, ks, rfl, h1, hl, rr, h4, h5⟩ := ownD_q hd3 (r2.adv a3) e1
      have rx := (r1.adv a2).adv a3
      have hz := hb.1
      rw [← rr.length] at hz
      obtain ⟨b1, b2⟩ := hd3.write h4 h5 (o' := .dK (putK ks _ v1)) (d' := .dct (putD _ _ _)) ⟨Nat.le_trans (length_putK ks _ v1) hz, rr.put rx⟩
      refine ⟨a, _, rfl, ?_, k.nx b1 (a1.trans (a2.trans (a3.trans b2))) hb.2⟩
      rw [keyD_kV r3 e2]
      exact DPut.k h1 hz
    · exact hb.elim⟩⟩⟩
end

/-! ### dict(pairs) -/
/-- pairs (key, value) as a table -/
def prsD : List D → Option (List (Key × D))
  | [] => some []
  | .tup [k, x] :: r => match keyD (.d k), prsD r with
    | some k, some l => some ((k, x) :: l)
    | _, _ => none
  | _ => none
def fDict (k : Bool) : BN := fun cs s Q => match cs with
  | [c] => match asSeq c s with
    | some ds => match prsD ds with
      | some kvs => newO k (.dct (mergeD [] kvs)) s Q
      | none => False
    | none => False
  | _ => False
/-- items that are pairs in the heap -/
inductive PrV (K : PySem.W.Frag) (H : Hp) : List V → List (Key × V) → Prop
  | nil : PrV K H [] []
  | cons (p : Addr) (k : Key) (v : V) (xs : List V) (kvs : List (Key × V)) (h : SqT K H p [kV k, v]) (t : PrV K H xs kvs) : PrV K H (.ref p :: xs) ((k, v) :: kvs)
theorem PrV.length {K : PySem.W.Frag} {H : Hp} {xs : List V} {kvs : List (Key × V)} (r : PrV K H xs kvs) : xs.length = kvs.length := by
  induction r with
  | nil => rfl
  | cons _ _ _ _ _ _ _ ih => exact congrArg Nat.succ ih
theorem kV_of {K : PySem.W.Frag} {O : Addr → Prop} {H : Hp} {v : V} {x : D} {k : Key} (r : Rep K O H v x) (e : keyD (.d x) = some k) : v = kV k := by
  unfold keyD at e
  split at e
  · rename_i h; cases h; cases e; cases r; rfl
  · rename_i h; cases h; cases e; cases r; rfl
  · cases e
theorem prs_ok {K : PySem.W.Frag} {O : Addr → Prop} {H : Hp} : ∀ {xs : List V} {ds : List D} {kvs : List (Key × D)}, Reps K O H xs ds → prsD ds = some kvs → ∃ kv, PrV K H xs kv ∧ RepK K O H kv kvs
  | _, [], _, .nil, h => by cases h; exact ⟨[], .nil, .nil⟩
  | _, .tup [a, b] :: r, kvs, .cons v vs _ _ rv t, h => by
    unfold prsD at h
    split at h
    · rename_i k l e1 e2
      cases h
      obtain ⟨kv, h1, h2⟩ := prs_ok t e2
      have two : ∀ {ws : List V}, Reps K O H ws [a, b] → ∃ y, ws = [kV k, y] ∧ Rep K O H y b := fun {ws} r => by
        cases r with
        | cons x _ _ _ rx t =>
          cases t with
          | cons y _ _ _ ry t => cases t; rw [kV_of rx e1]; exact ⟨y, rfl, ry⟩
      cases rv with
      | tup p ws _ hO hh hl rr =>
        obtain ⟨y, rfl, ry⟩ := two rr
        obtain ⟨o, _, hh⟩ := hh
        exact ⟨(k, y) :: kv, .cons p k y _ _ (.inl (.inr ⟨o, hh⟩)) h1, .cons _ _ _ _ _ ry h2⟩
      | tupK p ws _ o its n hk hc hq hd hz hv rr =>
        obtain ⟨y, rfl, ry⟩ := two rr
        exact ⟨(k, y) :: kv, .cons p k y _ _ (.inr ⟨o, its, n, hk, hc, hd, hz, hv⟩) h1, .cons _ _ _ _ _ ry h2⟩
    · cases h
section
variable {X : Cx} {pins : List (Addr × Obj)} {σ : L2.St} {H : Hp} {s : Shared}
theorem prv_at (I : Inv X pins σ H s) : ∀ {xs : List V} {kvs : List (Key × V)} {us : List Value}, PrV X.K H xs kvs → Vals xs us →
    ∃ (prs : List (Key × Value)) (Ts : Nat → Addr), KV kvs prs ∧ prs.length = us.length ∧ ∀ (j : Nat) (q : Key × Value), prs[j]? = some q → ∃ u, us[j]? = some (.ref (Ts j)) ∧ s.heap.IsTuple (Ts j) #[u, q.2] ∧ keyIs q.1 u = true
  | _, _, _, .nil, .nil => ⟨[], fun _ => 0, .nil, rfl, fun j q e => by simp at e⟩
  | _, _, _, .cons p k v xs kvs h t, .cons r rs => by
    obtain ⟨prs, Ts, rel, hl, hp⟩ := prv_at I t rs
    cases r
    obtain ⟨its, rv, ht, _⟩ := I.tuple h
    obtain ⟨u, y, ei, ru, ry⟩ := vals2 rv
    subst ei
    refine ⟨(k, y) :: prs, fun j => match j with | 0 => p | j + 1 => Ts j, .cons ⟨rfl, ry⟩ rel, by rw [List.length_cons, List.length_cons, hl], fun j q e => ?_⟩
    cases j with
    | zero =>
      have e' : (k, y) = q := Option.some.inj e
      subst e'
      exact ⟨u, rfl, ht, kV_is (P := X.prog) (w := X.w) ru⟩
    | succ j =>
      obtain ⟨u', e1, e2, e3⟩ := hp j q (by simpa using e)
      exact ⟨u', by simpa using e1, e2, e3⟩
end
/-- a list, or a tuple that is known to have no attributes -/
def PlB (k : Bool) (K : PySem.W.Frag) (H : Hp) (a : Addr) (xs : List V) : Prop := match k with
  | true => SqL K H a xs
  | false => (∃ o : Obj, o.dict = none ∧ H a = some (.frz o (.tup xs))) ∨ ∃ (o : Obj) (its : Array Value) (n : Nat), K.lookup a = some o ∧ o.cls = .type "tuple" ∧ o.dict = none ∧ o.data = .seq its n ∧ its.size ≤ sizeLine ∧ Vals xs its.toList
def tyB : Bool → String
  | true => "list"
  | false => "tuple"
theorem plB_at {X : Cx} {pins : List (Addr × Obj)} {σ : L2.St} {H : Hp} {s : Shared} {a : Addr} {xs : List V} {k : Bool} (I : Inv X pins σ H s) (h : PlB k X.K H a xs) :
    ∃ its : List Value, Vals xs its ∧ PlainSeq (tyB k) s.heap a its.toArray ∧ xs.length ≤ sizeLine := by
  cases k with
  | true =>
    obtain ⟨its, r, ⟨o, n, h1, h2, h3, h4⟩, z⟩ := I.list h
    exact ⟨its, r, ⟨o, n, h1, h2, h3, h4⟩, z⟩
  | false =>
    rcases h with ⟨o, ho, h⟩ | ⟨o, its, n, hk, hc, ho, hd, hz, r⟩
    · obtain ⟨e, z, its, r, o', e', hc, n, hd⟩ := I.hok a _ h
      rw [e] at e'; cases e'
      exact ⟨its, r, ⟨o, n, e, hc, ho, hd⟩, z⟩
    · exact ⟨its.toList, r, ⟨o, n, I.kIn a o hk, hc, ho, by simpa using hd⟩, by rw [r.length]; simpa using hz⟩
def rDictP (K : PySem.W.Frag) : List V → Hp → VK → Prop := fun xs H Q => ∃ (k : Bool) (a : Addr) (ps : List V) (kvs : List (Key × V)), xs = [.ref a] ∧ PlB k K H a ps ∧ PrV K H ps kvs ∧ ∀ p, H p = none → Q (.ref p) (upd H p (.dK (mergeK [] kvs)))
theorem kv_at {kvs : List (Key × V)} {prs : List (Key × Value)} (h : KV kvs prs) : kvs.length = prs.length := h.length
/-- a new dict, laid behind a call that keeps all objects -/
theorem laid_dict {X : Cx} {pins : List (Addr × Obj)} {σ : L2.St} {H : Hp} {s : Shared} {kvs : List (Key × V)} {prs : List (Key × Value)} {h' : Heap} {tk : Nat} {p : Addr} {Q : VK} (I : Inv X pins σ H s) (rel : KV kvs prs) (hz : kvs.length ≤ sizeLine)
    (hd : h'.DictOf (mixKind X.prog X.w) p (merged [] prs)) (k : ∀ b o, s.heap.get? b = some o → h'.get? b = some o) (hp : s.heap.objs.size ≤ p) (q : ∀ p, H p = none → Q (.ref p) (upd H p (.dK (mergeK [] kvs)))) :
    EP X pins σ Q (.ref p) { s with heap := h', toks := tk } := by
  have hm : (p == sysModules) = false := beq_eq_false_iff_ne.mpr fun e => Nat.lt_irrefl _ (Nat.lt_of_lt_of_le I.big (e ▸ hp))
  have hlen : (mergeK [] kvs).length ≤ sizeLine := Nat.le_trans (length_mergeK kvs []) (by rw [List.length_nil, Nat.zero_add]; exact hz)
  exact ⟨.ref p, _, I.laid (o := .dK (mergeK [] kvs)) k hp ⟨hlen, hm, merged [] prs, KV.merge rel .nil, hd⟩, rfl, q _ (I.hok.fresh hp)⟩
theorem pairItems_of {h : Heap} {us : List Value} {prs : List (Key × Value)} {Ts : Nat → Addr} (hl : prs.length = us.length) (hp : ∀ (j : Nat) (q : Key × Value), prs[j]? = some q → ∃ u, us[j]? = some (.ref (Ts j)) ∧ h.IsTuple (Ts j) #[u, q.2] ∧ keyIs q.1 u = true) :
    ∃ ps : List (Value × Value), PairItems h us.toArray Ts ps ∧ ps.length = prs.length ∧ ∀ (i : Nat) (k v : Value), ps[i]? = some (k, v) → ∃ key, prs[i]? = some (key, v) ∧ keyIs key k = true := by
  have sel : ∀ j : Nat, ∃ u : Value, ∀ q, prs[j]? = some q → us[j]? = some (.ref (Ts j)) ∧ h.IsTuple (Ts j) #[u, q.2] ∧ keyIs q.1 u = true := fun j => by
    cases e : prs[j]? with
    | none => exact ⟨.none, fun q z => by cases z⟩
    | some q0 =>
      obtain ⟨u, h1⟩ := hp j q0 e
      exact ⟨u, fun q z => by cases z; exact h1⟩
  let f : Nat → Value := fun j => (sel j).choose
  have hf : ∀ j q, prs[j]? = some q → us[j]? = some (.ref (Ts j)) ∧ h.IsTuple (Ts j) #[f j, q.2] ∧ keyIs q.1 (f j) = true := fun j => (sel j).choose_spec
  refine ⟨prs.mapIdx fun j q => (f j, q.2), ⟨by simp [hl], fun j k v e => ?_⟩, by simp, fun i k v e => ?_⟩
  · rw [List.getElem?_mapIdx] at e
    cases e2 : prs[j]? with
    | none => rw [e2] at e; cases e
    | some q =>
      rw [e2] at e
      obtain ⟨h1, h2, h3⟩ := hf j q e2
      have e3 : (f j, q.2) = (k, v) := Option.some.inj e
      cases e3
      exact ⟨by simpa using h1, .inl h2⟩
  · rw [List.getElem?_mapIdx] at e
    cases e2 : prs[i]? with
    | none => rw [e2] at e; cases e
    | some q =>
      rw [e2] at e
      obtain ⟨h1, h2, h3⟩ := hf i q e2
      have e3 : (f i, q.2) = (k, v) := Option.some.inj e
      cases e3
      exact ⟨q.1, rfl, h3⟩
theorem call_dictB {X : Cx} (hc : X.calm = true) : CallR X (.type "dict") (rDictP X.K) := by
  rintro pins s σ H xs us Q I r ⟨k, a, ps, kvs, rfl, hq, hp, q⟩
  obtain ⟨u, rfl, rx⟩ := vals1 r
  cases rx
  obtain ⟨its, rl, pl, hz⟩ := plB_at I hq
  obtain ⟨prs, Ts, rel, hl, hpr⟩ := prv_at I hp rl
  obtain ⟨pv, pi, pn, hk⟩ := pairItems_of hl hpr
  have hz2 : kvs.length ≤ sizeLine := by rw [← hp.length]; exact hz
  have hn : pv.length ≤ sizeLine := by rw [pn, ← rel.length]; exact hz2
  have hh := I.ok.hd hc
  cases k with
  | true =>
    exact call_dict_pairs (knd := mixKind X.prog X.w) (kvs := prs) (PairArg.list a its.toArray Ts pv) hh ⟨pl, pi⟩ ⟨pn.symm, hk⟩ hn fun h' tk hd kp => laid_dict I rel hz2 hd (fun b o e => kp b o (by simp) e) (Nat.le_refl _) q
  | false =>
    exact call_dict_pairs (knd := mixKind X.prog X.w) (kvs := prs) (PairArg.tuple a its.toArray Ts pv) hh ⟨pl, pi⟩ ⟨pn.symm, hk⟩ hn fun h' tk hd kp => laid_dict I rel hz2 hd (fun b o e => kp b o (by simp) e) (Nat.le_refl _) q
/-- a sequence, plain -/
theorem asSeq_pl {K : PySem.W.Frag} {g : G} {s : S} {σ : L2.St} {H : Hp} {v : V} {c : Val} {ds : List D} (hd : Hold K g s σ H) (r : RepV K g s H v c) (e : asSeq c s = some ds) : ∃ k a xs, v = .ref a ∧ PlB k K H a xs ∧ xs.length ≤ sizeLine ∧ Reps K (Ov g s) H xs ds := by
  unfold asSeq at e
  split at e
  · cases e
    cases r with
    | lst a xs ds hO h hl r => exact ⟨true, a, xs, rfl, .of h, hl, r⟩
  · cases e
    cases r with
    | scr a xs ds hO h hl r => exact ⟨true, a, xs, rfl, .inl h, hl, r⟩
    | scrK a xs ds o its n hk hc hq hd hz hv r => exact ⟨true, a, xs, rfl, .inr ⟨o, its, n, hk, hc, hq, hd, hz, hv⟩, by rw [hv.length]; simpa using hz, r⟩
  · cases e
    cases r with
    | tup a xs ds hO h hl r => exact ⟨false, a, xs, rfl, .inl h, hl, r⟩
    | tupK a xs ds o its n hk hc hq hd hz hv r => exact ⟨false, a, xs, rfl, .inr ⟨o, its, n, hk, hc, hq, hd, hz, hv⟩, by rw [hv.length]; simpa using hz, r⟩
  · obtain ⟨a, xs, rfl, h, hl, r⟩ := asLst_rd (c := .loc _) hd r e
    exact ⟨true, a, xs, rfl, .of h, hl, r⟩
  · cases e
theorem fi_dict (k : Bool) {K : PySem.W.Frag} : ArgI K (rDictP K) (fDict k) := fun g s σ H xs cs Qp Q hd rs hb kt => by
  unfold fDict at hb
  split at hb
  · cases rs with
    | cons r t =>
      cases t
      split at hb
      · rename_i ds e
        split at hb
        · rename_i kvs e2
          obtain ⟨kk, a, ys, rfl, hq, hl, rr⟩ := asSeq_pl hd r e
          obtain ⟨kv, h1, h2⟩ := prs_ok rr e2
          refine ⟨kk, a, ys, kv, rfl, hq, h1, new_o k (o := .dK (mergeK [] kv)) (d := .dct _) hd kt ⟨?_, h2.merge .nil⟩ hb⟩
          exact Nat.le_trans (length_mergeK kv []) (by rw [List.length_nil, Nat.zero_add, ← h1.length]; exact hl)
        · exact hb.elim
      · exact hb.elim
  · exact hb.elim
theorem pp_dictB {X : Cx} {e : Expr} {pa : TPa} {p' pos : Pos} (k : Bool) (T : Blt X.mg) (hg : Gl X "dict") (hc : X.calm = true) (ha : PPa X [e] pa) (he : Se1 X e := by rfl) : PP X (.Call (.Name "dict" p') [e] [] pos) (wArg (fDict k) pa) :=
  pp_callTy (call_dictB hc) (fi_dict k) hg T.dict (by decide +kernel) ha (by decide) (by decide) he rfl

/-! ### d.update(dict) -/
def bUpd : B2 := fun c d s Q => match ownD c s, asDct d s with
  | some (l, kvs), some more => (c ≠ d ∧ kvs.length + more.length ≤ sizeLine) ∧ Q (.d .non) (setO s l (.dct (mergeD kvs more)))
  | _, _ => False
end Bx
end

section
/-! dict(zip(a, b)) over lists and tuples; d.update(e). -/
namespace Bx
open PySem L2 PySem.Spec PyProof.Rows

section
variable {prog : Program} {w : World} {A : Around} {E : Value → Shared → Prop} {s : Shared} {z TI TO T i1 i2 : Addr} {fp1 fp2 : List Addr} {n1 n2 i : Nat} {P1 P2 : Nat → Value → Prop} {St1 St2 : Nat → Heap → Prop} {f : Bool} {oT : Obj}
/-- one turn of a zip whose last pair is held by another -/
theorem zipH_item {Q : Value → Shared → Prop} (S : ZipSep2 z TI TO i1 i2 fp1 fp2) (D1 : Draws prog w A i1 fp1 n1 P1 St1) (D2 : Draws prog w A i2 fp2 n2 P2 St2) (hz : IsZipHeld s.heap z TI TO T f) (hT : s.heap.get? T = some oT)
    (hTI : IsTupOf2 s.heap TI (.ref i1) (.ref i2)) (st1 : St1 i s.heap) (st2 : St2 i s.heap) (l1 : i < n1) (l2 : i < n2)
    (hQ : ∀ x1 x2 h' tk, P1 i x1 → P2 i x2 → IsZipHeld h' z TI TO T true → St1 (i + 1) h' → St2 (i + 1) h' → IsTupOf2 h' s.heap.objs.size x1 x2 →
      (∀ c o, c ≠ z → c ≠ i1 → c ≠ i2 → s.heap.get? c = some o → h'.get? c = some o) → Q (.ref s.heap.objs.size) { s with heap := h', toks := tk }) :
    wpAny (model prog w) A (Builtin.«zip.__next__» ⟨[.ref z], []⟩) (fun fin s' => ∃ v, fin = .done (.ret v) ∧ Q v s') E s := by
  obtain ⟨hp, g, d, tk0, os⟩ := s
  show wpAny _ _ (field (.ref z) 2 >>= _) _ _ _
  refine wpAny_bind (wpAny_field hz rfl (x := .bool false) rfl ?_)
  show wpAny _ _ (field (.ref z) 3 >>= _) _ _ _
  refine wpAny_bind (wpAny_field hz rfl (x := .ref TI) rfl (wpAny_bind (wpAny_seqItems hTI rfl ?_)))
  refine wpAny_bind (wpAny_tupleHeld_zip hz hT fun g0 z0 b0 => ?_)
  simp only [Bool.false_eq_true, if_false]
  refine wpAny_bind ?_
  rw [← Array.forIn_toList]
  simp only [List.forIn_cons, List.forIn_nil]
  refine wpAny_bind (wpAny_bind (wpAny_holding ?_))
  show wpAny _ _ (Builtin.SmallTypes.nextOf (.ref i1) >>= _) _ _ ⟨g0, g, d, tk0, os⟩
  refine wpAny_bind (D1.item i _ _ _ l1 (D1.over st1 b0 S.zf1) fun x1 g1 t1 p1 s1 b1 => wpAny_pure (wpAny_pure (wpAny_bind (wpAny_bind (wpAny_holding ?_)))))
  replace b1 : Heap.SameBut i1 g0 g1 := b1
  show wpAny _ _ (Builtin.SmallTypes.nextOf (.ref i2) >>= _) _ _ ⟨g1, g, d, t1, os⟩
  refine wpAny_bind (D2.item i _ _ _ l2 (D2.over (D2.over st2 b0 S.zf2) b1 S.sep1_2) fun x2 g2 t2 p2 s2 b2 => wpAny_pure (wpAny_pure (wpAny_pure ?_)))
  replace b2 : Heap.SameBut i2 g1 g2 := b2
  show wpAny _ _ (newTuple [x1, x2] >>= _) _ _ ⟨g2, g, d, t2, os⟩
  refine wpAny_bind (wpAny_newTuple (wpAny_pure ⟨_, rfl, ?_⟩))
  have en : g2.objs.size = hp.objs.size := by rw [b2.1, b1.1, b0.1]
  have kp : ∀ c o, c ≠ z → c ≠ i1 → c ≠ i2 → hp.get? c = some o → g2.get? c = some o := fun c o h0 h1 h2 e => b2.extBut _ _ h2 (b1.extBut _ _ h1 (b0.extBut _ _ h0 e))
  have up : ∀ c o, g2.get? c = some o → (g2.push { cls := .type "tuple", data := .seq #[x1, x2] }).get? c = some o := fun c o e => Heap.get?_push_of_some _ e
  have new : (g2.push { cls := .type "tuple", data := .seq #[x1, x2] }).get? hp.objs.size = some { cls := .type "tuple", data := .seq #[x1, x2] } := by rw [← en]; exact Heap.get?_push_size _ rfl
  show Q (.ref g2.objs.size) ⟨g2.push { cls := .type "tuple", data := .seq #[x1, x2] }, g, d, t2, os⟩
  rw [en]
  exact hQ x1 x2 _ t2 p1 p2 (up _ _ (b2.extBut _ _ S.zi2 (b1.extBut _ _ S.zi1 z0))) (D1.frame _ _ _ (D1.over s1 b2 S.sep2_1) fun b _ o e => up b o e) (D2.frame _ _ _ s2 fun b _ o e => up b o e) new fun c o h0 h1 h2 e => up _ _ (kp c o h0 h1 h2 e)
theorem zipH_end {Q : Fin → Shared → Prop} (S : ZipSep2 z TI TO i1 i2 fp1 fp2) (D1 : Draws prog w A i1 fp1 n1 P1 St1) (D2 : Draws prog w A i2 fp2 n2 P2 St2) (hz : IsZipHeld s.heap z TI TO T f) (hT : s.heap.get? T = some oT)
    (hTI : IsTupOf2 s.heap TI (.ref i1) (.ref i2)) (st1 : St1 i s.heap) (st2 : St2 i s.heap) (l1 : i ≤ n1) (l2 : i ≤ n2) (hend : i = n1 ∨ i = n2)
    (hE : ∀ h' tk e, (∀ c o, c ≠ z → c ≠ i1 → c ≠ i2 → s.heap.get? c = some o → h'.get? c = some o) → (∃ o, h'.get? e = some o ∧ o.cls = .type "StopIteration") → E (.ref e) { s with heap := h', toks := tk }) :
    wpAny (model prog w) A (Builtin.«zip.__next__» ⟨[.ref z], []⟩) Q E s := by
  obtain ⟨hp, g, d, tk0, os⟩ := s
  show wpAny _ _ (field (.ref z) 2 >>= _) _ _ _
  refine wpAny_bind (wpAny_field hz rfl (x := .bool false) rfl ?_)
  show wpAny _ _ (field (.ref z) 3 >>= _) _ _ _
  refine wpAny_bind (wpAny_field hz rfl (x := .ref TI) rfl (wpAny_bind (wpAny_seqItems hTI rfl ?_)))
  refine wpAny_bind (wpAny_tupleHeld_zip hz hT fun g0 z0 b0 => ?_)
  simp only [Bool.false_eq_true, if_false]
  refine wpAny_bind ?_
  rw [← Array.forIn_toList]
  simp only [List.forIn_cons, List.forIn_nil]
  refine wpAny_bind (wpAny_bind (wpAny_holding ?_))
  show wpAny _ _ (Builtin.SmallTypes.nextOf (.ref i1) >>= _) _ _ ⟨g0, g, d, tk0, os⟩
  by_cases h1 : i < n1
  · refine wpAny_bind (D1.item i _ _ _ h1 (D1.over st1 b0 S.zf1) fun x1 g1 t1 p1 s1 b1 => wpAny_pure (wpAny_pure (wpAny_bind (wpAny_bind (wpAny_holding ?_)))))
    replace b1 : Heap.SameBut i1 g0 g1 := b1
    show wpAny _ _ (Builtin.SmallTypes.nextOf (.ref i2) >>= _) _ _ ⟨g1, g, d, t1, os⟩
    have e2 : i = n2 := by omega
    refine wpAny_bind (D2.done ⟨g1, g, d, t1, os⟩ _ _ (by rw [← e2]; exact D2.over (D2.over st2 b0 S.zf2) b1 S.sep1_2) fun g2 e b2 he => ?_)
    exact hE g2 t1 e (fun c o h0 h1 h2 x => b2 _ _ h2 (b1.extBut _ _ h1 (b0.extBut _ _ h0 x))) he
  · have e1 : i = n1 := by omega
    refine wpAny_bind (D1.done ⟨g0, g, d, tk0, os⟩ _ _ (by rw [← e1]; exact D1.over st1 b0 S.zf1) fun g1 e b1 he => ?_)
    exact hE g1 tk0 e (fun c o h0 h1 _ x => b1 _ _ h1 (b0.extBut _ _ h0 x)) he
theorem nextH_item {Q : Option Value → Shared → Prop} (S : ZipSep2 z TI TO i1 i2 fp1 fp2) (D1 : Draws prog w A.in1 i1 fp1 n1 P1 St1) (D2 : Draws prog w A.in1 i2 fp2 n2 P2 St2) (hz : IsZipHeld s.heap z TI TO T f) (hT : s.heap.get? T = some oT)
    (hTI : IsTupOf2 s.heap TI (.ref i1) (.ref i2)) (st1 : St1 i s.heap) (st2 : St2 i s.heap) (l1 : i < n1) (l2 : i < n2)
    (hQ : ∀ x1 x2 h' tk, P1 i x1 → P2 i x2 → IsZipHeld h' z TI TO T true → St1 (i + 1) h' → St2 (i + 1) h' → IsTupOf2 h' s.heap.objs.size x1 x2 →
      (∀ c o, c ≠ z → c ≠ i1 → c ≠ i2 → s.heap.get? c = some o → h'.get? c = some o) → Q (some (.ref s.heap.objs.size)) { s with heap := h', toks := tk }) :
    wpAny (model prog w) A (pyNext (.ref z)) Q E s := by
  have hy : s.TypeIs (.ref z) "zip" := ⟨_, hz, rfl⟩
  unfold pyNext
  exact wpAny_bind (wpAny_attempt (wpAny_callSpecial?_slot (name := Str.ofString "__next__") hy F.slot_zip_next
    (wpAny_call_entry F.slot_zip_next hy F.entry_zip_next (zipH_item S D1 D2 hz hT hTI st1 st2 l1 l2 fun x1 x2 h' tk a b c d e g k => wpAny_pure (hQ x1 x2 h' tk a b c d e g k)) (F.args_zip_next_1 _))))
theorem nextH_end {Q : Option Value → Shared → Prop} (S : ZipSep2 z TI TO i1 i2 fp1 fp2) (D1 : Draws prog w A.in1 i1 fp1 n1 P1 St1) (D2 : Draws prog w A.in1 i2 fp2 n2 P2 St2) (hz : IsZipHeld s.heap z TI TO T f) (hT : s.heap.get? T = some oT)
    (hTI : IsTupOf2 s.heap TI (.ref i1) (.ref i2)) (st1 : St1 i s.heap) (st2 : St2 i s.heap) (l1 : i ≤ n1) (l2 : i ≤ n2) (hend : i = n1 ∨ i = n2)
    (hQ : ∀ h' tk, (∀ c o, c ≠ z → c ≠ i1 → c ≠ i2 → s.heap.get? c = some o → h'.get? c = some o) → Q none { s with heap := h', toks := tk }) : wpAny (model prog w) A (pyNext (.ref z)) Q E s := by
  have hy : s.TypeIs (.ref z) "zip" := ⟨_, hz, rfl⟩
  unfold pyNext
  refine wpAny_bind (wpAny_attempt (wpAny_callSpecial?_slot (name := Str.ofString "__next__") hy F.slot_zip_next
    (wpAny_call_entry F.slot_zip_next hy F.entry_zip_next (zipH_end S D1 D2 hz hT hTI st1 st2 l1 l2 hend fun h' tk e k he => ?_) (F.args_zip_next_1 _))))
  obtain ⟨o, ho, hc⟩ := he
  exact wpAny_bind (wpAny_isInstance (T := "StopIteration") (b := true) ⟨o, ho, hc⟩ isSubtype_stop (wpAny_pure (hQ _ _ k)))
end
section
variable {prog : Program} {w : World} {k1 k2 : Bool} {z TI TO i1 i2 a b : Addr} {xs ys : Array Value}
theorem seqB_at {k : Bool} {h h' : Heap} {a : Addr} {xs : Array Value} (st : SeqB k h a xs) (e : ∀ o, h.get? a = some o → h'.get? a = some o) : SeqB k h' a xs := by
  cases k with
  | true => exact Heap.IsList.at st e
  | false => exact Heap.IsTuple.at st e
/-- a zip over lists and tuples, as the argument of dict -/
theorem zipArg (D : ZipCells z TI TO i1 i2 a b) : PairArg prog w "zip" z [z, TI, TO, i1, i2, a, b] [z, TO, i1, i2] (min xs.size ys.size) (fun i k v => xs[i]? = some k ∧ ys[i]? = some v)
    (fun h => IsZip h z TI TO .none ∧ IsTupOf2 h TI (.ref i1) (.ref i2) ∧ (∃ x y, IsTupOf2 h TO x y) ∧ (ItB k1 h i1 a 0 ∧ SeqB k1 h a xs) ∧ ItB k2 h i2 b 0 ∧ SeqB k2 h b ys) where
  type := fun s ok => ⟨_, ok.1, rfl⟩
  notDict := by decide
  keep := fun h h' ⟨q1, q2, ⟨x, y, q3⟩, ⟨q4, q5⟩, q6, q7⟩ k => ⟨k _ _ q1, k _ _ q2, ⟨x, y, k _ _ q3⟩, ⟨itB_at q4 fun o e => k _ o e, seqB_at q5 fun o e => k _ o e⟩, itB_at q6 fun o e => k _ o e, seqB_at q7 fun o e => k _ o e⟩
  there := fun h ⟨q1, q2, ⟨x, y, q3⟩, ⟨q4, q5⟩, q6, q7⟩ c hc => by
    have sq : ∀ {k : Bool} {c : Addr} {us : Array Value}, SeqB k h c us → ∃ o, h.get? c = some o := fun {k c us} q => by
      cases k with
      | true => obtain ⟨o, e, _⟩ := q; exact ⟨o, e⟩
      | false => obtain ⟨o, e, _⟩ := q; exact ⟨o, e⟩
    simp only [List.mem_cons, List.not_mem_nil, or_false] at hc
    rcases hc with e | e | e | e | e | e | e <;> rw [e]
    · exact ⟨_, q1⟩
    · exact ⟨_, q2⟩
    · exact ⟨_, q3⟩
    · obtain ⟨o, e, _⟩ := itB_obj q4; exact ⟨o, e⟩
    · obtain ⟨o, e, _⟩ := itB_obj q6; exact ⟨o, e⟩
    · exact sq q5
    · exact sq q7
  sub := fun c hc => by
    simp only [List.mem_cons, List.not_mem_nil, or_false] at hc ⊢
    rcases hc with e | e | e | e <;> simp [e]
  noKeys := fun A s Q E hA ok h => getAttrOr_miss_zip ok.1 rfl rfl rfl zip_no_keys (by decide +kernel) hA h
  iter := fun A s d Q E hA ⟨q1, q2, ⟨x, y, q3⟩, ⟨q4, q5⟩, q6, q7⟩ hd hdf h => by
    simp only [List.mem_cons, List.not_mem_nil, or_false, not_or] at hdf
    obtain ⟨dz, dTI, dTO, d1, d2, da, db⟩ := hdf
    have D1 := drawsB (prog := prog) (w := w) k1 (A := A.in1) hA i1 a D.a1 xs
    have D2 := drawsB (prog := prog) (w := w) k2 (A := A.in1) hA i2 b D.b2 ys
    have fr1 : ∀ {i h h'}, (ItB k1 h i1 a i ∧ SeqB k1 h a xs) → (∀ c o, c ≠ d → h.get? c = some o → h'.get? c = some o) → ItB k1 h' i1 a i ∧ SeqB k1 h' a xs := fun q k => ⟨itB_at q.1 fun o e => k _ o (Ne.symm d1) e, seqB_at q.2 fun o e => k _ o (Ne.symm da) e⟩
    have fr2 : ∀ {i h h'}, (ItB k2 h i2 b i ∧ SeqB k2 h b ys) → (∀ c o, c ≠ d → h.get? c = some o → h'.get? c = some o) → ItB k2 h' i2 b i ∧ SeqB k2 h' b ys := fun q k => ⟨itB_at q.1 fun o e => k _ o (Ne.symm d2) e, seqB_at q.2 fun o e => k _ o (Ne.symm db) e⟩
    refine wpAny_pyIter_zip q1 (h z [z, TO, i1, i2] (fun i h => IsTupOf2 h TI (.ref i1) (.ref i2) ∧ (ItB k1 h i1 a i ∧ SeqB k1 h a xs) ∧ (ItB k2 h i2 b i ∧ SeqB k2 h b ys) ∧
      ((IsZip h z TI TO .none ∧ ∃ x y, IsTupOf2 h TO x y) ∨ ∃ T f oT, IsZipHeld h z TI TO T f ∧ h.get? T = some oT ∧ T ≠ z ∧ T ≠ i1 ∧ T ≠ i2 ∧ T ≠ d)) s.heap s.toks ?_
      ⟨q2, ⟨q4, q5⟩, ⟨q6, q7⟩, .inl ⟨q1, x, y, q3⟩⟩ (fun _ _ e => e) fun c hc => .inl hc)
    refine ⟨fun hm => ?_, fun i h h' ⟨r1, r2, r3, r4⟩ k => ⟨k _ _ (Ne.symm dTI) r1, fr1 r2 k, fr2 r3 k, ?_⟩, fun i s1 Q1 E1 hi ⟨r1, r2, r3, r4⟩ hds hQ => ?_, fun s1 Q1 E1 ⟨r1, r2, r3, r4⟩ hQ => ?_⟩
    · simp only [List.mem_cons, List.not_mem_nil, or_false] at hm
      rcases hm with e | e | e | e
      · exact dz e
      · exact dTO e
      · exact d1 e
      · exact d2 e
    · rcases r4 with ⟨u1, x, y, u2⟩ | ⟨T, f, oT, u1, u2, v1, v2, v3, v4⟩
      · exact .inl ⟨k _ _ (Ne.symm dz) u1, x, y, k _ _ (Ne.symm dTO) u2⟩
      · exact .inr ⟨T, f, oT, k _ _ (Ne.symm dz) u1, k _ _ v4 u2, v1, v2, v3, v4⟩
    · have l1 : i < xs.size := Nat.lt_of_lt_of_le hi (Nat.min_le_left ..)
      have l2 : i < ys.size := Nat.lt_of_lt_of_le hi (Nat.min_le_right ..)
      have ne : ∀ {c o}, s1.heap.get? c = some o → s1.heap.objs.size ≠ c := fun e => Nat.ne_of_gt (Heap.lt_size e)
      have m1 : s1.heap.objs.size ≠ i1 := by obtain ⟨o, e, _⟩ := itB_obj r2.1; exact ne e
      have m2 : s1.heap.objs.size ≠ i2 := by obtain ⟨o, e, _⟩ := itB_obj r3.1; exact ne e
      have out : ∀ {c : Addr}, c ∉ [z, TO, i1, i2] → c ≠ z ∧ c ≠ TO ∧ c ≠ i1 ∧ c ≠ i2 := fun hc => by simpa using hc
      rcases r4 with ⟨u1, x, y, u2⟩ | ⟨T, f, oT, u1, u2, v1, v2, v3, v4⟩
      · refine wpAny_pyNext_zipD2_item D.S D1 D2 u1 r1 u2 r2 r3 l1 l2 fun x1 x2 h' tk p1 p2 g1 g2 g3 g4 g5 g6 k => ?_
        refine hQ s1.heap.objs.size _ _ h' tk ⟨p1, p2⟩ (.inl ⟨_, g5, rfl, _, rfl⟩) ⟨k _ _ D.S.TIz D.S.TITO D.S.TIi1 D.S.TIi2 r1, g3, g4, .inr ⟨_, false, _, g1, g5, ne u1, m1, m2, Nat.ne_of_gt hds⟩⟩ fun c o hc e => ?_
        obtain ⟨w1, w2, w3, w4⟩ := out hc
        exact k c o w1 w2 w3 w4 e
      · refine nextH_item D.S D1 D2 u1 u2 r1 r2 r3 l1 l2 fun x1 x2 h' tk p1 p2 g1 g3 g4 g5 k => ?_
        refine hQ s1.heap.objs.size _ _ h' tk ⟨p1, p2⟩ (.inl ⟨_, g5, rfl, _, rfl⟩) ⟨k _ _ D.S.TIz D.S.TIi1 D.S.TIi2 r1, g3, g4, .inr ⟨T, true, oT, g1, k _ _ v1 v2 v3 u2, v1, v2, v3, v4⟩⟩ fun c o hc e => ?_
        obtain ⟨w1, w2, w3, w4⟩ := out hc
        exact k c o w1 w3 w4 e
    · have l1 : min xs.size ys.size ≤ xs.size := Nat.min_le_left ..
      have l2 : min xs.size ys.size ≤ ys.size := Nat.min_le_right ..
      have le : min xs.size ys.size = xs.size ∨ min xs.size ys.size = ys.size := by omega
      have out : ∀ {c : Addr}, c ∉ [z, TO, i1, i2] → c ≠ z ∧ c ≠ TO ∧ c ≠ i1 ∧ c ≠ i2 := fun hc => by simpa using hc
      rcases r4 with ⟨u1, x, y, u2⟩ | ⟨T, f, oT, u1, u2, v1, v2, v3, v4⟩
      · refine wpAny_pyNext_zipD2_end D.S D1 D2 u1 r1 u2 r2 r3 l1 l2 le fun h' tk k => hQ h' tk fun c o hc e => ?_
        obtain ⟨w1, w2, w3, w4⟩ := out hc
        exact k c o w1 w2 w3 w4 e
      · refine nextH_end D.S D1 D2 u1 u2 r1 r2 r3 l1 l2 le fun h' tk k => hQ h' tk fun c o hc e => ?_
        obtain ⟨w1, w2, w3, w4⟩ := out hc
        exact k c o w1 w3 w4 e
end

/-! ### dict(zip(a, b)) -/
def keysD : List D → Option (List Key)
  | [] => some []
  | d :: r => match keyD (.d d), keysD r with
    | some k, some l => some (k :: l)
    | _, _ => none
def zipK {α : Type} : List Key → List α → List (Key × α)
  | k :: ks, d :: ds => (k, d) :: zipK ks ds
  | _, _ => []
def fDictZip (k : Bool) : BN := fun cs s Q => match cs with
  | [c, d] => match asSeq c s, asSeq d s with
    | some xs, some ys => match keysD xs with
      | some ks => newO k (.dct (mergeD [] (zipK ks ys))) s Q
      | none => False
    | _, _ => False
  | _ => False
theorem zipK_get {α : Type} : ∀ {ks : List Key} {ds : List α} {i : Nat} {k : Key} {d : α}, ks[i]? = some k → ds[i]? = some d → (zipK ks ds)[i]? = some (k, d)
  | k :: ks, d :: ds, 0, _, _, h1, h2 => by simp at h1 h2; simp [zipK, h1, h2]
  | k :: ks, d :: ds, i + 1, _, _, h1, h2 => by
    have := zipK_get (ks := ks) (ds := ds) (i := i) (by simpa using h1) (by simpa using h2)
    simpa [zipK] using this
  | [], _, _, _, _, h1, _ => by simp at h1
  | _ :: _, [], _, _, _, _, h2 => by simp at h2
theorem zipK_length {α : Type} : ∀ (ks : List Key) (ds : List α), (zipK ks ds).length = min ks.length ds.length
  | k :: ks, d :: ds => by simp [zipK, zipK_length ks ds]
  | [], _ => by simp [zipK]
  | _ :: _, [] => by simp [zipK]
theorem keys_ok {K : PySem.W.Frag} {O : Addr → Prop} {H : Hp} : ∀ {xs : List V} {ds : List D} {ks : List Key}, Reps K O H xs ds → keysD ds = some ks → xs = ks.map kV
  | _, [], _, .nil, h => by cases h; rfl
  | _, d :: r, ks, .cons v vs _ _ rv t, h => by
    unfold keysD at h
    split at h
    · rename_i k l e1 e2
      cases h
      rw [kV_of rv e1, keys_ok t e2]; rfl
    · cases h
theorem repK_zip {K : PySem.W.Frag} {O : Addr → Prop} {H : Hp} : ∀ {ks : List Key} {vs : List V} {ds : List D}, Reps K O H vs ds → RepK K O H (zipK ks vs) (zipK ks ds)
  | [], _, _, .nil => .nil
  | [], _, _, .cons _ _ _ _ _ _ => .nil
  | k :: ks, _, _, .nil => .nil
  | k :: ks, _, _, .cons v vs d ds r t => .cons k v _ d _ r (repK_zip (ks := ks) t)
theorem kv_zip : ∀ {ks : List Key} {vs : List V} {us : List Value}, Vals vs us → KV (zipK ks vs) (zipK ks us)
  | [], _, _, .nil => .nil
  | [], _, _, .cons _ _ => .nil
  | k :: ks, _, _, .nil => .nil
  | k :: ks, _, _, .cons r t => .cons ⟨rfl, r⟩ (kv_zip (ks := ks) t)
def tDictZip (K : PySem.W.Frag) (ta : TA) : TE := fun σ H Q => ta σ H fun vs H1 => ∃ (k1 k2 : Bool) (a b : Addr) (ks : List Key) (ys : List V), vs = [.ref a, .ref b] ∧ SqB k1 K H1 a (ks.map kV) ∧ SqB k2 K H1 b ys ∧ ∀ p, H1 p = none → Q (.ref p) (upd H1 p (.dK (mergeK [] (zipK ks ys))))
theorem boot_dictTy : bootBuiltins "dict" = some (.type "dict") := by decide +kernel
theorem pe_dictZip {X : Cx} {e e2 : Expr} {ta : TA} {p p' pos pos' : Pos} (hg : Gl X "dict") (hm : X.mg "dict" = none) (hg2 : Gl X "zip") (hm2 : X.mg "zip" = none) (hc : X.calm = true) (ha : PA X [e, e2] ta)
    (hs : starEach [e, e2] X.env = (false, eval e X.env) :: starEach [e2] X.env := by rfl) (hpl : (backTo pos (starEach [e2] X.env)).any (·.1) = false := by rfl)
    (hs2 : starEach [.Call (.Name "zip" p) [e, e2] [] pos] X.env = (false, eval (.Call (.Name "zip" p) [e, e2] [] pos) X.env) :: starEach [] X.env := by rfl) :
    PE X (.Call (.Name "dict" p') [.Call (.Name "zip" p) [e, e2] [] pos] [] pos') (tDictZip X.K ta) := by
  refine ⟨fun pins s σ H Q I h => Call_ (ld_blt I hg hm boot_dictTy (PyProof.Rows.callWith_type1 (args_cons (Call_ (ld_blt I hg2 hm2 PyProof.Rows.boot_zip (PyProof.Rows.callWith_type1 (thn (ha.run pos pins s σ H _ I h) fun us s1 ⟨vs, H1, I1, r1, q1⟩ => ?_) hs hpl))) hs2) hs2 rfl))⟩
  obtain ⟨k1, k2, a, b, ks, ys, rfl, hqx, hqy, q⟩ := q1
  cases r1 with
  | cons r t =>
    cases t with
    | cons r' t =>
      cases t; cases r; cases r'
      obtain ⟨us, rv, p1, zx⟩ := sqB_seq I1 hqx
      obtain ⟨ws, rv2, p2, zy⟩ := sqB_seq I1 hqy
      have la := seqB_lt p1
      have lb := seqB_lt p2
      have hh := I1.ok.hd hc
      have nu : ks.length = us.length := by rw [← rv.length, List.length_map]
      have nw := rv2.length
      have hz : (zipK ks ws).length = min us.toArray.size ws.toArray.size := by rw [zipK_length, nu]; simp
      refine zip_begins2 (beginsB k1 a us.toArray) (beginsB k2 b ws.toArray) p1 p2 fun h' h1 h2 h3 h4 h5 hsz hk => args_nil ?_
      generalize hN : s1.heap.objs.size = N at *
      refine call_dict_pairs (knd := mixKind X.prog X.w) (kvs := zipK ks ws) (zipArg (k1 := k1) (k2 := k2) (zipCells_new la lb) (xs := us.toArray) (ys := ws.toArray)) hh
        ⟨h1, h2, ⟨_, _, h3⟩, ⟨itB_new k1 h4, seqB_at p1 fun o e => hk _ o e⟩, itB_new k2 h5, seqB_at p2 fun o e => hk _ o e⟩ ⟨hz, fun i key v ⟨e1, e2⟩ => ?_⟩ ?_ fun h2 tk hd kp => ?_
      · have e1' : us[i]? = some key := by simpa using e1
        have e2' : ws[i]? = some v := by simpa using e2
        obtain ⟨kk, e3⟩ : ∃ kk, ks[i]? = some kk := ⟨ks[i]'(by rw [nu]; exact (List.getElem?_eq_some_iff.mp e1').1), List.getElem?_eq_getElem _⟩
        obtain ⟨u, e4, ru⟩ := rv.get (i := i) (x := kV kk) (by simp [e3])
        rw [e1'] at e4; cases e4
        exact ⟨kk, zipK_get e3 e2', kV_is (P := X.prog) (w := X.w) ru⟩
      · rw [← hz, zipK_length]; rw [List.length_map] at zx; omega
      · refine laid_dict (s := s1) (tk := tk) I1 (kv_zip rv2) ?_ hd (fun c o e => kp c o ?_ (hk c o e)) ?_ q
        · rw [zipK_length]; rw [List.length_map] at zx; omega
        · have := Heap.lt_size e
          rw [hN] at this
          have w : ∀ {x y : Nat}, x < y → x ≠ y := fun h => by omega
          intro hm
          simp only [List.mem_cons, List.not_mem_nil, or_false] at hm
          have lt : c < N := this
          rcases hm with e | e | e | e
          · rw [e] at lt; exact absurd lt (show ¬ N + 4 < N by omega)
          · rw [e] at lt; exact absurd lt (show ¬ N + 3 < N by omega)
          · rw [e] at lt; exact absurd lt (show ¬ N < N by omega)
          · rw [e] at lt; exact absurd lt (show ¬ N + 1 < N by omega)
        · rw [hN]
          show N ≤ h'.objs.size
          omega
theorem pp_dictZip {X : Cx} {e e2 : Expr} {pa : TPa} {p p' pos pos' : Pos} (k : Bool) (T : Blt X.mg) (hg : Gl X "dict") (hg2 : Gl X "zip") (hc : X.calm = true) (ha : PPa X [e, e2] pa)
    (hs : starEach [e, e2] X.env = (false, eval e X.env) :: starEach [e2] X.env := by rfl) (hpl : (backTo pos (starEach [e2] X.env)).any (·.1) = false := by rfl)
    (hs2 : starEach [.Call (.Name "zip" p) [e, e2] [] pos] X.env = (false, eval (.Call (.Name "zip" p) [e, e2] [] pos) X.env) :: starEach [] X.env := by rfl) :
    PP X (.Call (.Name "dict" p') [.Call (.Name "zip" p) [e, e2] [] pos] [] pos') (wArg (fDictZip k) pa) :=
  PEw (pe_dictZip hg T.dict hg2 T.zip hc ha hs hpl hs2) fun σ H Q ⟨g, s, Qp, hd, hp, kt⟩ => ⟨g, s, _, hd, hp, fun vs H1 cs g1 s1 hd1 a1 r hb => by
    unfold fDictZip at hb
    split at hb
    · rename_i c d
      split at hb
      · rename_i xs ys e1 e2
        split at hb
        · rename_i ks e3
          cases r with
          | cons r t =>
            cases t with
            | cons r2 t =>
              cases t
              obtain ⟨a, us, rfl, hx, lx, rx⟩ := asSeq_q hd1 r e1
              obtain ⟨b, ws, rfl, hy, ly, ry⟩ := asSeq_q hd1 r2 e2
              have ex := keys_ok rx e3
              subst ex
              have sb : ∀ {c : Addr} {us : List V}, SqL X.K H1 c us ∨ SqT X.K H1 c us → ∃ k, SqB k X.K H1 c us := fun h => h.elim (fun h => ⟨true, h⟩) fun h => ⟨false, h⟩
              obtain ⟨k1, hx⟩ := sb hx
              obtain ⟨k2, hy⟩ := sb hy
              refine ⟨k1, k2, a, b, ks, ws, rfl, hx, hy, new_o k (o := .dK _) (d := .dct _) hd1 (kt.after a1) ⟨?_, (repK_zip ry).merge .nil⟩ hb⟩
              refine Nat.le_trans (length_mergeK _ []) ?_
              rw [List.length_nil, Nat.zero_add, zipK_length]
              omega
        · exact hb.elim
      · exact hb.elim
    · exact hb.elim⟩
end Bx
end

section
/-! isinstance, insert, remove, index, update, several targets, in by equality; over data. -/
namespace Bx
open PySem L2 PySem.Spec PyProof.Rows
theorem _root_.L2.Room.u65 {k : Nat} {A : Around} (hr : Room k A) : A.units + 65 < cLine := by have := hr.un; omega
theorem hu_of {k : Nat} {A : Around} (hr : Room k A) : A.units + 1 < cLine := by have := hr.units; omega

/-! ### isinstance of a built-in type -/
def tyD : D → Option String
  | .non => some "NoneType"
  | .bl _ => some "bool"
  | .int _ => some "int"
  | .str _ => some "str"
  | .tup _ => some "tuple"
  | .lst _ => some "list"
  | .scr _ => none
  | .dct _ => some "dict"
  | .raw _ => none
inductive IsT : String → String → Bool → Prop
  | same (T : String) : IsT T T true
  | boolInt : IsT "bool" "int" true
  | no1 : IsT "NoneType" "int" false | no2 : IsT "NoneType" "bool" false | no3 : IsT "NoneType" "str" false | no4 : IsT "NoneType" "tuple" false
  | bo1 : IsT "bool" "str" false | bo2 : IsT "bool" "tuple" false
  | in1 : IsT "int" "bool" false | in2 : IsT "int" "str" false | in3 : IsT "int" "tuple" false
  | st1 : IsT "str" "int" false | st2 : IsT "str" "bool" false | st3 : IsT "str" "tuple" false
  | tu1 : IsT "tuple" "int" false | tu2 : IsT "tuple" "bool" false | tu3 : IsT "tuple" "str" false
  | li1 : IsT "list" "int" false | li2 : IsT "list" "bool" false | li3 : IsT "list" "str" false | li4 : IsT "list" "tuple" false
  | di1 : IsT "dict" "int" false | di2 : IsT "dict" "bool" false | di3 : IsT "dict" "str" false | di4 : IsT "dict" "tuple" false
theorem isT_kit {K : PySem.W.Frag} {t T : String} {b : Bool} (h : IsT t T b) : PySem.W.kitOne K (.type t) (.type T) = some b := by
  cases h <;> first | (unfold PySem.W.kitOne; rw [if_pos (beq_self_eq_true _)]) | rfl
/-- isinstance(x, T), as a truth -/
def isInst : D → String → Option Bool
  | .bl _, T => if T = "int" ∨ T = "bool" then some true else if T = "str" ∨ T = "tuple" then some false else none
  | .non, T => if T = "int" ∨ T = "bool" ∨ T = "str" ∨ T = "tuple" then some false else none
  | .int _, T => if T = "int" then some true else if T = "bool" ∨ T = "str" ∨ T = "tuple" then some false else none
  | .str _, T => if T = "str" then some true else if T = "int" ∨ T = "bool" ∨ T = "tuple" then some false else none
  | .tup _, T => if T = "tuple" then some true else if T = "int" ∨ T = "bool" ∨ T = "str" then some false else none
  | .lst _, T => if T = "int" ∨ T = "bool" ∨ T = "str" ∨ T = "tuple" then some false else none
  | .scr _, _ => none
  | .dct _, T => if T = "int" ∨ T = "bool" ∨ T = "str" ∨ T = "tuple" then some false else none
  | .raw _, _ => none
theorem isInst_isT {x : D} {T : String} {b : Bool} (h : isInst x T = some b) : ∃ t, tyD x = some t ∧ IsT t T b := by
  cases x <;> simp only [isInst] at h
  all_goals first
    | (cases h; done)
    | skip
  all_goals (repeat' split at h)
  all_goals first
    | (cases h; done)
    | skip
  all_goals cases h
  all_goals (rename_i hT; refine ⟨_, rfl, ?_⟩)
  all_goals (first
    | (subst hT; constructor; done)
    | (rcases hT with rfl | rfl <;> constructor; done)
    | (rcases hT with rfl | rfl | rfl <;> constructor; done)
    | (rcases hT with rfl | rfl | rfl | rfl <;> constructor; done))
theorem tyX_of {K : PySem.W.Frag} {O : Addr → Prop} {H : Hp} {v : V} {x : D} {t : String} (r : Rep K O H v x) (e : tyD x = some t) : TyX K H v (.type t) := by
  cases r with
  | non => cases e; exact .base .non
  | bl b => cases e; exact .base (.bl b)
  | int i => cases e; exact .base (.int i)
  | str x => cases e; exact .base (.str x)
  | raw v => cases e
  | tup a xs ds hO h hl r => cases e; obtain ⟨o, _, h⟩ := h; exact .fTuple h
  | tupK a xs ds o its n hk hc hq hd hz hv r => cases e; exact .kTuple hk hc
  | lst a xs ds hO h hl r => cases e; exact .base (.lst h)
  | scr a xs ds hO h hl r => cases e
  | scrK a xs ds o its n hk hc hq hd hz hv r => cases e
  | dct a ks kvs hO h hl r => cases e; exact .base (.dK h)
def fIsi : BN := fun cs s Q => match cs with
  | [c, .d (.raw (.ty T))] => match asData c s with
    | some x => match isInst x T with
      | some b => Q (.d (.bl b)) s
      | none => False
    | none => False
  | _ => False
theorem fi_isi {K : PySem.W.Frag} : ArgI K (rIsi K) fIsi := fun g s σ H xs cs Qp Q hd rs hb kt => by
  unfold fIsi at hb
  split at hb
  · rename_i c T
    cases rs with
    | @cons v _ _ _ r t =>
      cases t with
      | cons r2 t =>
        cases t; cases r2
        split at hb
        · rename_i x e
          split at hb
          · rename_i b e2
            obtain ⟨t, e3, e4⟩ := isInst_isT e2
            have ty : TyX K H v (.type t) := by
              unfold asData at e
              split at e
              · cases e; exact tyX_of r e3
              · split at e
                · rename_i hn
                  cases e
                  rw [nth_eq] at hn
                  obtain ⟨a, h1, rfl⟩ := r
                  have q := hd.own _ _ _ hn h1
                  cases x with
                  | lst ds => obtain ⟨xs, hH, _⟩ := q; cases e3; exact .base (.lst hH)
                  | dct ds => obtain ⟨xs, hH, _⟩ := q; cases e3; exact .base (.dK hH)
                  | _ => exact q.elim
                · cases e
            exact ⟨_, _, _, _, b, rfl, .ty T, ty, isT_kit e4, kt _ _ (.d (.bl b)) _ _ hd .refl (.bl b) hb⟩
          · exact hb.elim
        · exact hb.elim
  · exact hb.elim
theorem pp_isiB {X : Cx} {e e2 : Expr} {pa : TPa} {p' pos : Pos} (T : Blt X.mg) (hg : Gl X "isinstance") (ha : PPa X [e, e2] pa) (he : starEach [e, e2] X.env = (false, eval e X.env) :: starEach [e2] X.env := by rfl) (hpl : (backTo pos (starEach [e2] X.env)).any (·.1) = false := by rfl) :
    PP X (.Call (.Name "isinstance" p') [e, e2] [] pos) (wArg fIsi pa) := pp_callB call_isi fi_isi hg T.isinstance (by decide +kernel) ha (by decide) (by decide) he hpl

/-! ### x in xs by == -/
def memQ (x : D) (ds : List D) : Bool := ds.any fun z => deq z x
def cInQ (f : Bool → Bool) : B2 := fun c d s Q => match asData c s, asSeq d s with
  | some x, some ds => (plain 64 x = true ∧ plain 64 (.tup ds) = true) ∧ Q (.d (.bl (f (memQ x ds)))) s
  | _, _ => False
def rInTD (K : PySem.W.Frag) (f : Bool → Bool) : R2 := fun x y H Q => ∃ d ds, Dp K H x d ∧ Dp K H y (.tuple ds) ∧ SeqAt.shaped d = true ∧ SeqAt.shaped (.tuple ds) = true ∧ Q (.bl (f (ds.any fun z => PyData.eqv z d))) H
theorem op_inTD {X : Cx} (hu : X.A.units + 65 < cLine) : OpR X (compareOp .In) (rInTD X.K id) := by
  rintro pins s σ H x y v u Q I rx ry ⟨d, ds, hd, he, sd, se, q⟩
  obtain ⟨as, r1⟩ := Dp.reads I d x v hd rx
  obtain ⟨bs, r2⟩ := Dp.reads I (.tuple ds) y u he ry
  exact SeqAt.in_tuple_reads r2 r1 (SeqAt.canLay_of_shaped se) (SeqAt.canLay_of_shaped sd) (room_in_shaped sd hu) ⟨.bl _, H, I, rfl, q⟩
theorem op_notInTD {X : Cx} (hu : X.A.units + 65 < cLine) : OpR X (compareOp .NotIn) (rInTD X.K not) := by
  rintro pins s σ H x y v u Q I rx ry ⟨d, ds, hd, he, sd, se, q⟩
  obtain ⟨as, r1⟩ := Dp.reads I d x v hd rx
  obtain ⟨bs, r2⟩ := Dp.reads I (.tuple ds) y u he ry
  exact SeqAt.notIn_tuple_reads r2 r1 (SeqAt.canLay_of_shaped se) (SeqAt.canLay_of_shaped sd) (room_in_shaped sd hu) ⟨.bl _, H, I, rfl, q⟩
theorem any_deq {x : D} (h : plain 64 x = true) : ∀ {ds : List D}, plains 63 ds = true → (toPys ds).any (fun z => PyData.eqv z (toPy x)) = memQ x ds
  | [], _ => rfl
  | d :: ds, h2 => by
    have h' : plain 63 d = true ∧ plains 63 ds = true := by simpa [plains] using h2
    have ih := any_deq h h'.2
    unfold memQ at ih ⊢
    unfold toPys
    rw [List.any_cons, List.any_cons, ih, eqv_deq d x 63 64 h'.1 h]
theorem seq_dp {K : PySem.W.Frag} {g : G} {s : S} {σ : L2.St} {H : Hp} {v : V} {c : Val} {ds : List D} (hd : Hold K g s σ H) (r : RepV K g s H v c) (e : asSeq c s = some ds) (h : plains 63 ds = true) : Dp K H v (.list (toPys ds)) ∨ Dp K H v (.tuple (toPys ds)) := by
  obtain ⟨a, xs, rfl, hq, hl, rr⟩ := asSeq_q hd r e
  rcases hq with hq | hq
  · exact .inl (.lst hq (reps_dp rr h))
  · exact .inr (.tup hq (reps_dp rr h))
theorem shaped_list {ds : List D} (h : plains 63 ds = true) : SeqAt.shaped (.list (toPys ds)) = true ∧ SeqAt.shaped (.tuple (toPys ds)) = true := by
  have h1 := plain_shaped (x := .lst ds) (by simpa [plain] using h)
  have h2 := plain_shaped (x := .tup ds) (by simpa [plain] using h)
  exact ⟨by simpa [toPy] using h1, by simpa [toPy] using h2⟩
theorem ci_inQ {K : PySem.W.Frag} : BinI K (fun x y H Q => rInD K x y H Q ∨ rInTD K id x y H Q) (cInQ id) := fun g s σ H x y c d Qp Q hd rx ry hb kt => by
  unfold cInQ at hb
  split at hb
  · rename_i z ds e1 e2
    obtain ⟨⟨p1, p2⟩, q⟩ := hb
    have p3 : plains 63 ds = true := by simpa [plain] using p2
    have q' := kt _ _ (.d (.bl _)) _ _ hd .refl (.bl _) q
    rw [← any_deq p1 p3] at q'
    rcases seq_dp hd ry e2 p3 with h | h
    · exact .inl ⟨_, _, asData_dp hd rx e1 p1, h, plain_shaped p1, (shaped_list p3).1, q'⟩
    · exact .inr ⟨_, _, asData_dp hd rx e1 p1, h, plain_shaped p1, (shaped_list p3).2, q'⟩
  · exact hb.elim
theorem ci_notInQ {K : PySem.W.Frag} : BinI K (fun x y H Q => rNotInD K x y H Q ∨ rInTD K not x y H Q) (cInQ not) := fun g s σ H x y c d Qp Q hd rx ry hb kt => by
  unfold cInQ at hb
  split at hb
  · rename_i z ds e1 e2
    obtain ⟨⟨p1, p2⟩, q⟩ := hb
    have p3 : plains 63 ds = true := by simpa [plain] using p2
    have q' := kt _ _ (.d (.bl _)) _ _ hd .refl (.bl _) q
    rw [← any_deq p1 p3] at q'
    rcases seq_dp hd ry e2 p3 with h | h
    · exact .inl ⟨_, _, asData_dp hd rx e1 p1, h, plain_shaped p1, (shaped_list p3).1, q'⟩
    · exact .inr ⟨_, _, asData_dp hd rx e1 p1, h, plain_shaped p1, (shaped_list p3).2, q'⟩
  · exact hb.elim
section
variable {X : Cx} {a b : Expr} {p q : TP} {pos : Pos} {k : Nat}
theorem pp_inD (hr : Room k X.A) (ha : PP X a p) (hb : PP X b q) (hm : behindInMarks .In b = false := by rfl) : PP X (.Compare a [.In] [b] pos) (wBin (cInQ id) p q) := pp_cmp ((op_inD hr.u65).or (op_inTD hr.u65)) ci_inQ ha hb hm
theorem ppt_inD (hr : Room k X.A) (ha : PP X a p) (hb : PP X b q) (hm : behindInMarks .In b = false := by rfl) : PPt X (.Compare a [.In] [b] pos) (wTest (wBin (cInQ id) p q)) := ppt_cmp ((op_inD hr.u65).or (op_inTD hr.u65)) ci_inQ ha hb hm
theorem pp_notInD (hr : Room k X.A) (ha : PP X a p) (hb : PP X b q) (hm : behindInMarks .NotIn b = false := by rfl) : PP X (.Compare a [.NotIn] [b] pos) (wBin (cInQ not) p q) := pp_cmp ((op_notInD hr.u65).or (op_notInTD hr.u65)) ci_notInQ ha hb hm
theorem ppt_notInD (hr : Room k X.A) (ha : PP X a p) (hb : PP X b q) (hm : behindInMarks .NotIn b = false := by rfl) : PPt X (.Compare a [.NotIn] [b] pos) (wTest (wBin (cInQ not) p q)) := ppt_cmp ((op_notInD hr.u65).or (op_notInTD hr.u65)) ci_notInQ ha hb hm
end

/-! ### insert, index -/
section
variable {X : Cx} {o e e2 : Expr} {p : TP} {pa : TPa} {apos cpos : Pos}
theorem pp_ins (ho : PP X o p) (ha : PPa X [e, e2] pa) (hbase : attributeBase o "insert" X.env (eval o X.env) = eval o X.env := by rfl)
    (hfew : ((backTo cpos (starEach [e, e2] X.env)).all (fun x => !x.1) && (backToKw cpos (keywordEach [] X.env)).all (fun x => x.1.isSome) && decide ([e, e2].length + ([] : List Keyword).length + (if ([] : List Keyword).isEmpty then 0 else 1) < 30)) = true := by rfl)
    (hline : (apos.endLine == cpos.line) = true := by rfl) (hs : starEach [e, e2] X.env = (false, eval e X.env) :: starEach [e2] X.env := by rfl) (hpl : (backTo cpos (starEach [e2] X.env)).any (·.1) = false := by rfl) : PP X (.Call (.Attribute o "insert" apos) [e, e2] [] cpos) (wMt p pa mIns) :=
  PEw (pe_bm PySem.F.plainAttrs_list PySem.F.slot_list_insert PySem.F.type_list_insert mt_insert ho ha hbase hfew hline hs hpl) (lift_mt mi_ins)
end
def posS (x : Str) : List Str → Option Nat
  | [] => none
  | y :: r => if y = x then some 0 else (posS x r).map (· + 1)
theorem posS_at {x : Str} : ∀ {ys : List Str} {j : Nat}, posS x ys = some j → ys[j]? = some x ∧ ∀ m, m < j → ys[m]? ≠ some x
  | [], _, h => by cases h
  | y :: r, j, h => by
    unfold posS at h
    split at h
    · rename_i e
      cases h; subst e
      exact ⟨rfl, fun m hm => by omega⟩
    · rename_i ne
      cases e : posS x r with
      | none => rw [e] at h; cases h
      | some i =>
        rw [e] at h; cases h
        obtain ⟨h1, h2⟩ := posS_at e
        refine ⟨by simpa using h1, fun m hm => ?_⟩
        cases m with
        | zero => simpa using ne
        | succ m =>
          have hm' : m + 1 < i + 1 := hm
          simpa using h2 m (by omega)
def mIdx : BM := fun c cs s Q => match asLst c s, cs with
  | some ds, [.d (.str x)] => match unS ds with
    | some zs => match posS x zs with
      | some j => Q (.d (.int (j : Nat))) s
      | none => False
    | none => False
  | _, _ => False
theorem mi_idx {K : PySem.W.Frag} : MetI K (rIndex K) mIdx := fun g s σ H x xs c cs Qp Q hd rx rs hb kt => by
  unfold mIdx at hb
  split at hb
  · rename_i ds z e
    cases rs with
    | cons r t =>
      cases t; cases r
      split at hb
      · rename_i zs e2
        split at hb
        · rename_i j e3
          obtain ⟨a, ys, rfl, hq, hl, rr⟩ := asLst_q hd rx e
          have ey := unS_ok rr e2
          subst ey
          obtain ⟨h1, h2⟩ := posS_at e3
          refine ⟨a, _, _, j, .str z, rfl, rfl, hq, rfl, ?_, by rw [List.getElem?_map, h1]; rfl, ?_, fun m z' hm hz => ?_, kt _ _ (.d (.int _)) _ _ hd .refl (.int _) hb⟩
          · rw [List.all_eq_true]
            intro v hv
            obtain ⟨y, _, rfl⟩ := List.mem_map.mp hv
            rfl
          · exact decide_eq_true rfl
          · rw [List.getElem?_map] at hz
            cases e4 : zs[m]? with
            | none => rw [e4] at hz; cases hz
            | some y =>
              rw [e4] at hz; cases hz
              exact decide_eq_false fun e5 => h2 m hm (by rw [e4, e5])
        · exact hb.elim
      · exact hb.elim
  · exact hb.elim
section
variable {X : Cx} {o e e2 : Expr} {p : TP} {pa : TPa} {apos cpos : Pos}
theorem pp_index (ho : PP X o p) (ha : PPa X [e] pa) (hbase : attributeBase o "index" X.env (eval o X.env) = eval o X.env := by rfl)
    (hfew : ((backTo cpos (starEach [e] X.env)).all (fun x => !x.1) && (backToKw cpos (keywordEach [] X.env)).all (fun x => x.1.isSome) && decide ([e].length + ([] : List Keyword).length + (if ([] : List Keyword).isEmpty then 0 else 1) < 30)) = true := by rfl)
    (hline : (apos.endLine == cpos.line) = true := by rfl) (hs : starEach [e] X.env = (false, eval e X.env) :: starEach [] X.env := by rfl) : PP X (.Call (.Attribute o "index" apos) [e] [] cpos) (wMt p pa mIdx) :=
  PEw (pe_bm PySem.F.plainAttrs_list PySem.F.slot_list_index PySem.F.type_list_index mt_index ho ha hbase hfew hline hs rfl) (lift_mt mi_idx)
end

/-! ### several targets -/
theorem ppgs_nil {X : Cx} : PPgs X [] (fun cs s Q => match cs with | [] => Q s | _ => False) := PGsw pgs_nil fun vs σ H Q ⟨g, s, cs, Qp, hd, r, hp, k⟩ => by
  cases r with
  | nil => exact ⟨rfl, k _ _ _ _ hd .refl hp⟩
  | cons => exact hp.elim
def wGs (p : TPg) (q : TPgs) : TPgs := fun cs s Q => match cs with
  | c :: r => p c s fun s1 => q r s1 Q
  | [] => False
theorem ppgs_cons {X : Cx} {e : Expr} {es : List Expr} {p : TPg} {q : TPgs} (h1 : PPg X e p) (h2 : PPgs X es q) (hs : (assignEach (e :: es) X.env).map (·.2) = assign e X.env :: (assignEach es X.env).map (·.2) := by rfl) : PPgs X (e :: es) (wGs p q) :=
  PGsw (pgs_cons h1 h2 hs) fun vs σ H Q ⟨g, s, cs, Qp, hd, r, hp, k⟩ => by
    cases r with
    | nil => exact hp.elim
    | cons r t =>
      refine ⟨_, _, rfl, g, s, _, _, hd, r, hp, fun σ1 H1 g1 s1 hd1 a1 hq => ⟨g1, s1, _, _, hd1, t.adv a1, hq, fun σ2 H2 g2 s2 hd2 a2 hq2 => k _ _ _ _ hd2 (a1.trans a2) hq2⟩⟩
/-- a tuple's items, as values -/
def valsD : List D → List Val
  | [] => []
  | d :: r => .d d :: valsD r
theorem reps_vals {K : PySem.W.Frag} {g : G} {s : S} {H : Hp} : ∀ {xs : List V} {ds : List D}, Reps K (Ov g s) H xs ds → RepVs K g s H xs (valsD ds)
  | _, _, .nil => .nil
  | _, _, .cons v vs d ds r t => .cons r (reps_vals t)
def wGT (n : Nat) (q : TPgs) : TPg := fun c s Q => match c with
  | .d (.tup ds) => ds.length = n ∧ q (valsD ds) s Q
  | _ => False
theorem ppg_tup {X : Cx} {es : List Expr} {k n : Nat} {pos : Pos} {q : TPgs} (hc : X.calm = true) (h : PPgs X es q) (hn : (assignEach es X.env).length = n := by rfl) (hst : (assignEach es X.env).findIdx? (·.1) = none := by rfl) : PPg X (.Tuple es k pos) (wGT n q) :=
  PGw (pg_tup hc h hn hst) fun v σ H Q ⟨g, s, c, Qp, hd, r, hp, kt⟩ => by
    unfold wGT at hp
    split at hp
    · rename_i ds
      obtain ⟨a, xs, rfl, hq, hl, rr⟩ := asTup_q (c := .d (.tup ds)) hd r rfl
      exact ⟨a, xs, rfl, hq, rr.length.trans hp.1, g, s, _, _, hd, reps_vals rr, hp.2, kt⟩
    · exact hp.elim
def wPar3 (i j l : Nat) (pa : TPa) : TPs := fun E s => pa s fun cs s1 => match cs with
  | [c, d, e] => E.nx ⟨((s1.env.set i (some c)).set j (some d)).set l (some e), s1.own⟩
  | _ => False
theorem pp_par3 {X : Cx} {W : WX} {i j l : Nat} {x y z : Str} {a b c : Expr} {pa : TPa} {px py pz pt pos : Pos} {kt k2 pt2} (hc : X.calm = true) (hN : X.N.Nodup) (hi : X.N[i]? = some x) (hj : X.N[j]? = some y) (hl : X.N[l]? = some z) (hij : i ≠ j) (hil : i ≠ l) (hjl : j ≠ l)
    (hx : X.env.scope.names.lookup x = some .local) (hy : X.env.scope.names.lookup y = some .local) (hz : X.env.scope.names.lookup z = some .local) (ha : PPa X [a, b, c] pa)
    (hw : swappedStores [.Tuple [.Name x px, .Name y py, .Name z pz] kt pt] (.Tuple [a, b, c] k2 pt2) X.env = pure (some [x, y, z]))
    (hs : swapsWithSole [.Tuple [.Name x px, .Name y py, .Name z pz] kt pt] (.Tuple [a, b, c] k2 pt2) pos.line X.env = pure false := by rfl) :
    PPs X W (.Assign [.Tuple [.Name x px, .Name y py, .Name z pz] kt pt] (.Tuple [a, b, c] k2 pt2) pos) (wPar3 i j l pa) :=
  PSw (ps_par3 hc hN hi hj hl hij hil hjl hx hy hz ha hw hs) fun D σ H ⟨g, s, E, hd, hp, k, kx⟩ => ⟨g, s, _, hd, hp, fun vs H' cs g' s' hd' a' r hq => by
    split at hq
    · cases r with
      | cons r1 t =>
        cases t with
        | cons r2 t =>
          cases t with
          | cons r3 t =>
            cases t
            refine ⟨_, _, _, rfl, k.nx (((hd'.set i r1).set j (c := _) ?_).set l (c := _) ?_) (a'.trans (adv_env.trans (adv_env.trans adv_env))) hq⟩
            · exact RepV.adv r2 adv_env
            · exact RepV.adv (RepV.adv r3 adv_env) adv_env
    · exact hq.elim⟩
end Bx
end

section
/-! xs.remove(x) by ==; d.update(e). -/
namespace Bx
open PySem L2 PySem.Spec PyProof.Rows MeetsSeq

/-! ### remove -/
theorem remAt_loop (l : Addr) (items : Array Value) (n : Nat) (x : Value) (e : Value → Bool) (j : Nat) (hj : j < items.size) (hit : e items[j] = true) (hz : items.size ≤ sizeLine) : ∀ (k i : Nat), j - i = k → i ≤ j → (∀ m (hm : m < items.size), m < j → e items[m] = false) →
    Meets (Builtin.«list.remove.loop» ⟨[.ref l, x, rawInt i], []⟩) (fun A R s => s.heap.get? l = some { cls := .type "list", dict := none, data := .seq items n, slots := #[] } ∧ (∀ y, y ∈ items → SeqAt.EqAt A.in1 s y x (e y)) ∧
      R (.ok (.ret .none)) { s with heap := s.heap.update l (Obj.mapSeq fun xs => xs.eraseIdxIfInBounds j) }) := by
  intro k
  induction k with
  | zero =>
    rintro i hk hij hno prog w A R ⟨hp, g, d, tk, os⟩ ⟨hl, he, h⟩
    obtain rfl : i = j := by omega
    wp_walk using wpAny_loadPart' hl
    rw [show items[((i : Nat) : Int).toNat]? = some items[i] by simp [hj]]
    refine wpAny_bind (he _ (Array.getElem_mem hj) prog w _ _ ?_)
    rw [hit]
    have hz' : (items.eraseIdxIfInBounds i).size ≤ sizeLine + 1 := Nat.le_trans (size_erased items _) (Nat.le_succ_of_le hz)
    wp_walk using (wpAny_updateSeq hl rfl (hz := hz) (_hz' := hz')), wpAny_loadPart' hl
    simpa using h
  | succ k ih =>
    rintro i hk hij hno prog w A R ⟨hp, g, d, tk, os⟩ ⟨hl, he, h⟩
    have hi : i < items.size := by omega
    wp_walk using wpAny_loadPart' hl
    rw [show items[((i : Nat) : Int).toNat]? = some items[i] by simp [hi]]
    refine wpAny_bind (he _ (Array.getElem_mem hi) prog w _ _ ?_)
    rw [hno i hi (by omega)]
    wp_walk
    rw [show ((i : Int) + 1) = ((i + 1 : Nat) : Int) by push_cast; rfl]
    refine ⟨plainId_quiet plain_remove_loop _, codeAny_builtin entry_remove_loop ?_⟩
    rw [Around.under_plainId plain_remove_loop _]
    exact ih (i + 1) (by omega) (by omega) hno prog w A R _ ⟨hl, he, h⟩
theorem remAt (l : Addr) (items : Array Value) (n : Nat) (x : Value) (e : Value → Bool) (j : Nat) (hj : j < items.size) (hit : e items[j] = true) (hno : ∀ m (hm : m < items.size), m < j → e items[m] = false) (hz : items.size ≤ sizeLine) :
    Meets (Builtin.«list.remove» ⟨[.ref l, x], []⟩) (fun A R s => s.heap.get? l = some { cls := .type "list", dict := none, data := .seq items n, slots := #[] } ∧ (∀ y, y ∈ items → SeqAt.EqAt A.in1 s y x (e y)) ∧
      R (.ok (.ret .none)) { s with heap := s.heap.update l (Obj.mapSeq fun xs => xs.eraseIdxIfInBounds j) }) := by
  rintro prog w A R ⟨hp, g, d, tk, os⟩ ⟨hl, he, h⟩
  wp_walk using wpAny_loadPart' hl
  refine ⟨plainId_quiet plain_remove_loop _, codeAny_builtin entry_remove_loop ?_⟩
  rw [Around.under_plainId plain_remove_loop _]
  exact remAt_loop l items n x e j hj hit hz _ 0 rfl (Nat.zero_le _) hno prog w A R _ ⟨hl, he, h⟩
def rRemD (K : PySem.W.Frag) : V → List V → Hp → VK → Prop := fun x xs H Q => ∃ (a : Addr) (ys : List V) (y : V) (d : PyData) (ds : List PyData) (j : Nat) (z : PyData), x = V.ref a ∧ xs = [y] ∧ H a = some (.lst ys) ∧ DpAll K H ys ds ∧ Dp K H y d ∧
  SeqAt.shaped (.list ds) = true ∧ SeqAt.shaped d = true ∧ ds[j]? = some z ∧ PyData.eqv z d = true ∧ (∀ (m : Nat) (z' : PyData), m < j → ds[m]? = some z' → PyData.eqv z' d = false) ∧ Q .non (upd H a (.lst (ys.eraseIdx j)))
theorem mt_removeD {X : Cx} (hu : X.A.units + 65 < cLine) : MtR X "list.remove" (rRemD X.K) := by
  rintro pins s σ H x xs v us Q I rx rxs ⟨a, ys, y, d, ds, j, z, rfl, rfl, ha, hda, hy, sl, sd, hz, hzj, hno, q⟩
  cases rx
  obtain ⟨uy, rfl, ry⟩ := vals1 rxs
  obtain ⟨bs, r1⟩ := Dp.reads I d y uy hy ry
  have hxs : PyData.canLayAll0 ds = true := SeqAt.canLay_of_shaped sl
  obtain ⟨z0, its, n, r, hl, ho⟩ := I.lstM ha
  obtain ⟨as, h4⟩ := Dp.readsAll I ds _ its hda r
  have hn : its.length = ds.length := SeqAt.ReadsAll.length ds its as h4
  have hmap : its.map (SeqAt.readOf s.heap) = ds := SeqAt.readsAll_map ds its as hxs h4
  have hjd := (List.getElem?_eq_some_iff.mp hz).1
  have hj : j < its.toArray.size := by rw [List.size_toArray]; omega
  have rd : ∀ (m : Nat) (hm : m < its.toArray.size), ds[m]? = some (SeqAt.readOf s.heap its.toArray[m]) := fun m hm => by
    have hm' : m < its.length := by simpa using hm
    rw [← hmap, List.getElem?_map, List.getElem?_eq_getElem hm']
    simp
  refine call_meets PySem.F.slot_list_remove ⟨_, ho, rfl⟩ PySem.F.entry_list_remove (PySem.F.args_list_remove_2 _ _)
    (remAt a its.toArray n uy (fun u => PyData.eqv (SeqAt.readOf s.heap u) d) j hj ?_ (fun m hm hmj => hno m _ hmj (rd m hm)) (by rw [List.size_toArray]; omega))
    ⟨ho, SeqAt.items_eqAt (vs := its.toArray) h4 r1 hxs (SeqAt.canLay_of_shaped sd) (room_in_shaped sd hu), ?_⟩
  · have := rd j hj
    rw [hz] at this
    rw [← Option.some.inj this]; exact hzj
  · refine ⟨.non, _, I.lset (its' := its.eraseIdx j) (t' := s.toks) ha ho ?_ (r.eraseIdx j) ?_, rfl, q⟩
    · show its.toArray.eraseIdxIfInBounds j = (its.eraseIdx j).toArray
      rw [List.eraseIdxIfInBounds_toArray]
    · have := len_erase ys j
      omega
/-- the first place of an equal one -/
def posQ (x : D) : List D → Option Nat
  | [] => none
  | y :: r => match deq y x with
    | true => some 0
    | false => (posQ x r).map (· + 1)
theorem posQ_at {x : D} : ∀ {ys : List D} {j : Nat}, posQ x ys = some j → (∃ y, ys[j]? = some y ∧ deq y x = true) ∧ ∀ m y, m < j → ys[m]? = some y → deq y x = false
  | [], _, h => by cases h
  | y :: r, j, h => by
    unfold posQ at h
    split at h
    · rename_i e
      cases h
      exact ⟨⟨y, rfl, e⟩, fun m y' hm => by omega⟩
    · rename_i ne
      cases e : posQ x r with
      | none => rw [e] at h; cases h
      | some i =>
        rw [e] at h; cases h
        obtain ⟨⟨y', h1, h3⟩, h2⟩ := posQ_at e
        refine ⟨⟨y', by simpa using h1, h3⟩, fun m y'' hm hy => ?_⟩
        cases m with
        | zero => have : y = y'' := by simpa using hy
                  subst this; exact ne
        | succ m =>
          have hm' : m + 1 < i + 1 := hm
          exact h2 m y'' (by omega) (by simpa using hy)
def mRem : BM := fun c cs s Q => match ownL c s, cs with
  | some (l, ds), [.d x] => match posQ x ds with
    | some j => (plain 64 x = true ∧ plain 64 (.lst ds) = true) ∧ Q (.d .non) (setO s l (.lst (ds.eraseIdx j)))
    | none => False
  | _, _ => False
theorem toPys_get : ∀ {ds : List D} {m : Nat} {z : PyData}, (toPys ds)[m]? = some z → ∃ d, ds[m]? = some d ∧ z = toPy d
  | [], m, z, h => by simp [toPys] at h
  | d :: ds, 0, z, h => by simp [toPys] at h; exact ⟨d, rfl, h.symm⟩
  | d :: ds, m + 1, z, h => by
    obtain ⟨d', h1, h2⟩ := toPys_get (ds := ds) (m := m) (z := z) (by simpa [toPys] using h)
    exact ⟨d', by simpa using h1, h2⟩
theorem toPys_at : ∀ {ds : List D} {m : Nat} {d : D}, ds[m]? = some d → (toPys ds)[m]? = some (toPy d)
  | [], m, z, h => by simp at h
  | d :: ds, 0, z, h => by simp at h; simp [toPys, h]
  | d :: ds, m + 1, z, h => by simpa [toPys] using toPys_at (ds := ds) (m := m) (d := z) (by simpa using h)
theorem plains_get : ∀ {ds : List D} {n m : Nat} {d : D}, plains n ds = true → ds[m]? = some d → plain n d = true
  | [], n, m, d, _, h => by simp at h
  | d :: ds, n, 0, z, p, h => by
    have p' : plain n d = true ∧ plains n ds = true := by simpa [plains] using p
    simp at h; subst h; exact p'.1
  | d :: ds, n, m + 1, z, p, h => by
    have p' : plain n d = true ∧ plains n ds = true := by simpa [plains] using p
    exact plains_get p'.2 (by simpa using h)
theorem mi_rem {K : PySem.W.Frag} : MetI K (rRemD K) mRem := fun g s σ H x xs c cs Qp Q hd rx rs hb kt => by
  unfold mRem at hb
  split at hb
  · rename_i l ds z e
    obtain ⟨a, ys, rfl, h1, h2, h3, h4, h5⟩ := ownL_q hd rx e
    cases rs with
    | cons r t =>
      cases t
      split at hb
      · rename_i j e2
        obtain ⟨⟨p1, p2⟩, q⟩ := hb
        have p3 : plains 63 ds = true := by simpa [plain] using p2
        obtain ⟨⟨y, f1, f2⟩, f3⟩ := posQ_at e2
        refine ⟨a, ys, _, toPy z, toPys ds, j, toPy y, rfl, rfl, h1, reps_dp h3 p3, rep_dp r p1, (shaped_list p3).1, plain_shaped p1, toPys_at f1, ?_, fun m z' hm hz => ?_,
          put_own hd kt h4 h5 (o := .lst (ys.eraseIdx j)) (d' := .lst _) ⟨Nat.le_trans (len_erase ys j) h2, h3.eraseIdx j⟩ .non q⟩
        · rw [eqv_deq y z 63 64 (plains_get p3 f1) p1]; exact f2
        · obtain ⟨d', g1, rfl⟩ := toPys_get hz
          rw [eqv_deq d' z 63 64 (plains_get p3 g1) p1]; exact f3 m d' hm g1
      · exact hb.elim
  · exact hb.elim
theorem pp_remove {X : Cx} {o e : Expr} {p : TP} {pa : TPa} {apos cpos : Pos} {k : Nat} (hr : Room k X.A) (ho : PP X o p) (ha : PPa X [e] pa) (hbase : attributeBase o "remove" X.env (eval o X.env) = eval o X.env := by rfl)
    (hfew : ((backTo cpos (starEach [e] X.env)).all (fun x => !x.1) && (backToKw cpos (keywordEach [] X.env)).all (fun x => x.1.isSome) && decide ([e].length + ([] : List Keyword).length + (if ([] : List Keyword).isEmpty then 0 else 1) < 30)) = true := by rfl)
    (hline : (apos.endLine == cpos.line) = true := by rfl) (hs : starEach [e] X.env = (false, eval e X.env) :: starEach [] X.env := by rfl) : PP X (.Call (.Attribute o "remove" apos) [e] [] cpos) (wMt p pa mRem) :=
  PEw (pe_bm PySem.F.plainAttrs_list PySem.F.slot_list_remove PySem.F.type_list_remove (mt_removeD hr.u65) ho ha hbase hfew hline hs rfl) (lift_mt mi_rem)

/-! ### update -/
def rUpd : V → List V → Hp → VK → Prop := fun x xs H Q => ∃ (a b : Addr) (ks ms : List (Key × V)), x = .ref a ∧ xs = [.ref b] ∧ H a = some (.dK ks) ∧ H b = some (.dK ms) ∧ a ≠ b ∧ ks.length + ms.length ≤ sizeLine ∧ Q .non (upd H a (.dK (mergeK ks ms)))
theorem mt_update {X : Cx} : MtR X "dict.update" rUpd := by
  rintro pins s σ H x xs v us Q I rx rxs ⟨a, b, ks, ms, rfl, rfl, ha, hb, hne, hz, q⟩
  cases rx
  obtain ⟨u, rfl, ru⟩ := vals1 rxs
  cases ru
  obtain ⟨_, hd, vs, rel, dd⟩ := dk_of I.hok ha
  obtain ⟨_, hd2, ws, rel2, dd2⟩ := dk_of I.hok hb
  refine call_meetsIn PySem.F.slot_dict_update dd.typeIs PySem.F.entry_dict_update (PySem.F.args_dict_update_2 _ _) (meets_dict_update (mixKind X.prog X.w) a b hne hd2) ⟨vs, ws, dd, dd2, by rw [← rel.length, ← rel2.length]; exact hz, fun h' e1 _ sb => ?_⟩
  have he : ∃ o, h'.get? a = some o := by obtain ⟨o, _, _, e, _⟩ := e1; exact ⟨o, e⟩
  exact ⟨.non, _, d_write (t' := s.toks) I (by rw [ha]; exact True.intro) sb he (dk_new (Nat.le_trans (length_mergeK ms ks) hz) hd (KV.merge rel2 rel) e1), rfl, q⟩
def mUpd : BM := fun c cs s Q => match ownD c s, cs with
  | some (l, kvs), [.d (.dct more)] => kvs.length + more.length ≤ sizeLine ∧ Q (.d .non) (setO s l (.dct (mergeD kvs more)))
  | _, _ => False
theorem mi_upd {K : PySem.W.Frag} : MetI K rUpd mUpd := fun g s σ H x xs c cs Qp Q hd rx rs hb kt => by
  unfold mUpd at hb
  split at hb
  · rename_i l kvs more e
    obtain ⟨a, ks, rfl, h1, h2, h3, h4, h5⟩ := ownD_q hd rx e
    cases rs with
    | cons r t =>
      cases t
      cases r with
      | dct b ms _ hO hb2 hl2 rr =>
        have hz : ks.length + ms.length ≤ sizeLine := by rw [h3.length, rr.length]; exact hb.1
        exact ⟨a, b, ks, ms, rfl, rfl, h1, hb2, fun z => hO (by rw [← z]; exact .inr ⟨l, _, h5, h4⟩), hz, put_own hd kt h4 h5 (o := .dK (mergeK ks ms)) (d' := .dct _) ⟨Nat.le_trans (length_mergeK ms ks) hz, rr.merge h3⟩ .non hb.2⟩
  · exact hb.elim
def wMtD (p : TP) (pa : TPa) (b : BM) : TP := fun s Q => p s fun c s1 => match asDct c s1 with
  | some _ => pa s1 fun cs s2 => b c cs s2 Q
  | none => False
theorem lift_mtD {K : PySem.W.Frag} {p : TP} {pa : TPa} {r : V → List V → Hp → VK → Prop} {b : BM} (hi : MetI K r b) : ∀ σ H Q, lift K (wMtD p pa b) σ H Q → tBM K "dict" r (lift K p) (liftA K pa) σ H Q := fun σ H Q ⟨g, s, Qp, hd, hp, kt⟩ =>
  ⟨g, s, _, hd, hp, fun v1 H1 c1 g1 s1 hd1 a1 r1 hb => by
    split at hb
    · rename_i ds e
      obtain ⟨a, xs, rfl, hq, hl, r⟩ := asDct_q hd1 r1 e
      exact ⟨.inr (.inr (.inl ⟨rfl, .inl ⟨xs, hq⟩⟩)), g1, s1, _, hd1, hb, fun vs H2 cs g2 s2 hd2 a2 rs hb2 => hi _ _ _ _ _ _ _ _ _ _ hd2 (r1.adv a2) rs hb2 (kt.after (a1.trans a2))⟩
    · exact hb.elim⟩
theorem pp_update {X : Cx} {o e : Expr} {p : TP} {pa : TPa} {apos cpos : Pos} (ho : PP X o p) (ha : PPa X [e] pa) (hbase : attributeBase o "update" X.env (eval o X.env) = eval o X.env := by rfl)
    (hfew : ((backTo cpos (starEach [e] X.env)).all (fun x => !x.1) && (backToKw cpos (keywordEach [] X.env)).all (fun x => x.1.isSome) && decide ([e].length + ([] : List Keyword).length + (if ([] : List Keyword).isEmpty then 0 else 1) < 30)) = true := by rfl)
    (hline : (apos.endLine == cpos.line) = true := by rfl) (hs : starEach [e] X.env = (false, eval e X.env) :: starEach [] X.env := by rfl) : PP X (.Call (.Attribute o "update" apos) [e] [] cpos) (wMtD p pa mUpd) :=
  PEw (pe_bm PySem.F.plainAttrs_dict PySem.F.slot_dict_update PySem.F.type_dict_update mt_update ho ha hbase hfew hline hs rfl) (lift_mtD mi_upd)
end Bx
end

section
/-! xs[a:b] = ys, b may lie behind the end. -/
namespace Bx
open PySem L2 PySem.Spec PyProof.Rows
theorem bounds_clip {a c n : Nat} (hac : a ≤ c) (ha : a ≤ n) : sliceBounds (some (a : Int)) (some (c : Int)) none n = ((a : Int), ((min c n : Nat) : Int), 1) := by
  simp only [sliceBounds, Option.getD_none]
  have h1 : ¬ ((a : Int) < 0) := by omega
  have h2 : ¬ ((c : Int) < 0) := by omega
  simp only [h1, h2, if_false, show (1 : Int) > 0 by decide, if_true]
  congr 1
  · omega
  · congr 1; omega
section
variable {prog : Program} {w : World} {A : Around} {E : Value → Shared → Prop} {s : Shared}
set_option maxRecDepth 100000 in
theorem setItem_clip {l b sl : Addr} {items new : Array Value} {n n2 : Nat} {vl vu : Value} {a c : Nat} {Q : Unit → Shared → Prop}
    (e : s.heap.get? l = some { cls := .type "list", data := .seq items n }) (e2 : s.heap.get? b = some { cls := .type "list", data := .seq new n2 }) (hne : l ≠ b)
    (hs : s.heap.IsSliceOf sl vl vu .none) (pl : IsPart vl (some (a : Int))) (pu : IsPart vu (some (c : Int))) (hac : a ≤ c) (ha : a ≤ items.size)
    (hsz : items.size + new.size ≤ sizeLine) (h : Q () { s with heap := s.heap.update l (Obj.mapSeq fun xs => xs.extract 0 a ++ new ++ xs.extract (min c items.size) xs.size) }) :
    wpAny (model prog w) A (setItem (.ref l) (.ref sl) (.ref b)) Q E s := by
  have hl : s.heap.IsList l items := PySem.IsL.isList e
  have hb : s.heap.IsList b new := PySem.IsL.isList e2
  obtain ⟨os, hos, hcs, hds⟩ := id hs
  have hTs : s.TypeIs (.ref sl) "slice" := ⟨os, hos, hcs⟩
  have hstep : ¬ ((rawPart none == rawInt 0) = true) := Bool.false_ne_true
  have hsame : Builtin.List.listSameRef (.ref l) (.ref b) = false := by
    unfold Builtin.List.listSameRef
    exact beq_eq_false_iff_ne.mpr hne
  have hmax : (max (a : Int) ((min c items.size : Nat) : Int)).toNat = min c items.size := by omega
  have hz' : ((fun xs : Array Value => xs.extract 0 a ++ new ++ xs.extract (min c items.size) xs.size) items).size ≤ sizeLine + 1 := by
    simp only [Array.size_append, Array.size_extract]
    omega
  unfold setItem
  try with_reducible refine wpAny_holding ?_
  first | refine wpAny_bind (wpAny_pure ?_) | skip
  refine wpAny_bind (wpAny_sequenceKey hl.typeIs (by decide) ?_)
  refine wpAny_bind (wpAny_callSpecial?_slot (name := Str.ofString "__setitem__") hl.typeIs slot_list_setitem
    (wpAny_call_entry slot_list_setitem hl.typeIs entry_list_setitem ?_ (args_list_setitem _ _ _)))
  refine (show wpAny _ _ (Builtin.List.listSubscript? (.ref sl) >>= _) _ _ s from ?_)
  refine wpAny_bind ?_
  unfold Builtin.List.listSubscript?
  refine wpAny_bind (wpAny_specialOf hTs slice_no_index ?_)
  simp only [Option.isNone_none, if_true]
  refine wpAny_pure ?_
  refine (show wpAny _ _ (typeOf (.ref sl) >>= _) _ _ s from ?_)
  refine wpAny_bind (wpAny_typeOf hTs ?_)
  first
    | rw [if_neg (by decide)]
    | refine PySem.W.KFB.if_not (by decide) ?_
  rw [listSliceParts_eq]
  refine wpAny_bind (wpAny_bind (wpAny_field hos hds (x := .none) rfl (wpAny_bind (wpAny_listPart .none ?_))))
  rw [if_neg hstep]
  refine wpAny_bind (wpAny_field hos hds (x := vl) rfl (wpAny_bind (wpAny_listPart pl ?_)))
  refine wpAny_bind (wpAny_field hos hds (x := vu) rfl (wpAny_bind (wpAny_listPart pu (wpAny_pure ?_))))
  first
    | simp only [hsame, Bool.false_eq_true, if_false]
    | refine PySem.W.KFB.if_not hsame ?_
    | (dsimp only
       rw [if_neg (by rw [hsame]; exact Bool.false_ne_true)])
  refine wpAny_bind (m := Builtin.List.listAllItems (.ref b) "must assign iterable to extended slice") ?_
  unfold Builtin.List.listAllItems
  refine wpAny_bind (wpAny_typeOf hb.typeIs ?_)
  first
    | refine PySem.W.KFB.if_so (by decide) ?_
    | rw [if_pos (by decide)]
    | simp only [beq_self_eq_true, Bool.true_or, if_true]
  unfold Builtin.List.listItems
  refine wpAny_bind (wpAny_seqItems e2 rfl (wpAny_pure ?_))
  refine wpAny_bind (wpAny_bind (wpAny_seqItems e rfl (wpAny_pure ?_)))
  refine wpAny_bind (wpAny_of_eq ((sliceIndices_raw (some (a : Int)) (some (c : Int)) none items.size (by simp)).trans (congrArg (pure : Int × Int × Int → Sem (Int × Int × Int)) (bounds_clip hac ha))) ?_)
  refine (show wpAny _ _ (if ((1 : Int) == 1) = true then _ else _) _ _ s from ?_)
  rw [if_pos (by decide)]
  refine wpAny_bind (wpAny_rule ?_)
  first
    | simp only [notLongL hsz, Bool.false_eq_true, if_false]
    | refine PySem.W.KFB.if_not (notLongL hsz) ?_
  first | refine wpAny_bind (wpAny_pure ?_) | skip
  refine (show wpAny _ _ (updateSeq l (fun xs => xs.extract 0 ((a : Int)).toNat ++ new ++ xs.extract (max (a : Int) ((min c items.size : Nat) : Int)).toNat xs.size) >>= _) _ _ s from ?_)
  rw [hmax, Int.toNat_natCast]
  refine wpAny_bind (wpAny_updateSeq (hz := Nat.le_trans (Nat.le_add_right _ _) hsz) (_hz' := hz') e rfl ?_)
  refine wpAny_bind (wpAny_letGo ?_)
  first
    | exact wpAny_bind (wpAny_pure (wpAny_pure ⟨.none, rfl, wpAny_pure h⟩))
    | exact wpAny_pure ⟨.none, rfl, wpAny_pure h⟩
end
section
variable {X : Cx}
theorem set_clip {pins : List (Addr × Obj)} {s : Shared} {σ : L2.St} {H : Hp} {l b sl : Addr} {xs ys : List V} {a c : Int} {vl vu : Value} {Q : Unit → Shared → Prop} (I : Inv X pins σ H s)
    (hH : H l = some (.lst xs)) (hB : H b = some (.lst ys)) (hne : l ≠ b) (hs : s.heap.IsSliceOf sl vl vu .none) (pa : IsPart vl (some a)) (pc : IsPart vu (some c)) (h0 : 0 ≤ a) (hac : a ≤ c) (ha : a ≤ xs.length)
    (hz : xs.length + ys.length ≤ sizeLine) (h : ∀ s', Inv X pins σ (upd H l (.lst (xs.take a.toNat ++ ys ++ xs.drop c.toNat))) s' → Q () s') :
    wpAny (model X.prog X.w) X.A (setItem (.ref l) (.ref sl) (.ref b)) Q X.xe s := by
  obtain ⟨z, its, n, r, hl, e⟩ := I.lstM hH
  obtain ⟨z2, its2, n2, r2, hl2, e2⟩ := I.lstM hB
  obtain ⟨a', rfl⟩ := Int.eq_ofNat_of_zero_le h0
  obtain ⟨c', rfl⟩ := Int.eq_ofNat_of_zero_le (Int.le_trans h0 hac)
  simp only [Int.toNat_natCast] at h
  refine setItem_clip (a := a') (c := c') e e2 hne hs pa pc (by omega) (by rw [List.size_toArray]; omega) (by rw [List.size_toArray, List.size_toArray]; omega) (h _ ?_)
  refine I.lset (its' := its.take a' ++ its2 ++ its.drop c') (t' := s.toks) hH e ?_ (Vals.append (Vals.append (r.take _) r2) (r.drop _)) ?_
  · have q := splice_eq its its2 a' (min c' its.length)
    have d : its.drop (min c' its.length) = its.drop c' := by
      rcases Nat.le_total c' its.length with h | h
      · rw [Nat.min_eq_left h]
      · rw [Nat.min_eq_right h, List.drop_eq_nil_of_le (Nat.le_refl _), List.drop_eq_nil_of_le h]
    rw [d] at q
    exact q
  · rw [List.length_append, List.length_append, List.length_take, List.length_drop]
    omega
def gSl (to : TE) (tl th : TO) : TG := fun v σ H Q => to σ H fun x H1 => tl σ H1 fun l H2 => th σ H2 fun u H3 => ∃ (a b : Addr) (xs ys : List V) (i j : Int), x = .ref a ∧ v = .ref b ∧ l = some i ∧ u = some j ∧ H3 a = some (.lst xs) ∧ H3 b = some (.lst ys) ∧ a ≠ b ∧
  0 ≤ i ∧ i ≤ j ∧ i ≤ xs.length ∧ xs.length + ys.length ≤ sizeLine ∧ Q σ (upd H3 a (.lst (xs.take i.toNat ++ ys ++ xs.drop j.toNat)))
theorem pg_setSl {o : Expr} {lo hi : Option Expr} {to : TE} {tl th : TO} {p2 pos : Pos} (ho : PE X o to) (hl : PO X lo tl) (hu : PO X hi th)
    (ha : ∀ v, assign (.Subscript o (.Slice lo hi none p2) pos) X.env v = (do
      let ov ← holding [v] (eval o X.env)
      let iv ← holding [v, ov] (eval (.Slice lo hi none p2) X.env)
      standAt pos
      holding [v, ov, iv] (setItem ov iv v)
      release [iv, v, ov] []) := by intro _; rfl) : PG X (.Subscript o (.Slice lo hi none p2) pos) (gSl to tl th) := by
  refine ⟨fun pins s σ H v u Q I r h => ?_⟩
  rw [ha]
  refine wpAny_bind (wpAny_holding (thn (ho.run pins s σ H _ I h) fun ov s1 ⟨x, H1, I1, r1, q1⟩ => ?_))
  refine wpAny_bind (wpAny_holding (wpAny_Slice (thn (hl.run pins s1 σ H1 _ I1 q1) fun vl s2 ⟨l, H2, I2, pl, q2⟩ => thn (hu.run pins s2 σ H2 _ I2 q2) fun vu s3 ⟨uu, H3, I3, pu, q3⟩ => ?_)))
  rw [evalPart_none]
  refine wpAny_pure ?_
  obtain ⟨a, b, xs, ys, i, j, rfl, rfl, rfl, rfl, h1, h2, h3, h4, h5, h6, h7, q⟩ := q3
  cases r; cases r1
  have I4 : Inv X pins σ H3 { s3 with heap := s3.heap.push { cls := .type "slice", data := .fields #[vl, vu, .none] } } := I3.kept (t' := s3.toks) fun b ob q => Heap.get?_push_of_some _ q
  refine wpAny_bind (wpAny_standAt (wpAny_bind (wpAny_holding ?_)))
  exact set_clip I4 h1 h2 h3 (Heap.IsSliceOf.new ..) pl pu h4 h5 h6 h7 fun s' I5 => wpAny_release ⟨σ, _, I5, q⟩
end
def wSubSl (po : TP) (lo hi : TPo) : TPg := fun c s Q => po s fun o s1 => lo s1 fun l s2 => hi s2 fun u s3 => match ownL o s3, l, u, c with
  | some (n, ds), some i, some j, .d (.lst ys) => (0 ≤ i ∧ i ≤ j ∧ i ≤ ds.length ∧ ds.length + ys.length ≤ sizeLine) ∧ Q (setO s3 n (.lst (ds.take i.toNat ++ ys ++ ds.drop j.toNat)))
  | _, _, _, _ => False
theorem ppg_setSl {X : Cx} {o : Expr} {lo hi : Option Expr} {po : TP} {tl th : TPo} {p2 pos : Pos} (ho : PP X o po) (hl : PPo X lo tl) (hu : PPo X hi th)
    (ha : ∀ v, assign (.Subscript o (.Slice lo hi none p2) pos) X.env v = (do
      let ov ← holding [v] (eval o X.env)
      let iv ← holding [v, ov] (eval (.Slice lo hi none p2) X.env)
      standAt pos
      holding [v, ov, iv] (setItem ov iv v)
      release [iv, v, ov] []) := by intro _; rfl) : PPg X (.Subscript o (.Slice lo hi none p2) pos) (wSubSl po tl th) :=
  PGw (pg_setSl ho hl hu ha) fun v σ H Q ⟨g, s, c, Qp, hd, r, hp, k⟩ => ⟨g, s, _, hd, hp, fun vo H1 co g1 s1 hd1 a1 r1 h1 => ⟨g1, s1, _, hd1, h1, fun l H2 g2 s2 hd2 a2 h2 => ⟨g2, s2, _, hd2, h2, fun u H3 g3 s3 hd3 a3 h3 => by
    have rv := ((r.adv a1).adv a2).adv a3
    have ro := (r1.adv a2).adv a3
    split at h3
    · rename_i n ds i j ys e
      obtain ⟨⟨c1, c2, c3, c4⟩, h3⟩ := h3
      obtain ⟨a, xs, rfl, b1, b2, b3, b4, b5⟩ := ownL_q hd3 ro e
      cases rv with
      | lst b zs _ hO hH hz rr =>
        have lx := b3.length
        have ly := rr.length
        have hne : a ≠ b := fun e => hO (by rw [← e]; exact .inr ⟨n, _, b5, b4⟩)
        obtain ⟨w1, w2⟩ := hd3.write b4 b5 (o' := .lst (xs.take i.toNat ++ zs ++ xs.drop j.toNat)) (d' := .lst (ds.take i.toNat ++ ys ++ ds.drop j.toNat)) ⟨by
          rw [List.length_append, List.length_append, List.length_take, List.length_drop]; omega, ((b3.take _).append rr).append (b3.drop _)⟩
        exact ⟨a, b, xs, zs, i, j, rfl, rfl, rfl, rfl, b1, hH, hne, c1, c2, by omega, by omega, k _ _ _ _ w1 (((a1.trans a2).trans a3).trans w2) h3⟩
    · exact h3.elim⟩⟩⟩
theorem pp_setSl {X : Cx} {W : WX} {o e : Expr} {lo hi : Option Expr} {pe po : TP} {tl th : TPo} {p2 p3 pos : Pos} (he : PP X e pe) (ho : PP X o po) (hl : PPo X lo tl) (hu : PPo X hi th)
    (ha : ∀ v, assign (.Subscript o (.Slice lo hi none p2) p3) X.env v = (do
      let ov ← holding [v] (eval o X.env)
      let iv ← holding [v, ov] (eval (.Slice lo hi none p2) X.env)
      standAt p3
      holding [v, ov, iv] (setItem ov iv v)
      release [iv, v, ov] []) := by intro _; rfl) (hs : swapsWithSole [.Subscript o (.Slice lo hi none p2) p3] e pos.line X.env = pure false := by rfl) (hw : swappedStores [.Subscript o (.Slice lo hi none p2) p3] e X.env = pure none := by rfl)
    (h1 : (assignEach [.Subscript o (.Slice lo hi none p2) p3] X.env).map (·.2) = [assign (.Subscript o (.Slice lo hi none p2) p3) X.env] := by rfl) : PPs X W (.Assign [.Subscript o (.Slice lo hi none p2) p3] e pos) (wAsg pe (wSubSl po tl th)) :=
  pp_asg he (ppg_setSl ho hl hu ha) hs hw h1
end Bx
end

section
/-! Fractions as Rat. -/
namespace Bx
open PySem L2 PySem.Spec PyProof.Rows

def dQ (q : Rat) : D := .tup [.int q.num, .int (q.den : Nat)]
/-- small enough to be reckoned with -/
def Sm (q : Rat) : Prop := q.num.natAbs < 2 ^ 4000 ∧ q.den < 2 ^ 4000
def sp_divisor : Spec := fun args own Q _ => ∃ a b : Nat, args = [.d (.int (a : Nat)), .d (.int (b : Nat))] ∧ own = [] ∧ Q (.d (.int (Nat.gcd a b : Nat))) []
theorem len_divisor {args own Q E} (z : sp_divisor args own Q E) : args.length = 2 := by obtain ⟨a, b, rfl, _⟩ := z; rfl
def sp_fraction : Spec := fun args own Q _ => ∃ t b : Int, args = [.d (.int t), .d (.int b)] ∧ own = [] ∧ b ≠ 0 ∧ b.natAbs < 2 ^ 8001 ∧ Q (.d (dQ (Rat.divInt t b))) []
theorem len_fraction {args own Q E} (z : sp_fraction args own Q E) : args.length = 2 := by obtain ⟨a, b, rfl, _⟩ := z; rfl
def spOp (f : Rat → Rat → Rat) (C : Rat → Rat → Prop) : Spec := fun args own Q _ => ∃ p q : Rat, args = [.d (dQ p), .d (dQ q)] ∧ own = [] ∧ Sm p ∧ Sm q ∧ C p q ∧ Q (.d (dQ (f p q))) []
theorem len_op {f C args own Q E} (z : spOp f C args own Q E) : args.length = 2 := by obtain ⟨a, b, rfl, _⟩ := z; rfl
def sp_plus : Spec := spOp (· + ·) fun _ _ => True
def sp_minus : Spec := spOp (· - ·) fun _ _ => True
def sp_times : Spec := spOp (· * ·) fun _ _ => True
def sp_shared : Spec := spOp (· / ·) fun _ q => q ≠ 0
theorem len_plus {args own Q E} (z : sp_plus args own Q E) : args.length = 2 := len_op z
theorem len_minus {args own Q E} (z : sp_minus args own Q E) : args.length = 2 := len_op z
theorem len_times {args own Q E} (z : sp_times args own Q E) : args.length = 2 := len_op z
theorem len_shared {args own Q E} (z : sp_shared args own Q E) : args.length = 2 := len_op z

/-! ### how a fraction is made -/
theorem fdiv_exact (g k : Int) (hg : g ≠ 0) : (g * k).fdiv g = k := by
  rw [Int.mul_comm]; exact Int.mul_fdiv_cancel k hg
theorem frac_num (t b : Int) (hb : b ≠ 0) : (Rat.divInt t b).num = t.fdiv ((Nat.gcd t.natAbs b.natAbs : Nat) * (if 0 < b then 1 else -1)) ∧ ((Rat.divInt t b).den : Int) = b.fdiv ((Nat.gcd t.natAbs b.natAbs : Nat) * (if 0 < b then 1 else -1)) := by
  have hg0 : 0 < Nat.gcd t.natAbs b.natAbs := Nat.gcd_pos_of_pos_right _ (by omega)
  have egcd : Int.gcd b t = Nat.gcd t.natAbs b.natAbs := by unfold Int.gcd; exact Nat.gcd_comm _ _
  rw [Rat.num_divInt, Rat.den_divInt, if_neg hb, egcd]
  generalize hgd : Nat.gcd t.natAbs b.natAbs = g at hg0
  have d1 : (g : Int) ∣ t := Int.ofNat_dvd_left.mpr (by rw [← hgd]; exact Nat.gcd_dvd_left _ _)
  have d2 : (g : Int) ∣ b := Int.ofNat_dvd_left.mpr (by rw [← hgd]; exact Nat.gcd_dvd_right _ _)
  obtain ⟨t', rfl⟩ := d1
  obtain ⟨b', rfl⟩ := d2
  have hg : (g : Int) ≠ 0 := by omega
  have nb : ((g : Int) * b').natAbs / g = b'.natAbs := by rw [Int.natAbs_mul, Int.natAbs_natCast, Nat.mul_div_cancel_left _ hg0]
  rw [nb]
  by_cases hp : 0 < (g : Int) * b'
  · have hb' : 0 < b' := by
      rcases Int.lt_or_le 0 b' with h | h
      · exact h
      · have := Int.mul_nonpos_of_nonneg_of_nonpos (show 0 ≤ (g : Int) by omega) h
        omega
    rw [if_pos hp, Int.mul_one, Int.sign_eq_one_of_pos hp, Int.one_mul, fdiv_exact _ _ hg, fdiv_exact _ _ hg, Int.mul_ediv_cancel_left _ hg]
    exact ⟨rfl, by omega⟩
  · have hn : (g : Int) * b' < 0 := by omega
    have hb' : b' < 0 := by
      rcases Int.lt_or_le b' 0 with h | h
      · exact h
      · have := Int.mul_nonneg (show 0 ≤ (g : Int) by omega) h
        omega
    rw [if_neg hp, Int.sign_eq_neg_one_of_neg hn]
    have e1 : (g : Int) * -1 = -(g : Int) := by omega
    have e2 : ∀ x : Int, ((g : Int) * x).fdiv (-(g : Int)) = -x := fun x => by
      have := fdiv_exact (-(g : Int)) (-x) (by omega)
      rwa [Int.neg_mul_neg] at this
    rw [e1, e2, e2]
    refine ⟨?_, by omega⟩
    rw [show -1 * ((g : Int) * t') = (g : Int) * (-t') by rw [Int.mul_neg, Int.neg_mul, Int.one_mul], Int.mul_ediv_cancel_left _ hg]
theorem log2_of {n k : Nat} (hk : 0 < k) (h : n < 2 ^ k) : n.log2 < k := PySem.Flt.log2_lt_of hk h
theorem mulW_of {i j : Int} {a b : Nat} (ha : i.natAbs < 2 ^ a) (hb : j.natAbs < 2 ^ b) (h0 : 0 < a := by decide) (h1 : 0 < b := by decide) (h : a + b ≤ 1000000 := by decide) : CMulW i j := wide_mul ha hb h0 h1 h
theorem Sm.n {q : Rat} (h : Sm q) : q.num.natAbs < 2 ^ 4000 := h.1
theorem Sm.d {q : Rat} (h : Sm q) : ((q.den : Nat) : Int).natAbs < 2 ^ 4000 := h.2
theorem mul_lt {a b : Int} (ha : a.natAbs < 2 ^ 4000) (hb : b.natAbs < 2 ^ 4000) : (a * b).natAbs < 2 ^ 8001 := by
  rw [Int.natAbs_mul, show (8001 : Nat) = 4000 + 4001 from rfl, Nat.pow_add]
  refine Nat.mul_lt_mul'' ha (Nat.lt_trans hb ?_)
  exact Nat.pow_lt_pow_right (by decide) (by decide)
theorem add_divInt (p q : Rat) : Rat.divInt (p.num * q.den + q.num * p.den) ((p.den : Int) * q.den) = p + q := by
  rw [Rat.add_def', ← Rat.divInt_ofNat]; push_cast; rfl
theorem sub_divInt (p q : Rat) : Rat.divInt (p.num * q.den - q.num * p.den) ((p.den : Int) * q.den) = p - q := by
  rw [Rat.sub_def', ← Rat.divInt_ofNat]; push_cast; rfl
theorem mul_divInt (p q : Rat) : Rat.divInt (p.num * q.num) ((p.den : Int) * q.den) = p * q := by
  rw [Rat.mul_def', ← Rat.divInt_ofNat]; push_cast; rfl
theorem div_divInt (p q : Rat) : Rat.divInt (p.num * q.den) ((p.den : Int) * q.num) = p / q := by
  rw [Rat.div_def, Rat.inv_def]
  rw [show p * Rat.divInt q.den q.num = Rat.divInt p.num p.den * Rat.divInt q.den q.num by rw [Rat.num_divInt_den]]
  rw [Rat.divInt_mul_divInt]
end Bx
end

section
/-! Comprehensions and loops over typed items; vectors of fractions. -/
namespace Bx
open PySem L2

/-! ### comprehensions, loops -/
section
variable {α : Type} {e0 : List (Option Val)} {own0 : List (Option D)} {vs : List Nat} {k : Bool} {gt : TPg} {tt : TPt} {te : TP} {Q : Val → S → Prop}
/-- one item of a comprehension: A takes what is told, F goes on where the item is left out -/
abbrev lcStep (e0 : List (Option Val)) (vs : List Nat) (gt : TPg) (tt : TPt) (te : TP) (x : D) (own : List (Option D)) (A : D → List (Option D) → Prop) (F : List (Option D) → Prop) : Prop :=
  gt (.d x) ⟨wipeE e0 vs, own⟩ fun s1 => tt s1 fun b s2 => match b with
    | true => te s2 fun y s3 => match y with
      | .d z => A z s3.own
      | .loc _ => False
    | false => F s2.own
abbrev LcGoal (e0 : List (Option Val)) (vs : List Nat) (k : Bool) (gt : TPg) (tt : TPt) (te : TP) (Q : Val → S → Prop) (items : List D) (own0 : List (Option D)) : Prop :=
  ∃ I : List D → List D → List (Option D) → Prop, I items [] own0 ∧ (∀ acc own, I [] acc own → newO k (.lst acc) ⟨e0, own⟩ Q) ∧ ∀ x xs acc own, I (x :: xs) acc own → lcStep e0 vs gt tt te x own (fun z o => I xs (acc ++ [z]) o) fun o => I xs acc o
/-- what is left of ts where rem is left -/
theorem left_of {ts : List α} {ι : α → D} {x : D} {xs : List D} (h : (x :: xs) = (ts.drop (ts.length - (x :: xs).length)).map ι) (hl : (x :: xs).length ≤ ts.length) :
    ∃ i t, ts.length - (x :: xs).length = i ∧ ts[i]? = some t ∧ x = ι t ∧ xs = (ts.drop (i + 1)).map ι ∧ ts.length - xs.length = i + 1 ∧ xs.length ≤ ts.length := by
  have hl' : xs.length + 1 ≤ ts.length := hl
  obtain ⟨i, hi⟩ : ∃ i, ts.length - (x :: xs).length = i := ⟨_, rfl⟩
  have hi' : ts.length - (xs.length + 1) = i := hi
  have hlt : i < ts.length := by omega
  rw [hi, List.drop_eq_getElem_cons hlt, List.map_cons] at h
  have h1 := List.cons.inj h
  exact ⟨i, ts[i], hi, List.getElem?_eq_getElem hlt, h1.1, h1.2, by omega, by omega⟩
theorem lc_inv {items : List D} (ts : List α) (ι : α → D) (J : Nat → List D → List (Option D) → Prop) (hi : items = ts.map ι) (h0 : J 0 [] own0) (hq : ∀ acc own, J ts.length acc own → newO k (.lst acc) ⟨e0, own⟩ Q)
    (h : ∀ i x acc own, ts[i]? = some x → J i acc own → lcStep e0 vs gt tt te (ι x) own (fun z o => J (i + 1) (acc ++ [z]) o) fun o => J (i + 1) acc o) : LcGoal e0 vs k gt tt te Q items own0 := by
  have hn : items.length = ts.length := by rw [hi, List.length_map]
  refine ⟨fun rem acc own => rem = (ts.drop (ts.length - rem.length)).map ι ∧ rem.length ≤ ts.length ∧ J (ts.length - rem.length) acc own, ⟨by rw [hn, Nat.sub_self, List.drop_zero]; exact hi, by omega, by rw [hn, Nat.sub_self]; exact h0⟩,
    fun acc own ⟨_, _, q⟩ => hq acc own q, fun x xs acc own ⟨e, hl, q⟩ => ?_⟩
  obtain ⟨i, t, ei, et, rfl, exs, en, el⟩ := left_of e hl
  rw [ei] at q
  have eq : ∀ acc own, (xs = (ts.drop (ts.length - xs.length)).map ι ∧ xs.length ≤ ts.length ∧ J (ts.length - xs.length) acc own) = J (i + 1) acc own := fun acc own => by
    rw [en]
    exact propext ⟨fun h => h.2.2, fun h => ⟨exs, el, h⟩⟩
  simp only [eq]
  exact h i t acc own et q
/-- each item by itself -/
theorem lc_map {items : List D} (ts : List α) (ι : α → D) (f : α → D) (hi : items = ts.map ι) (hq : newO k (.lst (ts.map f)) ⟨e0, own0⟩ Q)
    (h : ∀ x ∈ ts, ∀ (A : D → List (Option D) → Prop) (F : List (Option D) → Prop), A (f x) own0 → lcStep e0 vs gt tt te (ι x) own0 A F) : LcGoal e0 vs k gt tt te Q items own0 := by
  refine lc_inv ts ι (fun i acc own => own = own0 ∧ acc = (ts.take i).map f) hi ⟨rfl, by simp⟩ (fun acc own ⟨e1, e2⟩ => ?_) fun i x acc own hx ⟨e1, e2⟩ => ?_
  · subst e1 e2
    rw [List.take_length]; exact hq
  · subst e1 e2
    refine h x (List.mem_of_getElem? hx) _ _ ⟨rfl, ?_⟩
    rw [List.take_succ, hx]; simp
/-- those items that p takes -/
theorem lc_filter {items : List D} (ts : List α) (ι : α → D) (p : α → Bool) (f : α → D) (hi : items = ts.map ι) (hq : newO k (.lst ((ts.filter p).map f)) ⟨e0, own0⟩ Q)
    (h : ∀ x ∈ ts, ∀ (A : D → List (Option D) → Prop) (F : List (Option D) → Prop), (p x = true → A (f x) own0) → (p x = false → F own0) → lcStep e0 vs gt tt te (ι x) own0 A F) : LcGoal e0 vs k gt tt te Q items own0 := by
  refine lc_inv ts ι (fun i acc own => own = own0 ∧ acc = ((ts.take i).filter p).map f) hi ⟨rfl, by simp⟩ (fun acc own ⟨e1, e2⟩ => ?_) fun i x acc own hx ⟨e1, e2⟩ => ?_
  · subst e1 e2
    rw [List.take_length]; exact hq
  · subst e1 e2
    refine h x (List.mem_of_getElem? hx) _ _ (fun hp => ⟨rfl, ?_⟩) fun hp => ⟨rfl, ?_⟩
    · rw [List.take_succ, hx]; simp [List.filter_append, hp]
    · rw [List.take_succ, hx]; simp [List.filter_append, hp]
end
section
variable {α : Type} {gt : TPg} {body : TPs} {E : EndsP} {s0 : S}
abbrev ForGoal (gt : TPg) (body : TPs) (E : EndsP) (items : List D) (s0 : S) : Prop := ∃ I : List D → S → Prop, I items s0 ∧ (∀ s, I [] s → E.nx s) ∧
  ∀ x xs s, I (x :: xs) s → gt (.d x) s fun s1 => body { E with nx := I xs, ct := I xs, bk := E.nx } s1
theorem for_inv {items : List D} (ts : List α) (ι : α → D) (J : Nat → S → Prop) (hi : items = ts.map ι) (h0 : J 0 s0) (hq : ∀ s, J ts.length s → E.nx s)
    (h : ∀ i x s, ts[i]? = some x → J i s → gt (.d (ι x)) s fun s1 => body { E with nx := J (i + 1), ct := J (i + 1), bk := E.nx } s1) : ForGoal gt body E items s0 := by
  have hn : items.length = ts.length := by rw [hi, List.length_map]
  refine ⟨fun rem s => rem = (ts.drop (ts.length - rem.length)).map ι ∧ rem.length ≤ ts.length ∧ J (ts.length - rem.length) s, ⟨by rw [hn, Nat.sub_self, List.drop_zero]; exact hi, by omega, by rw [hn, Nat.sub_self]; exact h0⟩,
    fun s ⟨_, _, q⟩ => hq s q, fun x xs s ⟨e, hl, q⟩ => ?_⟩
  obtain ⟨i, t, ei, et, rfl, exs, en, el⟩ := left_of e hl
  rw [ei] at q
  have eq : (fun s => xs = (ts.drop (ts.length - xs.length)).map ι ∧ xs.length ≤ ts.length ∧ J (ts.length - xs.length) s) = J (i + 1) := by
    funext s
    rw [en]
    exact propext ⟨fun h => h.2.2, fun h => ⟨exs, el, h⟩⟩
  have key := h i t s et q
  rw [← eq] at key
  exact key
end

section
variable {α : Type} {vs : List Nat} {k : Bool} {pi : TPi} {gt : TPg} {tt : TPt} {te : TP} {Q : Val → S → Prop} {s s0 : S} {items : List D}
/-- one item of a comprehension, behind what is walked -/
abbrev LcStep (vs : List Nat) (gt : TPg) (tt : TPt) (te : TP) (s0 : S) (x : D) (own : List (Option D)) (A : D → List (Option D) → Prop) (F : List (Option D) → Prop) : Prop := lcStep s0.env vs gt tt te x own A F
theorem wLc_inv (ts : List α) (ι : α → D) (J : Nat → List D → List (Option D) → Prop) (hp : ∀ R : List D → S → Prop, R items s0 → pi s R) (hi : items = ts.map ι) (h0 : J 0 [] s0.own) (hq : ∀ acc own, J ts.length acc own → newO k (.lst acc) ⟨s0.env, own⟩ Q)
    (h : ∀ i x acc own, ts[i]? = some x → J i acc own → LcStep vs gt tt te s0 (ι x) own (fun z o => J (i + 1) (acc ++ [z]) o) fun o => J (i + 1) acc o) : wLc vs k pi gt tt te s Q :=
  hp _ (lc_inv ts ι J hi h0 hq h)
theorem wLc_map (ts : List α) (ι : α → D) (f : α → D) (hp : ∀ R : List D → S → Prop, R items s0 → pi s R) (hi : items = ts.map ι) (hq : newO k (.lst (ts.map f)) s0 Q)
    (h : ∀ x ∈ ts, ∀ (A : D → List (Option D) → Prop) (F : List (Option D) → Prop), A (f x) s0.own → LcStep vs gt tt te s0 (ι x) s0.own A F) : wLc vs k pi gt tt te s Q :=
  hp _ (lc_map ts ι f hi hq h)
theorem wLc_filter (ts : List α) (ι : α → D) (p : α → Bool) (f : α → D) (hp : ∀ R : List D → S → Prop, R items s0 → pi s R) (hi : items = ts.map ι) (hq : newO k (.lst ((ts.filter p).map f)) s0 Q)
    (h : ∀ x ∈ ts, ∀ (A : D → List (Option D) → Prop) (F : List (Option D) → Prop), (p x = true → A (f x) s0.own) → (p x = false → F s0.own) → LcStep vs gt tt te s0 (ι x) s0.own A F) : wLc vs k pi gt tt te s Q :=
  hp _ (lc_filter ts ι p f hi hq h)
theorem wFor_inv {body : TPs} {E : EndsP} (ts : List α) (ι : α → D) (J : Nat → S → Prop) (hp : ∀ R : List D → S → Prop, R items s0 → pi s R) (hi : items = ts.map ι) (h0 : J 0 s0) (hq : ∀ s, J ts.length s → E.nx s)
    (h : ∀ i x s, ts[i]? = some x → J i s → gt (.d (ι x)) s fun s1 => body { E with nx := J (i + 1), ct := J (i + 1), bk := E.nx } s1) : wFor pi gt body E s :=
  hp _ (for_inv ts ι J hi h0 hq h)
end

section
variable {vs : List Nat} {k : Bool} {pi : TPi} {gt : TPg} {tt : TPt} {te : TP} {Q : Val → S → Prop} {s : S} {body : TPs} {E : EndsP}
/-- what is walked is known only behind some calls -/
theorem wFor_then (P : List D → S → Prop) (hp : ∀ R : List D → S → Prop, (∀ items s0, P items s0 → R items s0) → pi s R) (h : ∀ items s0, P items s0 → wFor (fun _ R => R items s0) gt body E s0) : wFor pi gt body E s := hp _ h
theorem wLc_then (P : List D → S → Prop) (hp : ∀ R : List D → S → Prop, (∀ items s0, P items s0 → R items s0) → pi s R) (h : ∀ items s0, P items s0 → wLc vs k (fun _ R => R items s0) gt tt te s0 Q) : wLc vs k pi gt tt te s Q := hp _ h
end
theorem erase_map {α β : Type} (f : α → β) : ∀ (l : List α) (j : Nat), (l.map f).eraseIdx j = (l.eraseIdx j).map f
  | [], _ => rfl
  | _ :: _, 0 => rfl
  | a :: l, j + 1 => by simp [erase_map f l j]

/-! ### vectors -/
def dV (v : List Rat) : D := .lst (v.map dQ)
/-- a sequence: a list (k) or a tuple -/
def sq (k : Bool) (ds : List D) : D := match k with
  | true => .lst ds
  | false => .tup ds
theorem zipD_map {α β : Type} (f : α → D) (g : β → D) : ∀ (a : List α) (b : List β), zipD (a.map f) (b.map g) = (a.zip b).map fun p => .tup [f p.1, g p.2]
  | [], _ => by simp [zipD]
  | _ :: _, [] => by simp [zipD]
  | x :: a, y :: b => by simp [zipD, zipD_map f g a b]
theorem enumD_map {α : Type} (f : α → D) : ∀ (a : List α) (j : Nat), enumD (j : Int) (a.map f) = (a.zipIdx j).map fun p => .tup [.int (p.2 : Nat), f p.1]
  | [], _ => by simp [enumD]
  | x :: a, j => by
    have := enumD_map f a (j + 1)
    simp only [List.map_cons, enumD, List.zipIdx_cons]
    rw [← this]
    rfl
theorem intsD_map (n : Nat) : intsD 0 n = (List.range n).map fun (i : Nat) => D.int (i : Int) := by
  rw [intsD_eq]; simp
theorem intsD_from (m n : Nat) : intsD (m : Int) n = (List.range n).map fun (i : Nat) => D.int ((m + i : Nat) : Int) := by
  rw [intsD_eq]; simp
def gl_NOUGHT : D := dQ 0
def gl_ONE : D := dQ 1

/-! ### specs: more, dot -/
def MoreOk (a b : List Rat) (c : Rat) : Prop := Sm c ∧ ∀ p ∈ a.zip b, Sm p.1 ∧ Sm p.2 ∧ Sm (c * p.2)
def moreR (a b : List Rat) (c : Rat) : List Rat := (a.zip b).map fun p => p.1 - c * p.2
def sp_more : Spec := fun args own Q _ => ∃ (a b : List Rat) (c : Rat), args = [.d (dV a), .d (dV b), .d (dQ c)] ∧ own = [] ∧ MoreOk a b c ∧ Q (.d (dV (moreR a b c))) []
theorem len_more {args own Q E} (z : sp_more args own Q E) : args.length = 3 := by obtain ⟨a, b, c, rfl, _⟩ := z; rfl
def dotA : Rat → List Rat → List Rat → Rat
  | acc, x :: a, y :: b => dotA (acc + x * y) a b
  | acc, _, _ => acc
def DotOk : Rat → List Rat → List Rat → Prop
  | acc, x :: a, y :: b => Sm acc ∧ Sm x ∧ Sm y ∧ Sm (x * y) ∧ DotOk (acc + x * y) a b
  | _, _, _ => True
def sp_dot : Spec := fun args own Q _ => ∃ (a b : List Rat) (k1 k2 : Bool), args = [.d (sq k1 (a.map dQ)), .d (sq k2 (b.map dQ))] ∧ own = [] ∧ DotOk 0 a b ∧ Q (.d (dQ (dotA 0 a b))) []
theorem len_dot {args own Q E} (z : sp_dot args own Q E) : args.length = 2 := by obtain ⟨a, b, k1, k2, rfl, _⟩ := z; rfl
end Bx
end

section
/-! Linear algebra over the fractions: sums, elimination. -/
namespace Bx

/-! ### sums -/
def sumN : Nat → (Nat → Rat) → Rat
  | 0, _ => 0
  | n + 1, f => sumN n f + f n
theorem sumN_congr {n : Nat} {f g : Nat → Rat} (h : ∀ i, i < n → f i = g i) : sumN n f = sumN n g := by
  induction n with
  | zero => rfl
  | succ n ih => rw [sumN, sumN, ih fun i hi => h i (by omega), h n (by omega)]
theorem sumN_zero {n : Nat} {f : Nat → Rat} (h : ∀ i, i < n → f i = 0) : sumN n f = 0 := by
  induction n with
  | zero => rfl
  | succ n ih => rw [sumN, ih fun i hi => h i (by omega), h n (by omega)]; grind
theorem sumN_add (n : Nat) (f g : Nat → Rat) : sumN n (fun i => f i + g i) = sumN n f + sumN n g := by
  induction n with
  | zero => simp only [sumN]; grind
  | succ n ih => simp only [sumN, ih]; grind
theorem sumN_sub (n : Nat) (f g : Nat → Rat) : sumN n (fun i => f i - g i) = sumN n f - sumN n g := by
  induction n with
  | zero => simp only [sumN]; grind
  | succ n ih => simp only [sumN, ih]; grind
theorem sumN_mul (n : Nat) (c : Rat) (f : Nat → Rat) : sumN n (fun i => c * f i) = c * sumN n f := by
  induction n with
  | zero => simp only [sumN]; grind
  | succ n ih => simp only [sumN, ih]; grind
theorem sumN_single {n j : Nat} {f : Nat → Rat} (hj : j < n) (h : ∀ i, i < n → i ≠ j → f i = 0) : sumN n f = f j := by
  induction n with
  | zero => omega
  | succ n ih =>
    rw [sumN]
    by_cases e : j = n
    · subst e
      rw [sumN_zero fun i hi => h i (by omega) (by omega)]; grind
    · rw [ih (by omega) fun i hi hne => h i (by omega) hne, h n (by omega) (by omega)]; grind
theorem sumN_front (n : Nat) (f : Nat → Rat) : sumN (n + 1) f = f 0 + sumN n fun i => f (i + 1) := by
  induction n with
  | zero => simp only [sumN]; grind
  | succ n ih => rw [sumN, ih]; simp only [sumN]; grind
theorem sumN_comm (n m : Nat) (f : Nat → Nat → Rat) : sumN n (fun i => sumN m fun j => f i j) = sumN m fun j => sumN n fun i => f i j := by
  induction n with
  | zero => rw [sumN_zero (n := m)]; rfl; intro i _; rfl
  | succ n ih => simp only [sumN, ih, ← sumN_add]
def el (v : List Rat) (j : Nat) : Rat := v.getD j 0
theorem el_get {v : List Rat} {j : Nat} {q : Rat} (h : v[j]? = some q) : el v j = q := by simp [el, List.getD, h]
theorem el_lt {v : List Rat} {j : Nat} (h : j < v.length) : v[j]? = some (el v j) := by simp [el, List.getD, List.getElem?_eq_getElem h]
theorem dotA_sum : ∀ (n : Nat) (a b : List Rat) (acc : Rat), a.length = n → b.length = n → dotA acc a b = acc + sumN n fun i => el a i * el b i
  | 0, a, b, acc, ha, hb => by
    have e1 := List.length_eq_zero_iff.mp ha
    have e2 := List.length_eq_zero_iff.mp hb
    subst e1 e2
    simp only [dotA, sumN]; grind
  | n + 1, x :: a, y :: b, acc, ha, hb => by
    rw [dotA, dotA_sum n a b _ (by simpa using ha) (by simpa using hb), sumN_front]
    have e1 : el (x :: a) 0 = x := rfl
    have e2 : el (y :: b) 0 = y := rfl
    have e3 : ∀ i, el (x :: a) (i + 1) = el a i := fun i => by simp [el]
    have e4 : ∀ i, el (y :: b) (i + 1) = el b i := fun i => by simp [el]
    simp only [e1, e2, e3, e4]; grind
theorem dotR (n : Nat) {a b : List Rat} (ha : a.length = n) (hb : b.length = n) : dotA 0 a b = sumN n fun i => el a i * el b i := by
  rw [dotA_sum n a b 0 ha hb]; grind

/-! ### how large -/
/-- q is a whole number over d, both at most M -/
def Cd (M d : Nat) (q : Rat) : Prop := ∃ n : Int, n.natAbs ≤ M ∧ q * (d : Int) = n
theorem Cd.mono {M M' d : Nat} {q : Rat} (h : Cd M d q) (hm : M ≤ M') : Cd M' d q := by obtain ⟨n, h1, h2⟩ := h; exact ⟨n, Nat.le_trans h1 hm, h2⟩
theorem cd_divInt {d : Nat} {q : Rat} {n : Int} (hd : 0 < d) (h : q * (d : Int) = n) : q = Rat.divInt n d := by
  have hd' : ((d : Int) : Rat) ≠ 0 := by
    intro z
    have : (d : Int) = 0 := by exact_mod_cast z
    omega
  rw [Rat.divInt_eq_div]
  grind
theorem Cd.sm {M d : Nat} {q : Rat} (h : Cd M d q) (hd : 0 < d) (hdm : d ≤ M) (hm : M < 2 ^ 4000) : Sm q := by
  obtain ⟨n, hn, e⟩ := h
  have e2 := cd_divInt hd e
  subst e2
  unfold Sm
  rw [Rat.num_divInt, Rat.den_divInt]
  have hz : (d : Int) ≠ 0 := by omega
  rw [if_neg hz]
  constructor
  · refine Nat.lt_of_le_of_lt (Nat.le_trans ?_ hn) hm
    have : (d : Int).sign = 1 := Int.sign_eq_one_of_pos (by omega)
    rw [this, Int.one_mul]
    exact Int.natAbs_ediv_le_natAbs _ _
  · refine Nat.lt_of_le_of_lt (Nat.le_trans (Nat.div_le_self _ _) ?_) hm
    simpa using hdm
/-! ### the table -/
abbrev Tab := List (List Rat × List Rat)
def rowT (T : Tab) (k : Nat) : List Rat × List Rat := T.getD k ([], [])
def cA (T : Tab) (k j : Nat) : Rat := el (rowT T k).1 j
def cB (T : Tab) (k j : Nat) : Rat := el (rowT T k).2 j
def cR (R : List (List Rat)) (k j : Nat) : Rat := el (R.getD k []) j
theorem rowT_get {T : Tab} {k : Nat} (h : k < T.length) : T[k]? = some (rowT T k) := by simp [rowT, List.getD, List.getElem?_eq_getElem h]
theorem rowT_of {T : Tab} {k : Nat} {r : List Rat × List Rat} (h : T[k]? = some r) : rowT T k = r := by simp [rowT, List.getD, h]
theorem el_map {v : List Rat} {j : Nat} (c : Rat) : el (v.map (c * ·)) j = c * el v j := by
  unfold el
  rw [List.getD, List.getD, List.getElem?_map]
  cases v[j]? with
  | none => simp only [Option.map_none, Option.getD_none]; grind
  | some q => rfl
theorem moreR_length {a b : List Rat} {c : Rat} {n : Nat} (ha : a.length = n) (hb : b.length = n) : (moreR a b c).length = n := by
  unfold moreR
  rw [List.length_map, List.length_zip, ha, hb, Nat.min_self]
theorem el_more {a b : List Rat} {c : Rat} {n j : Nat} (ha : a.length = n) (hb : b.length = n) (hj : j < n) : el (moreR a b c) j = el a j - c * el b j := by
  have h1 : j < a.length := by omega
  have h2 : j < b.length := by omega
  have h3 : (a.zip b)[j]? = some (el a j, el b j) := List.getElem?_zip_eq_some.mpr ⟨el_lt h1, el_lt h2⟩
  apply el_get
  unfold moreR
  rw [List.getElem?_map, h3]
  rfl
structure LedInv (R : List (List Rat)) (wide p : Nat) (T : Tab) (P : List Nat) (M : Nat) : Prop where
  len : T.length = R.length
  wd : ∀ k, k < R.length → (rowT T k).1.length = wide ∧ (rowT T k).2.length = R.length
  pl : P.length ≤ R.length
  lt : ∀ q ∈ P, q < p
  inc : P.Pairwise (· < ·)
  pc : ∀ i q, P[i]? = some q → ∀ k, k < R.length → cA T k q = if k = i then 1 else 0
  zr : ∀ k, P.length ≤ k → k < R.length → ∀ j, j < p → cA T k j = 0
  eqv : ∀ x e : Nat → Rat, (∀ k, k < R.length → sumN wide (fun j => cA T k j * x j) = sumN R.length fun i => cB T k i * e i) ↔ ∀ i, i < R.length → sumN wide (fun j => cR R i j * x j) = e i
  bd : ∃ d, 0 < d ∧ d ≤ M ∧ ∀ k, k < R.length → (∀ j, j < wide → Cd M d (cA T k j)) ∧ ∀ i, i < R.length → Cd M d (cB T k i)
  fit : P.length ≤ p
def unitR (n k : Nat) : List Rat := (List.range n).map fun i => if i = k then 1 else 0
theorem el_unit {n k i : Nat} (h : i < n) : el (unitR n k) i = if i = k then 1 else 0 := by
  apply el_get
  unfold unitR
  rw [List.getElem?_map, List.getElem?_range h]; rfl
def initT (R : List (List Rat)) : Tab := R.zipIdx.map fun p => (p.1, unitR R.length p.2)
theorem initT_row {R : List (List Rat)} {k : Nat} (h : k < R.length) : rowT (initT R) k = (R.getD k [], unitR R.length k) := by
  apply rowT_of
  unfold initT
  rw [List.getElem?_map, List.getElem?_zipIdx, List.getElem?_eq_getElem h]
  simp [List.getD, List.getElem?_eq_getElem h]
/-- the rows, as wide as told, over one denominator -/
def RowsIn (R : List (List Rat)) (wide M : Nat) : Prop := (∀ r ∈ R, r.length = wide) ∧ ∃ d, 0 < d ∧ d ≤ M ∧ ∀ k, k < R.length → ∀ j, j < wide → Cd M d (cR R k j)
theorem RowsIn.at {R : List (List Rat)} {wide M k : Nat} (h : RowsIn R wide M) (hk : k < R.length) : (R.getD k []).length = wide := by
  simp only [List.getD, List.getElem?_eq_getElem hk, Option.getD_some]
  exact h.1 _ (List.getElem_mem hk)
theorem ledInv_init {R : List (List Rat)} {wide M : Nat} (h : RowsIn R wide M) : LedInv R wide 0 (initT R) [] M where
  len := by simp [initT]
  wd := fun k hk => by rw [initT_row hk]; exact ⟨h.at hk, by simp [unitR]⟩
  pl := Nat.zero_le _
  lt := fun q hq => by cases hq
  inc := .nil
  pc := fun i q hq => by simp at hq
  zr := fun k _ _ j hj => by omega
  eqv := fun x e => by
    have hk : ∀ k, k < R.length → (sumN wide (fun j => cA (initT R) k j * x j) = sumN wide fun j => cR R k j * x j) ∧ sumN R.length (fun i => cB (initT R) k i * e i) = e k := fun k hk => by
      refine ⟨sumN_congr fun j _ => by unfold cA cR; rw [initT_row hk], ?_⟩
      rw [sumN_single hk fun i hi hne => by unfold cB; rw [initT_row hk, el_unit hi, if_neg hne]; grind]
      unfold cB
      rw [initT_row hk, el_unit hk, if_pos rfl]; grind
    constructor
    · intro q k h; have := q k h; rw [(hk k h).1, (hk k h).2] at this; exact this
    · intro q k h; rw [(hk k h).1, (hk k h).2]; exact q k h
  bd := by
    obtain ⟨d, d0, dm, hd⟩ := h.2
    refine ⟨d, d0, dm, fun k hk => ⟨fun j hj => ?_, fun i hi => ?_⟩⟩
    · unfold cA; rw [initT_row hk]; exact hd k hk j hj
    · unfold cB; rw [initT_row hk, el_unit hi]
      split
      · exact ⟨d, by simpa using dm, by grind⟩
      · exact ⟨0, by simp, by grind⟩
  fit := Nat.le_refl _
theorem ledInv_skip {R : List (List Rat)} {wide p M : Nat} {T : Tab} {P : List Nat} (I : LedInv R wide p T P M) (h : ∀ k, P.length ≤ k → k < R.length → cA T k p = 0) : LedInv R wide (p + 1) T P M :=
  ⟨I.len, I.wd, I.pl, fun q hq => Nat.lt_succ_of_lt (I.lt q hq), I.inc, I.pc, fun k h1 h2 j hj => by
    by_cases e : j = p
    · subst e; exact h k h1 h2
    · exact I.zr k h1 h2 j (by omega), I.eqv, I.bd, Nat.le_succ_of_le I.fit⟩
def swapT (T : Tab) (a b : Nat) : Tab := (T.set a (rowT T b)).set b (rowT T a)
def pivT (T : Tab) (top place : Nat) : Tab :=
  let by_ := 1 / cA T top place
  T.zipIdx.map fun p => if p.2 = top then ((rowT T top).1.map (by_ * ·), (rowT T top).2.map (by_ * ·)) else
    (moreR p.1.1 ((rowT T top).1.map (by_ * ·)) (el p.1.1 place), moreR p.1.2 ((rowT T top).2.map (by_ * ·)) (el p.1.1 place))
theorem swapT_row {T : Tab} {a b k : Nat} (ha : a < T.length) (hb : b < T.length) (hk : k < T.length) : rowT (swapT T a b) k = rowT T (if k = b then a else if k = a then b else k) := by
  apply rowT_of
  unfold swapT
  by_cases e : k = b
  · subst e
    rw [if_pos rfl, List.getElem?_set_self (by simpa using hb)]
  · rw [if_neg e, List.getElem?_set_ne (Ne.symm e)]
    by_cases e2 : k = a
    · subst e2
      rw [if_pos rfl, List.getElem?_set_self hk]
    · rw [if_neg e2, List.getElem?_set_ne (Ne.symm e2)]
      exact rowT_get hk
theorem pivT_row {T : Tab} {top place k : Nat} (hk : k < T.length) : rowT (pivT T top place) k = if k = top then ((rowT T top).1.map (1 / cA T top place * ·), (rowT T top).2.map (1 / cA T top place * ·)) else
    (moreR (rowT T k).1 ((rowT T top).1.map (1 / cA T top place * ·)) (cA T k place), moreR (rowT T k).2 ((rowT T top).2.map (1 / cA T top place * ·)) (cA T k place)) := by
  apply rowT_of
  unfold pivT
  rw [List.getElem?_map, List.getElem?_zipIdx, rowT_get hk]
  simp [cA]
theorem natAbs_mul_le {a b : Int} {M : Nat} (ha : a.natAbs ≤ M) (hb : b.natAbs ≤ M) : (a * b).natAbs ≤ M * M := by rw [Int.natAbs_mul]; exact Nat.mul_le_mul ha hb
theorem ledInv_swap {R : List (List Rat)} {wide p M s : Nat} {T : Tab} {P : List Nat} (I : LedInv R wide p T P M) (h1 : P.length ≤ s) (h2 : s < R.length) : LedInv R wide p (swapT T P.length s) P M := by
  have hl : P.length < R.length := by omega
  have hlt : P.length < T.length := by rw [I.len]; exact hl
  have hs : s < T.length := by rw [I.len]; exact h2
  have row : ∀ k, k < R.length → rowT (swapT T P.length s) k = rowT T (if k = s then P.length else if k = P.length then s else k) := fun k hk => swapT_row hlt hs (by rw [I.len]; exact hk)
  have rl : ∀ k, k < R.length → (if k = s then P.length else if k = P.length then s else k) < R.length := fun k hk => by split <;> (try split) <;> omega
  refine ⟨by simp [swapT, I.len], fun k hk => by rw [row k hk]; exact I.wd _ (rl k hk), I.pl, I.lt, I.inc, fun i q hq k hk => ?_, fun k hk1 hk j hj => ?_, fun x e => ?_, ?_, I.fit⟩
  · have hi := (List.getElem?_eq_some_iff.mp hq).1
    unfold cA
    rw [row k hk]
    have := I.pc i q hq _ (rl k hk)
    unfold cA at this
    rw [this]
    have e3 : ((if k = s then P.length else if k = P.length then s else k) = i) ↔ k = i := by split <;> (try split) <;> omega
    simp only [e3]
  · unfold cA
    rw [row k hk]
    exact I.zr _ (by split <;> (try split) <;> omega) (rl k hk) j hj
  · rw [← I.eqv x e]
    have tr : ∀ k, k < R.length → (sumN wide (fun j => cA (swapT T P.length s) k j * x j) = sumN wide fun j => cA T (if k = s then P.length else if k = P.length then s else k) j * x j) ∧
        sumN R.length (fun i => cB (swapT T P.length s) k i * e i) = sumN R.length fun i => cB T (if k = s then P.length else if k = P.length then s else k) i * e i := fun k hk =>
      ⟨sumN_congr fun j _ => by unfold cA; rw [row k hk], sumN_congr fun j _ => by unfold cB; rw [row k hk]⟩
    constructor
    · intro q k hk
      have := q _ (rl k hk)
      rw [(tr _ (rl k hk)).1, (tr _ (rl k hk)).2] at this
      have e2 : (if (if k = s then P.length else if k = P.length then s else k) = s then P.length else if (if k = s then P.length else if k = P.length then s else k) = P.length then s else (if k = s then P.length else if k = P.length then s else k)) = k := by
        split <;> split <;> (try split) <;> omega
      rw [e2] at this
      exact this
    · intro q k hk
      rw [(tr k hk).1, (tr k hk).2]
      exact q _ (rl k hk)
  · obtain ⟨d, d0, dm, hd⟩ := I.bd
    refine ⟨d, d0, dm, fun k hk => ?_⟩
    unfold cA cB
    rw [row k hk]
    exact hd _ (rl k hk)
theorem piv_top {q dd mm nn ss : Rat} (h : q * dd = nn) (hm : mm ≠ 0) : dd / mm * q * (dd * (ss * mm)) = ss * (nn * dd) := by subst h; grind
theorem piv_oth {q r c dd mm nn ll bb ss : Rat} (h : q * dd = nn) (h2 : r * dd = ll) (h3 : c * dd = bb) (hm : mm ≠ 0) : (q - c * (dd / mm * r)) * (dd * (ss * mm)) = ss * (nn * mm - bb * ll) := by subst h h2 h3; grind
theorem ledInv_piv {R : List (List Rat)} {wide p M : Nat} {T : Tab} {P : List Nat} (I : LedInv R wide p T P M) (h2 : P.length < R.length) (hp : p < wide) (hne : cA T P.length p ≠ 0) : LedInv R wide (p + 1) (pivT T P.length p) (P ++ [p]) (2 * M * M) := by
  have wtop := I.wd _ h2
  have row : ∀ k, k < R.length → rowT (pivT T P.length p) k = _ := fun k hk => pivT_row (T := T) (top := P.length) (place := p) (by rw [I.len]; exact hk)
  have wm : ∀ c : Rat, ((rowT T P.length).1.map (c * ·)).length = wide ∧ ((rowT T P.length).2.map (c * ·)).length = R.length := fun c => by rw [List.length_map, List.length_map]; exact wtop
  have aT : ∀ j, cA (pivT T P.length p) P.length j = 1 / cA T P.length p * cA T P.length j := fun j => by
    unfold cA; rw [row _ h2, if_pos rfl]; exact el_map _
  have bT : ∀ j, cB (pivT T P.length p) P.length j = 1 / cA T P.length p * cB T P.length j := fun j => by
    unfold cB; rw [row _ h2, if_pos rfl]; exact el_map _
  have aK : ∀ k, k < R.length → k ≠ P.length → ∀ j, j < wide → cA (pivT T P.length p) k j = cA T k j - cA T k p * (1 / cA T P.length p * cA T P.length j) := fun k hk e j hj => by
    have := row k hk
    rw [if_neg e] at this
    unfold cA at this ⊢
    rw [this, el_more (n := wide) (I.wd k hk).1 (wm _).1 hj, el_map]
  have bK : ∀ k, k < R.length → k ≠ P.length → ∀ j, j < R.length → cB (pivT T P.length p) k j = cB T k j - cA T k p * (1 / cA T P.length p * cB T P.length j) := fun k hk e j hj => by
    have := row k hk
    rw [if_neg e] at this
    unfold cB
    rw [this, el_more (n := R.length) (I.wd k hk).2 (wm _).2 hj, el_map]
  have one : 1 / cA T P.length p * cA T P.length p = 1 := by grind
  refine ⟨by simp [pivT, I.len], fun k hk => ?_, by rw [List.length_append]; exact h2, fun q hq => ?_, ?_, fun i q hq k hk => ?_, fun k hk1 hk j hj => ?_, fun x e => ?_, ?_, by rw [List.length_append]; exact Nat.succ_le_succ I.fit⟩
  · rw [row k hk]
    split
    · exact wm _
    · exact ⟨moreR_length (I.wd k hk).1 (wm _).1, moreR_length (I.wd k hk).2 (wm _).2⟩
  · rcases List.mem_append.mp hq with h | h
    · exact Nat.lt_succ_of_lt (I.lt q h)
    · simp at h; omega
  · refine List.pairwise_append.mpr ⟨I.inc, List.pairwise_singleton _ _, fun a ha b hb => ?_⟩
    simp at hb; subst hb; exact I.lt a ha
  · by_cases hi : i < P.length
    · rw [List.getElem?_append_left hi] at hq
      have hq2 : q < p := I.lt q (List.mem_of_getElem? hq)
      have ptop := I.pc i q hq _ h2
      rw [if_neg (by omega)] at ptop
      have pk := I.pc i q hq k hk
      by_cases e : k = P.length
      · subst e
        rw [aT, ptop, if_neg (by omega)]; grind
      · rw [aK k hk e q (by omega), ptop, pk]
        split <;> grind
    · have hi2 : i = P.length ∧ q = p := by
        have hl := (List.getElem?_eq_some_iff.mp hq).1
        rw [List.length_append, List.length_singleton] at hl
        have e : i = P.length := by omega
        subst e
        simp at hq
        exact ⟨rfl, hq.symm⟩
      obtain ⟨rfl, rfl⟩ := hi2
      by_cases e : k = P.length
      · subst e
        rw [aT, if_pos rfl, one]
      · rw [aK k hk e q hp, if_neg e, one]; grind
  · rw [List.length_append, List.length_singleton] at hk1
    have e : k ≠ P.length := by omega
    rw [aK k hk e j (by omega)]
    by_cases ej : j = p
    · subst ej; rw [one]; grind
    · rw [I.zr k (by omega) hk j (by omega), I.zr P.length (Nat.le_refl _) h2 j (by omega)]; grind
  · rw [← I.eqv x e]
    have sT : sumN wide (fun j => cA (pivT T P.length p) P.length j * x j) = 1 / cA T P.length p * sumN wide fun j => cA T P.length j * x j := by
      rw [← sumN_mul]; exact sumN_congr fun j _ => by rw [aT]; grind
    have rT : sumN R.length (fun i => cB (pivT T P.length p) P.length i * e i) = 1 / cA T P.length p * sumN R.length fun i => cB T P.length i * e i := by
      rw [← sumN_mul]; exact sumN_congr fun j _ => by rw [bT]; grind
    have sK : ∀ k, k < R.length → k ≠ P.length → sumN wide (fun j => cA (pivT T P.length p) k j * x j) = sumN wide (fun j => cA T k j * x j) - cA T k p * (1 / cA T P.length p * sumN wide fun j => cA T P.length j * x j) := fun k hk ne => by
      rw [← sumN_mul, ← sumN_mul, ← sumN_sub]; exact sumN_congr fun j hj => by rw [aK k hk ne j hj]; grind
    have rK : ∀ k, k < R.length → k ≠ P.length → sumN R.length (fun i => cB (pivT T P.length p) k i * e i) = sumN R.length (fun i => cB T k i * e i) - cA T k p * (1 / cA T P.length p * sumN R.length fun i => cB T P.length i * e i) := fun k hk ne => by
      rw [← sumN_mul, ← sumN_mul, ← sumN_sub]; exact sumN_congr fun j hj => by rw [bK k hk ne j hj]; grind
    constructor
    · intro q
      have qt := q _ h2
      rw [sT, rT] at qt
      have qt' : sumN wide (fun j => cA T P.length j * x j) = sumN R.length fun i => cB T P.length i * e i := by grind
      intro k hk
      by_cases ne : k = P.length
      · subst ne; exact qt'
      · have := q k hk
        rw [sK k hk ne, rK k hk ne, qt'] at this
        grind
    · intro q k hk
      have qt := q _ h2
      by_cases ne : k = P.length
      · subst ne; rw [sT, rT, qt]
      · rw [sK k hk ne, rK k hk ne, qt, q k hk]
  · obtain ⟨d, d0, dm, hd⟩ := I.bd
    obtain ⟨m, m1, m2⟩ := (hd _ h2).1 p hp
    have dz : ((d : Int) : Rat) ≠ 0 := by
      intro z
      have : (d : Int) = 0 := by exact_mod_cast z
      omega
    have m0 : m ≠ 0 := fun z => by
      subst z
      have : cA T P.length p = 0 := by grind
      exact hne this
    have hm : 0 < m.natAbs := by omega
    have mz : (m : Rat) ≠ 0 := by
      intro z
      have : m = 0 := by exact_mod_cast z
      exact m0 this
    have pv : 1 / cA T P.length p = (d : Int) / (m : Rat) := by grind
    -- the sign of m
    obtain ⟨sg, hsg, hs2⟩ : ∃ sg : Int, (sg = 1 ∨ sg = -1) ∧ (m.natAbs : Int) = sg * m := by
      rcases Int.natAbs_eq m with h | h
      · exact ⟨1, .inl rfl, by omega⟩
      · exact ⟨-1, .inr rfl, by omega⟩
    have hs3 : ((m.natAbs : Int) : Rat) = (sg : Rat) * (m : Rat) := by rw [hs2]; push_cast; rfl
    have sg1 : sg.natAbs = 1 := by rcases hsg with h | h <;> rw [h] <;> rfl
    have cd : ∀ n : Int, ((d * m.natAbs : Nat) : Int) = (d : Int) * (m.natAbs : Int) := fun n => by push_cast; rfl
    have ed : ((((d * m.natAbs : Nat) : Int)) : Rat) = ((d : Int) : Rat) * ((sg : Rat) * (m : Rat)) := by
      rw [cd 0]; push_cast [← hs3]; rfl
    refine ⟨d * m.natAbs, Nat.mul_pos d0 hm, ?_, fun k hk => ?_⟩
    · have := Nat.mul_le_mul dm m1
      calc d * m.natAbs ≤ M * M := this
        _ ≤ 2 * M * M := by rw [Nat.mul_assoc]; omega
    · have top : ∀ (q : Rat), Cd M d q → Cd (2 * M * M) (d * m.natAbs) (1 / cA T P.length p * q) := fun q ⟨n, n1, n2⟩ => by
        refine ⟨sg * (n * d), ?_, ?_⟩
        · rw [Int.natAbs_mul, sg1, Nat.one_mul]
          have := natAbs_mul_le (b := (d : Int)) n1 (by simpa using dm)
          rw [Nat.mul_assoc]; omega
        · rw [ed, pv, Rat.intCast_mul, Rat.intCast_mul]; exact piv_top n2 mz
      have oth : ∀ (q r c : Rat), Cd M d q → Cd M d r → Cd M d c → Cd (2 * M * M) (d * m.natAbs) (q - c * (1 / cA T P.length p * r)) := fun q r c ⟨n, n1, n2⟩ ⟨l, l1, l2⟩ ⟨b, b1, b2⟩ => by
        refine ⟨sg * (n * m - b * l), ?_, ?_⟩
        · rw [Int.natAbs_mul, sg1, Nat.one_mul]
          have h1 := natAbs_mul_le n1 m1
          have h2 := natAbs_mul_le b1 l1
          rw [Nat.mul_assoc]; omega
        · rw [ed, pv, Rat.intCast_mul, Rat.intCast_sub, Rat.intCast_mul, Rat.intCast_mul]; exact piv_oth n2 l2 b2 mz
      by_cases e : k = P.length
      · subst e
        exact ⟨fun j hj => by rw [aT]; exact top _ ((hd _ h2).1 j hj), fun i hi => by rw [bT]; exact top _ ((hd _ h2).2 i hi)⟩
      · exact ⟨fun j hj => by rw [aK k hk e j hj]; exact oth _ _ _ ((hd _ hk).1 j hj) ((hd _ h2).1 j hj) ((hd _ hk).1 p hp), fun i hi => by rw [bK k hk e i hi]; exact oth _ _ _ ((hd _ hk).2 i hi) ((hd _ h2).2 i hi) ((hd _ hk).1 p hp)⟩
theorem piv_prod {r c dd mm ll bb ss : Rat} (h2 : r * dd = ll) (h3 : c * dd = bb) (hm : mm ≠ 0) : c * (dd / mm * r) * (dd * (ss * mm)) = ss * (bb * ll) := by subst h2 h3; grind
theorem piv_by {dd mm ss : Rat} (hm : mm ≠ 0) : dd / mm * (dd * (ss * mm)) = ss * (dd * dd) := by grind
/-- all that a turn reckons is small -/
theorem piv_sm {R : List (List Rat)} {wide p M : Nat} {T : Tab} {P : List Nat} (I : LedInv R wide p T P M) (h2 : P.length < R.length) (hp : p < wide) (hne : cA T P.length p ≠ 0) (hM : 2 * M * M < 2 ^ 4000) :
    Sm (1 / cA T P.length p) ∧ (∀ q, (∃ j, j < wide ∧ q = cA T P.length j) ∨ (∃ i, i < R.length ∧ q = cB T P.length i) → Sm (1 / cA T P.length p * q) ∧ ∀ k, k < R.length → Sm (cA T k p * (1 / cA T P.length p * q))) := by
  obtain ⟨d, d0, dm, hd⟩ := I.bd
  obtain ⟨m, m1, m2⟩ := (hd _ h2).1 p hp
  have dz : ((d : Int) : Rat) ≠ 0 := by
    intro z
    have : (d : Int) = 0 := by exact_mod_cast z
    omega
  have m0 : m ≠ 0 := fun z => by
    subst z
    have : cA T P.length p = 0 := by grind
    exact hne this
  have hm : 0 < m.natAbs := by omega
  have mz : (m : Rat) ≠ 0 := by
    intro z
    have : m = 0 := by exact_mod_cast z
    exact m0 this
  have pv : 1 / cA T P.length p = (d : Int) / (m : Rat) := by grind
  obtain ⟨sg, hsg, hs2⟩ : ∃ sg : Int, (sg = 1 ∨ sg = -1) ∧ (m.natAbs : Int) = sg * m := by
    rcases Int.natAbs_eq m with h | h
    · exact ⟨1, .inl rfl, by omega⟩
    · exact ⟨-1, .inr rfl, by omega⟩
  have hs3 : ((m.natAbs : Int) : Rat) = (sg : Rat) * (m : Rat) := by rw [hs2]; push_cast; rfl
  have sg1 : sg.natAbs = 1 := by rcases hsg with h | h <;> rw [h] <;> rfl
  have ed : ((((d * m.natAbs : Nat) : Int)) : Rat) = ((d : Int) : Rat) * ((sg : Rat) * (m : Rat)) := by
    rw [show ((d * m.natAbs : Nat) : Int) = (d : Int) * (m.natAbs : Int) by push_cast; rfl, Rat.intCast_mul, hs3]
  have dpos : 0 < d * m.natAbs := Nat.mul_pos d0 hm
  have dle : d * m.natAbs ≤ 2 * M * M := by
    have := Nat.mul_le_mul dm m1
    rw [Nat.mul_assoc]; omega
  have fin : ∀ q : Rat, Cd (2 * M * M) (d * m.natAbs) q → Sm q := fun q h => h.sm dpos dle hM
  have dd : ((d : Int)).natAbs ≤ M := by simpa using dm
  refine ⟨fin _ ⟨sg * (d * d), ?_, ?_⟩, fun q hq => ?_⟩
  · rw [Int.natAbs_mul, sg1, Nat.one_mul]
    have := natAbs_mul_le dd dd
    rw [Nat.mul_assoc]; omega
  · rw [ed, pv, Rat.intCast_mul, Rat.intCast_mul]; exact piv_by mz
  · obtain ⟨l, l1, l2⟩ : Cd M d q := by
      rcases hq with ⟨j, hj, rfl⟩ | ⟨i, hi, rfl⟩
      · exact (hd _ h2).1 j hj
      · exact (hd _ h2).2 i hi
    refine ⟨fin _ ⟨sg * (l * d), ?_, ?_⟩, fun k hk => ?_⟩
    · rw [Int.natAbs_mul, sg1, Nat.one_mul]
      have := natAbs_mul_le l1 dd
      rw [Nat.mul_assoc]; omega
    · rw [ed, pv, Rat.intCast_mul, Rat.intCast_mul]; exact piv_top l2 mz
    · obtain ⟨b, b1, b2⟩ := (hd k hk).1 p hp
      refine fin _ ⟨sg * (b * l), ?_, ?_⟩
      · rw [Int.natAbs_mul, sg1, Nat.one_mul]
        have := natAbs_mul_le b1 l1
        rw [Nat.mul_assoc]; omega
      · rw [ed, pv, Rat.intCast_mul, Rat.intCast_mul]; exact piv_prod l2 b2 mz
theorem mem_el {v : List Rat} {q : Rat} (h : q ∈ v) : ∃ j, j < v.length ∧ q = el v j := by
  obtain ⟨j, hj, e⟩ := List.mem_iff_getElem.mp h
  exact ⟨j, hj, by rw [← e]; exact (el_get (List.getElem?_eq_getElem hj)).symm⟩
theorem mem_zip_el {a b : List Rat} {p : Rat × Rat} (h : p ∈ a.zip b) : ∃ j, j < a.length ∧ j < b.length ∧ p.1 = el a j ∧ p.2 = el b j := by
  obtain ⟨j, hj⟩ := List.mem_iff_getElem?.mp h
  obtain ⟨h1, h2⟩ := List.getElem?_zip_eq_some.mp hj
  exact ⟨j, (List.getElem?_eq_some_iff.mp h1).1, (List.getElem?_eq_some_iff.mp h2).1, (el_get h1).symm, (el_get h2).symm⟩
end Bx
end

section
/-! Specs: led, solved. -/
namespace Bx
open PySem L2
def gr (M : Nat) : Nat → Nat
  | 0 => M
  | n + 1 => 2 * gr M n * gr M n
def dRow (t : List Rat × List Rat) : D := .tup [dV t.1, dV t.2]
def dT (T : Tab) : D := .lst (T.map dRow)
def dN (n : Nat) : D := .int (n : Int)
def dP (P : List Nat) : D := .lst (P.map dN)
def sp_led : Spec := fun args own Q _ => ∃ (R : List (List Rat)) (wide M : Nat), args = [.d (.lst (R.map dV)), .d (dN wide)] ∧ own = [] ∧ RowsIn R wide M ∧ wide ≤ 1000 ∧ R.length ≤ 1000 ∧ gr M (min wide R.length) < 2 ^ 1900 ∧ 1 ≤ M ∧
  ∀ T P, LedInv R wide wide T P (gr M P.length) → Q (.d (.tup [dT T, dP P])) []
theorem len_led {args own Q E} (z : sp_led args own Q E) : args.length = 2 := by obtain ⟨a, b, M, rfl, _⟩ := z; rfl
theorem gr_one {M : Nat} (h : 1 ≤ M) : ∀ n, 1 ≤ gr M n
  | 0 => h
  | n + 1 => by
    have := gr_one h n
    have h2 := Nat.mul_le_mul this this
    unfold gr; rw [Nat.mul_assoc]; omega
theorem gr_step {M : Nat} (h : 1 ≤ M) (n : Nat) : gr M n ≤ gr M (n + 1) := by
  have := gr_one h n
  have h2 := Nat.mul_le_mul_left (gr M n) this
  show _ ≤ 2 * gr M n * gr M n
  rw [Nat.mul_assoc]; omega
theorem gr_mono {M : Nat} (h : 1 ≤ M) {n m : Nat} (hm : n ≤ m) : gr M n ≤ gr M m := by
  induction hm with
  | refl => exact Nat.le_refl _
  | step _ ih => exact Nat.le_trans ih (gr_step h _)
theorem LedInv.le {R : List (List Rat)} {wide p M : Nat} {T : Tab} {P : List Nat} (I : LedInv R wide p T P M) (hp : p ≤ wide) : P.length ≤ min wide R.length := by
  have := I.pl; have := I.fit; omega
/-- the cells are small -/
theorem LedInv.sm {R : List (List Rat)} {wide p M : Nat} {T : Tab} {P : List Nat} (I : LedInv R wide p T P M) (hM : M < 2 ^ 1900) {k : Nat} (hk : k < R.length) : (∀ j, j < wide → Sm (cA T k j)) ∧ ∀ i, i < R.length → Sm (cB T k i) := by
  obtain ⟨d, d0, dm, hd⟩ := I.bd
  have hM' : M < 2 ^ 4000 := Nat.lt_trans hM (Nat.pow_lt_pow_right (by decide) (by decide))
  exact ⟨fun j hj => ((hd k hk).1 j hj).sm d0 dm hM', fun i hi => ((hd k hk).2 i hi).sm d0 dm hM'⟩
/-! ### reading: lists by number, indices, equality -/
section
variable {α : Type}
theorem nth_lt {l : List α} {i : Nat} {x : α} (h : nth l i = some x) : i < l.length := by rw [nth_eq] at h; exact (List.getElem?_eq_some_iff.mp h).1
theorem nth_set_self {l : List α} {i : Nat} {x : α} (h : i < l.length) : nth (l.set i x) i = some x := by rw [nth_eq, List.getElem?_set_self h]
theorem nth_set_ne {l : List α} {i j : Nat} {x : α} (h : i ≠ j) : nth (l.set i x) j = nth l j := by rw [nth_eq, nth_eq, List.getElem?_set_ne h]
theorem nth_push_self {l : List α} {x : α} : nth (l ++ [x]) l.length = some x := by rw [nth_eq]; simp
theorem nth_push {l : List α} {x y : α} {i : Nat} (h : nth l i = some y) : nth (l ++ [x]) i = some y := by
  have := nth_lt h
  rw [nth_eq] at h ⊢
  rw [List.getElem?_append_left this]; exact h
theorem getI_nat (xs : List α) (n : Nat) : getI xs (n : Int) = xs[n]? := by
  rw [getI_eq]
  unfold atI ixN
  rw [if_pos (by omega)]
  by_cases h : n < xs.length
  · rw [if_pos (by omega)]; simp
  · rw [if_neg (by omega)]; simp at h; simp [h]
theorem ixD_nat {n k : Nat} (h : k < n) : ixD n (k : Int) = some k := by
  rw [ixD_eq]
  unfold ixN
  rw [if_pos (by omega), if_pos (by omega)]; simp
theorem ixD_neg1 {n : Nat} (h : 0 < n) : ixD n (-1) = some (n - 1) := by
  rw [ixD_eq]
  unfold ixN
  rw [if_neg (by omega), if_pos (by omega)]
  congr 1; omega
end
theorem deq_dQ (p q : Rat) : deq (dQ p) (dQ q) = decide (p = q) := by
  unfold dQ
  simp only [deq, deqs]
  rw [Bool.eq_iff_iff]
  simp only [Bool.and_eq_true, beq_iff_eq, decide_eq_true_eq, Bool.and_true]
  constructor
  · rintro ⟨h1, h2⟩
    exact Rat.ext h1 (by exact_mod_cast h2)
  · rintro rfl; exact ⟨rfl, rfl⟩
theorem plain_dQ (n : Nat) (q : Rat) : plain (n + 1) (dQ q) = true := rfl
theorem plain_ints (n : Nat) : ∀ l : List Nat, plains n (l.map dN) = true
  | [] => rfl
  | k :: l => by simp only [List.map_cons, plains, dN, plain, Bool.true_and]; exact plain_ints n l
theorem plain_dP (n : Nat) (l : List Nat) : plain (n + 1) (.lst (l.map dN)) = true := by simp only [plain]; exact plain_ints n l
theorem deq_nil (l : List D) : deq (.lst l) (.lst []) = l.isEmpty := by cases l <;> rfl
theorem map_set {α β : Type} (f : α → β) (l : List α) (i : Nat) (x : α) : (l.map f).set i (f x) = (l.set i x).map f := by rw [List.map_set]
/-- the cells of a row, as data -/
theorem getI_row {v : List Rat} {j : Nat} (h : j < v.length) : getI (v.map dQ) (j : Int) = some (dQ (el v j)) := by
  rw [getI_nat, List.getElem?_map, el_lt h]; rfl
theorem getI_tab {T : Tab} {k : Nat} (h : k < T.length) : getI (T.map dRow) (k : Int) = some (dRow (rowT T k)) := by
  rw [getI_nat, List.getElem?_map, rowT_get h]; rfl
theorem sm_one : Sm 1 := by constructor <;> decide
theorem sm_zero : Sm 0 := by constructor <;> decide
end Bx
end

section
/-! What is solved: one way, and all ways of nought; or a sum that bars. -/
namespace Bx
open PySem L2

def Nul (R : List (List Rat)) (wide : Nat) (x : Nat → Rat) : Prop := ∀ i, i < R.length → sumN wide (fun j => cR R i j * x j) = 0
theorem sum_filter (p : Nat → Bool) (g : Nat → Rat) : ∀ n, sumN ((List.range n).filter p).length (fun l => g (((List.range n).filter p).getD l 0)) = sumN n fun j => if p j = true then g j else 0
  | 0 => rfl
  | n + 1 => by
    have ih := sum_filter p g n
    rw [List.range_succ, List.filter_append]
    rw [sumN, ← ih]
    by_cases h : p n = true
    · rw [if_pos h, List.filter_cons, if_pos h, List.filter_nil, List.length_append, List.length_singleton, sumN]
      congr 1
      · apply sumN_congr
        intro i hi
        simp only [List.getD]
        rw [List.getElem?_append_left hi]
      · simp [List.getD]
    · rw [if_neg h, List.filter_cons, if_neg h, List.filter_nil, List.append_nil]
      grind
def vecF (T : Tab) (P : List Nat) (wide f n : Nat) : List Rat := (List.range wide).map fun j => if j = f then 1 else if j ∈ P.take n then 0 - cA T (P.idxOf j) f else 0
def rhs (T : Tab) (ends : List Rat) (k : Nat) : Rat := dotA 0 (rowT T k).2 ends
def foundF (T : Tab) (P : List Nat) (ends : List Rat) (wide n : Nat) : List Rat := (List.range wide).map fun j => if j ∈ P.take n then rhs T ends (P.idxOf j) else 0
def freeF (P : List Nat) (n : Nat) : List Nat := (List.range n).filter fun f => decide (f ∉ P)
theorem el_range {n j : Nat} {g : Nat → Rat} (h : j < n) : el ((List.range n).map g) j = g j := by
  apply el_get
  rw [List.getElem?_map, List.getElem?_range h]; rfl
theorem range_set {n q : Nat} {g : Nat → Rat} {y : Rat} : ((List.range n).map g).set q y = (List.range n).map fun j => if j = q then y else g j := by
  apply List.ext_getElem?
  intro j
  by_cases hj : j < n
  · rw [List.getElem?_map, List.getElem?_range hj]
    by_cases e : j = q
    · subst e
      rw [List.getElem?_set_self (by simpa using hj)]; simp
    · rw [List.getElem?_set_ne (Ne.symm e), List.getElem?_map, List.getElem?_range hj]; simp [e]
  · rw [List.getElem?_eq_none (by simp; omega), List.getElem?_eq_none (by simp; omega)]
structure SolOk (R : List (List Rat)) (ends : List Rat) (wide : Nat) (found : List Rat) (lot : List (List Rat)) (Fr : List Nat) : Prop where
  fl : found.length = wide
  sol : ∀ i, i < R.length → sumN wide (fun j => cR R i j * el found j) = el ends i
  ll : ∀ v ∈ lot, v.length = wide
  frl : Fr.length = lot.length
  frw : ∀ f ∈ Fr, f < wide
  frn : Fr.Nodup
  one : ∀ (l k : Nat) (v : List Rat) (f : Nat), lot[l]? = some v → Fr[k]? = some f → el v f = if l = k then 1 else 0
  nul : ∀ v ∈ lot, Nul R wide (el v)
  all : ∀ x, Nul R wide x → ∀ j, j < wide → x j = sumN lot.length fun l => x (Fr.getD l 0) * el (lot.getD l []) j
section
variable {R : List (List Rat)} {wide M : Nat} {T : Tab} {P : List Nat} {ends : List Rat}
theorem idx_get {q : Nat} (h : q ∈ P) : P[P.idxOf q]? = some q := by
  have := List.idxOf_lt_length_of_mem h
  rw [List.getElem?_eq_getElem this]
  simp
theorem idx_of (I : LedInv R wide wide T P M) {k q : Nat} (h : P[k]? = some q) : P.idxOf q = k := by
  obtain ⟨h1, h2⟩ := List.getElem?_eq_some_iff.mp h
  have nd : P.Nodup := I.inc.imp fun h => Nat.ne_of_lt h
  obtain ⟨h3, h4⟩ := List.getElem?_eq_some_iff.mp (idx_get (List.mem_of_getElem? h))
  exact (List.getElem_inj nd).mp (h4.trans h2.symm)
theorem rhs_sum (I : LedInv R wide wide T P M) (he : ends.length = R.length) {k : Nat} (hk : k < R.length) : rhs T ends k = sumN R.length fun i => cB T k i * el ends i := dotR R.length (I.wd k hk).2 he
theorem pick (I : LedInv R wide wide T P M) {k : Nat} (hk : k < P.length) (g : Nat → Rat) : sumN wide (fun j => cA T k j * (if j ∈ P then g (P.idxOf j) else 0)) = g k := by
  obtain ⟨q, hq⟩ : ∃ q, P[k]? = some q := ⟨P[k], List.getElem?_eq_getElem hk⟩
  have hqm : q ∈ P := List.mem_of_getElem? hq
  have hkR : k < R.length := Nat.lt_of_lt_of_le hk I.pl
  rw [sumN_single (j := q) (I.lt q hqm) fun i hi hne => ?_]
  · rw [if_pos hqm, idx_of I hq, I.pc k q hq k hkR, if_pos rfl]; grind
  · by_cases h : i ∈ P
    · have := I.pc _ i (idx_get h) k hkR
      rw [this, if_neg (fun z => hne ?_)]
      · grind
      · have h1 := idx_get h
        rw [← z, hq] at h1
        exact (Option.some.inj h1).symm
    · rw [if_neg h]; grind
theorem solOk_of (I : LedInv R wide wide T P M) (he : ends.length = R.length) (hz : ∀ k, P.length ≤ k → k < R.length → rhs T ends k = 0) :
    SolOk R ends wide (foundF T P ends wide P.length) ((freeF P wide).map fun f => vecF T P wide f P.length) (freeF P wide) := by
  have zrow : ∀ k, P.length ≤ k → k < R.length → ∀ x : Nat → Rat, sumN wide (fun j => cA T k j * x j) = 0 := fun k h1 h2 x => sumN_zero fun j hj => by rw [I.zr k h1 h2 j hj]; grind
  have mem : ∀ {f}, f ∈ freeF P wide ↔ f < wide ∧ f ∉ P := fun {f} => by unfold freeF; rw [List.mem_filter, List.mem_range, decide_eq_true_eq]
  have elF : ∀ j, j < wide → el (foundF T P ends wide P.length) j = if j ∈ P then rhs T ends (P.idxOf j) else 0 := fun j hj => by unfold foundF; rw [el_range hj, List.take_length]
  have elV : ∀ f j, j < wide → el (vecF T P wide f P.length) j = if j = f then 1 else if j ∈ P then 0 - cA T (P.idxOf j) f else 0 := fun f j hj => by unfold vecF; rw [el_range hj, List.take_length]
  have nodup : (freeF P wide).Nodup := List.Pairwise.filter _ List.nodup_range
  refine ⟨by simp [foundF], (I.eqv _ _).mp fun k hk => ?_, fun v hv => ?_, by simp, fun f hf => (mem.mp hf).1, nodup, fun l k v f hl hk => ?_, fun v hv => ?_, fun x hx j hj => ?_⟩
  · rw [← rhs_sum I he hk]
    by_cases h : k < P.length
    · rw [← pick I h (rhs T ends)]
      exact sumN_congr fun j hj => by rw [elF j hj]
    · rw [zrow k (by omega) hk, hz k (by omega) hk]
  · obtain ⟨f, _, rfl⟩ := List.mem_map.mp hv
    simp [vecF]
  · rw [List.getElem?_map] at hl
    cases e : (freeF P wide)[l]? with
    | none => rw [e] at hl; cases hl
    | some f' =>
      rw [e] at hl; cases hl
      obtain ⟨h1, h2⟩ := mem.mp (List.mem_of_getElem? hk)
      rw [elV f' f h1]
      by_cases h : f = f'
      · subst h
        rw [if_pos rfl, if_pos ?_]
        obtain ⟨a1, a2⟩ := List.getElem?_eq_some_iff.mp e
        obtain ⟨b1, b2⟩ := List.getElem?_eq_some_iff.mp hk
        exact (List.getElem_inj nodup).mp (a2.trans b2.symm)
      · rw [if_neg h, if_neg h2, if_neg ?_]
        rintro rfl
        rw [e] at hk
        exact h (Option.some.inj hk).symm
  · obtain ⟨f, hf, rfl⟩ := List.mem_map.mp hv
    obtain ⟨h1, h2⟩ := mem.mp hf
    refine (I.eqv (el (vecF T P wide f P.length)) fun _ => 0).mp fun k hk => ?_
    rw [sumN_zero (n := R.length) fun i _ => by grind]
    by_cases h : k < P.length
    · have s1 : sumN wide (fun j => cA T k j * el (vecF T P wide f P.length) j) = sumN wide (fun j => cA T k j * (if j = f then 1 else 0)) + sumN wide fun j => cA T k j * (if j ∈ P then (fun m => 0 - cA T m f) (P.idxOf j) else 0) := by
        rw [← sumN_add]
        refine sumN_congr fun j hj => ?_
        rw [elV f j hj]
        by_cases e : j = f
        · subst e; rw [if_pos rfl, if_pos rfl, if_neg h2]; grind
        · rw [if_neg e, if_neg e]; grind
      rw [s1, pick I h fun m => 0 - cA T m f, sumN_single h1 fun i _ hne => by rw [if_neg hne]; grind]
      rw [if_pos rfl]; grind
    · exact zrow k (by omega) hk _
  · rw [List.length_map]
    have s0 : ∀ l, l < (freeF P wide).length → ((freeF P wide).map fun f => vecF T P wide f P.length).getD l [] = vecF T P wide ((freeF P wide).getD l 0) P.length := fun l hl => by
      simp [List.getD, List.getElem?_eq_getElem hl]
    rw [sumN_congr fun l hl => by rw [s0 l hl]]
    have s1 := sum_filter (fun f => decide (f ∉ P)) (fun f => x f * el (vecF T P wide f P.length) j) wide
    rw [show (List.range wide).filter (fun f => decide (f ∉ P)) = freeF P wide from rfl] at s1
    rw [s1]
    by_cases h : j ∈ P
    · -- a pivot column
      have hk := List.idxOf_lt_length_of_mem h
      have hkR : P.idxOf j < R.length := Nat.lt_of_lt_of_le hk I.pl
      have e0 := (I.eqv x fun _ => 0).mpr (fun i hi => hx i hi) _ hkR
      rw [sumN_zero (n := R.length) fun i _ => by grind] at e0
      have s2 : sumN wide (fun i => cA T (P.idxOf j) i * x i) = sumN wide (fun i => cA T (P.idxOf j) i * (if i ∈ P then (fun m => x (P.getD m 0)) (P.idxOf i) else 0)) + sumN wide fun i => if decide (i ∉ P) = true then cA T (P.idxOf j) i * x i else 0 := by
        rw [← sumN_add]
        refine sumN_congr fun i hi => ?_
        by_cases e : i ∈ P
        · rw [if_pos e, if_neg (by simpa using e)]
          have : P.getD (P.idxOf i) 0 = i := by simp [List.getD, idx_get e]
          simp only [this]; grind
        · rw [if_neg e, if_pos (by simpa using e)]; grind
      rw [s2, pick I hk fun m => x (P.getD m 0)] at e0
      have e1 : P.getD (P.idxOf j) 0 = j := by simp [List.getD, idx_get h]
      simp only [e1] at e0
      have s3 : sumN wide (fun f => if decide (f ∉ P) = true then x f * el (vecF T P wide f P.length) j else 0) = 0 - sumN wide fun i => if decide (i ∉ P) = true then cA T (P.idxOf j) i * x i else 0 := by
        have : sumN wide (fun f => if decide (f ∉ P) = true then x f * el (vecF T P wide f P.length) j else 0) = sumN wide fun i => (-1) * (if decide (i ∉ P) = true then cA T (P.idxOf j) i * x i else 0) := by
          refine sumN_congr fun f hf => ?_
          by_cases e : f ∈ P
          · rw [if_neg (by simpa using e), if_neg (by simpa using e)]; grind
          · rw [if_pos (by simpa using e), if_pos (by simpa using e), elV f j hj, if_neg (show ¬ j = f from fun z => e (by rw [← z]; exact h)), if_pos h]; grind
        rw [this, sumN_mul]; grind
      rw [s3]; grind
    · rw [sumN_single hj fun i hi hne => ?_]
      · rw [if_pos (by simpa using h), elV j j hj, if_pos rfl]; grind
      · by_cases e : i ∈ P
        · rw [if_neg (by simpa using e)]
        · rw [if_pos (by simpa using e), elV i j hj, if_neg (Ne.symm hne), if_neg h]; grind
/-- what bars -/
theorem bar_of (I : LedInv R wide wide T P M) {k : Nat} (h1 : P.length ≤ k) (h2 : k < R.length) (x : Nat → Rat) : sumN R.length (fun i => el (rowT T k).2 i * sumN wide fun j => cR R i j * x j) = 0 := by
  have := (I.eqv x fun i => sumN wide fun j => cR R i j * x j).mpr (fun i _ => rfl) k h2
  rw [sumN_zero fun j hj => by rw [I.zr k h1 h2 j hj]; grind] at this
  exact this.symm
end
/-! ### how large; the spec -/
def EndsIn (ends : List Rat) (Me : Nat) : Prop := ∃ d, 0 < d ∧ d ≤ Me ∧ ∀ q ∈ ends, Cd Me d q
theorem cd_acc {acc x y dd ee z n l : Rat} (h : acc * (dd * ee) = z) (h1 : x * dd = n) (h2 : y * ee = l) : (acc + x * y) * (dd * ee) = z + n * l := by subst h h1 h2; grind
theorem dot_cd {M Me d e B : Nat} (hd : 0 < d) (he : 0 < e) (hdM : d ≤ M) (heM : e ≤ Me) (hB : B < 2 ^ 4000) (hM : M ≤ B) (hMe : Me ≤ B) (hMM : M * Me ≤ B) : ∀ (a b : List Rat) (acc : Rat) (Z : Nat), a.length = b.length → (∀ q ∈ a, Cd M d q) → (∀ q ∈ b, Cd Me e q) → Cd Z (d * e) acc → Z + a.length * (M * Me) ≤ B →
    DotOk acc a b ∧ Cd B (d * e) (dotA acc a b)
  | [], [], acc, Z, _, _, _, hz, hb => ⟨trivial, hz.mono (by simpa using hb)⟩
  | x :: a, y :: b, acc, Z, hl, ha, hb, hz, hB2 => by
    have de : d * e ≤ B := Nat.le_trans (Nat.mul_le_mul hdM heM) hMM
    have dpos : 0 < d * e := Nat.mul_pos hd he
    have cx := ha x List.mem_cons_self
    have cy := hb y List.mem_cons_self
    have hlen : Z + M * Me + a.length * (M * Me) ≤ B := by
      rw [List.length_cons, Nat.succ_mul] at hB2; omega
    obtain ⟨n, n1, n2⟩ := cx
    obtain ⟨l, l1, l2⟩ := cy
    obtain ⟨z, z1, z2⟩ := hz
    have ed : (((d * e : Nat) : Int) : Rat) = ((d : Int) : Rat) * ((e : Int) : Rat) := by
      rw [show ((d * e : Nat) : Int) = (d : Int) * (e : Int) by push_cast; rfl, Rat.intCast_mul]
    have cxy : Cd B (d * e) (x * y) := ⟨n * l, by rw [Int.natAbs_mul]; exact Nat.le_trans (Nat.mul_le_mul n1 l1) hMM, by rw [ed, Rat.intCast_mul, ← n2, ← l2]; grind⟩
    have cn : Cd (Z + M * Me) (d * e) (acc + x * y) := ⟨z + n * l, by
        have h1 := Int.natAbs_add_le z (n * l)
        have h2 := Nat.mul_le_mul n1 l1
        rw [Int.natAbs_mul] at h1
        omega, by rw [ed, Rat.intCast_add, Rat.intCast_mul]; rw [ed] at z2; exact cd_acc z2 n2 l2⟩
    obtain ⟨r1, r2⟩ := dot_cd hd he hdM heM hB hM hMe hMM a b (acc + x * y) (Z + M * Me) (by simpa using hl) (fun q hq => ha q (List.mem_cons_of_mem _ hq)) (fun q hq => hb q (List.mem_cons_of_mem _ hq)) cn hlen
    refine ⟨⟨?_, ?_, ?_, ?_, r1⟩, r2⟩
    · exact Cd.sm (M := B) ⟨z, by omega, z2⟩ dpos de hB
    · exact Cd.sm (M := B) ⟨n, by omega, n2⟩ hd (by omega) hB
    · exact Cd.sm (M := B) ⟨l, by omega, l2⟩ he (by omega) hB
    · exact cxy.sm dpos de hB
theorem mem_cd {M d n : Nat} {v : List Rat} (hl : v.length = n) (h : ∀ j, j < n → Cd M d (el v j)) : ∀ q ∈ v, Cd M d q := fun q hq => by
  obtain ⟨j, hj, rfl⟩ := mem_el hq
  exact h j (by omega)
def sizeB (n M Me : Nat) : Nat := (n + 1) * (M * Me)
def BdL (wide : Nat) (found : List Rat) (lot : List (List Rat)) (M' B : Nat) : Prop := (∃ d, 0 < d ∧ d ≤ M' ∧ ∀ v ∈ lot, ∀ j, j < wide → Cd M' d (el v j)) ∧ ∃ d, 0 < d ∧ d ≤ B ∧ ∀ j, j < wide → Cd B d (el found j)
def BdT (n : Nat) (t : List Rat) (M' : Nat) : Prop := ∃ d, 0 < d ∧ d ≤ M' ∧ ∀ i, i < n → Cd M' d (el t i)
def sp_solved : Spec := fun args own Q _ => ∃ (R : List (List Rat)) (ends : List Rat) (wide M Me : Nat), args = [.d (.lst (R.map dV)), .d (dV ends), .d (dN wide)] ∧ own = [] ∧ RowsIn R wide M ∧ 1 ≤ M ∧ wide ≤ 1000 ∧ R.length ≤ 1000 ∧ gr M (min wide R.length) < 2 ^ 1900 ∧
  ends.length = R.length ∧ EndsIn ends Me ∧ Me < 2 ^ 1900 ∧
  (∀ t, t.length = R.length → (∀ x : Nat → Rat, sumN R.length (fun i => el t i * sumN wide fun j => cR R i j * x j) = 0) → dotA 0 t ends ≠ 0 → BdT R.length t (gr M (min wide R.length)) → Q (.d (.tup [.non, dV t])) []) ∧
  (∀ found lot Fr, SolOk R ends wide found lot Fr → BdL wide found lot (gr M (min wide R.length)) (sizeB R.length (gr M (min wide R.length)) Me) → Q (.d (.tup [dV found, .lst (lot.map dV)])) [])
theorem len_solved {args own Q E} (z : sp_solved args own Q E) : args.length = 3 := by obtain ⟨a, b, c, M, Me, rfl, _⟩ := z; rfl
theorem size_lt {n M Me : Nat} (hn : n ≤ 1000) (hM : M < 2 ^ 1900) (hMe : Me < 2 ^ 1900) : sizeB n M Me < 2 ^ 4000 := by
  have h1 : M * Me < 2 ^ 1900 * 2 ^ 1900 := Nat.mul_lt_mul'' hM hMe
  have h2 : (n + 1) * (M * Me) ≤ 1001 * (M * Me) := Nat.mul_le_mul_right _ (by omega)
  have h3 : 1001 * (M * Me) < 1001 * (2 ^ 1900 * 2 ^ 1900) := by omega
  refine Nat.lt_of_le_of_lt h2 (Nat.lt_trans h3 ?_)
  decide
section
variable {R : List (List Rat)} {wide M Me : Nat} {T : Tab} {P : List Nat} {ends : List Rat}
/-- a row's own sums with the ends -/
theorem rhs_ok (I : LedInv R wide wide T P M) (he : ends.length = R.length) (hE : EndsIn ends Me) (hn : R.length ≤ 1000) (hM : M < 2 ^ 1900) (hMe : Me < 2 ^ 1900) (h1 : 1 ≤ M) : ∃ d, 0 < d ∧ d ≤ sizeB R.length M Me ∧ ∀ k, k < R.length → DotOk 0 (rowT T k).2 ends ∧ Cd (sizeB R.length M Me) d (rhs T ends k) := by
  obtain ⟨d, d0, dm, hd⟩ := I.bd
  obtain ⟨e, e0, em, hee⟩ := hE
  have hMe1 : 1 ≤ Me := Nat.le_trans e0 em
  have z1 : M * Me ≤ sizeB R.length M Me := by unfold sizeB; rw [Nat.succ_mul]; omega
  have z2 : M ≤ M * Me := Nat.le_mul_of_pos_right _ hMe1
  have z3 : Me ≤ M * Me := Nat.le_mul_of_pos_left _ h1
  refine ⟨d * e, Nat.mul_pos d0 e0, Nat.le_trans (Nat.mul_le_mul dm em) z1, fun k hk => ?_⟩
  refine dot_cd d0 e0 dm em (size_lt hn hM hMe) (by omega) (by omega) z1 _ _ 0 0 ((I.wd k hk).2.trans he.symm) (mem_cd (I.wd k hk).2 (hd k hk).2) hee ⟨0, by simp, by grind⟩ ?_
  rw [(I.wd k hk).2]
  unfold sizeB
  rw [Nat.succ_mul]; omega
theorem bdT_of (I : LedInv R wide wide T P M) {k : Nat} (hk : k < R.length) : BdT R.length (rowT T k).2 M := by
  obtain ⟨d, d0, dm, hd⟩ := I.bd
  exact ⟨d, d0, dm, (hd k hk).2⟩
theorem BdT.mono {n M M' : Nat} {t : List Rat} (h : BdT n t M) (hm : M ≤ M') : BdT n t M' := by
  obtain ⟨d, d0, dm, hd⟩ := h
  exact ⟨d, d0, Nat.le_trans dm hm, fun i hi => (hd i hi).mono hm⟩
theorem Cd.neg {M d : Nat} {q : Rat} (h : Cd M d q) : Cd M d (0 - q) := by
  obtain ⟨n, n1, n2⟩ := h
  exact ⟨-n, by rw [Int.natAbs_neg]; exact n1, by rw [Rat.intCast_neg, ← n2]; grind⟩
theorem bdL_of (I : LedInv R wide wide T P M) (he : ends.length = R.length) (hE : EndsIn ends Me) (hn : R.length ≤ 1000) (hM : M < 2 ^ 1900) (hMe : Me < 2 ^ 1900) (h1 : 1 ≤ M) :
    BdL wide (foundF T P ends wide P.length) ((freeF P wide).map fun f => vecF T P wide f P.length) M (sizeB R.length M Me) := by
  obtain ⟨d, d0, dm, hd⟩ := I.bd
  obtain ⟨e, e0, em, hee⟩ := rhs_ok I he hE hn hM hMe h1
  refine ⟨⟨d, d0, dm, fun v hv j hj => ?_⟩, e, e0, em, fun j hj => ?_⟩
  · obtain ⟨f, hf, rfl⟩ := List.mem_map.mp hv
    have hf' : f < wide := by
      unfold freeF at hf
      rw [List.mem_filter, List.mem_range] at hf; exact hf.1
    unfold vecF
    rw [el_range hj]
    split
    · exact ⟨d, by simpa using dm, by grind⟩
    · split
      · rename_i hP
        rw [List.take_length] at hP
        have hk := Nat.lt_of_lt_of_le (List.idxOf_lt_length_of_mem hP) I.pl
        exact ((hd _ hk).1 f hf').neg
      · exact ⟨0, by simp, by grind⟩
  · unfold foundF
    rw [el_range hj]
    split
    · rename_i hP
      rw [List.take_length] at hP
      exact (hee _ (Nat.lt_of_lt_of_le (List.idxOf_lt_length_of_mem hP) I.pl)).2
    · exact ⟨0, by simp, by grind⟩
theorem BdL.mono {wide M M' B B' : Nat} {found : List Rat} {lot : List (List Rat)} (h : BdL wide found lot M B) (hm : M ≤ M') (hb : B ≤ B') : BdL wide found lot M' B' := by
  obtain ⟨⟨d, d0, dm, hd⟩, e, e0, em, he⟩ := h
  exact ⟨⟨d, d0, by omega, fun v hv j hj => (hd v hv j hj).mono hm⟩, e, e0, by omega, fun j hj => (he j hj).mono hb⟩
end
theorem cutD_from {xs : List D} {n : Nat} (h : n ≤ xs.length) : cutD xs (some (n : Int)) none = xs.drop n := by
  unfold cutD
  rw [HT.sIx_nat, HT.sIx_none, Nat.min_eq_left h]
  exact List.take_of_length_le (by rw [List.length_drop]; exact Nat.le_refl _)
theorem memQ_nat (k : Nat) : ∀ l : List Nat, memQ (.int (k : Nat)) (l.map dN) = decide (k ∈ l)
  | [] => rfl
  | j :: l => by
    have ih := memQ_nat k l
    unfold memQ at ih ⊢
    rw [List.map_cons, List.any_cons, ih]
    rw [Bool.eq_iff_iff]
    simp only [dN, deq, Bool.or_eq_true, beq_iff_eq, decide_eq_true_eq, List.mem_cons]
    constructor
    · rintro (h | h)
      · exact .inl (by omega)
      · exact .inr h
    · rintro (h | h)
      · exact .inl (by omega)
      · exact .inr h
theorem take_snoc {l : List Nat} {i q : Nat} (h : l[i]? = some q) : l.take (i + 1) = l.take i ++ [q] := by rw [List.take_succ, h]; rfl
theorem replicate_nought (n : Nat) : (List.replicate n [dQ 0]).flatten = ((List.range n).map fun _ => (0 : Rat)).map dQ := by
  rw [List.map_map]
  induction n with
  | zero => rfl
  | succ n ih =>
    rw [List.replicate_succ', List.flatten_append, ih, List.range_succ, List.map_append]
    rfl
theorem foundF_zero {T : Tab} {P : List Nat} {ends : List Rat} {wide : Nat} : foundF T P ends wide 0 = (List.range wide).map fun _ => 0 := by unfold foundF; simp
theorem foundF_set {R : List (List Rat)} {wide M i q : Nat} {T : Tab} {P : List Nat} {ends : List Rat} (I : LedInv R wide wide T P M) (h : P[i]? = some q) : (foundF T P ends wide i).set q (rhs T ends i) = foundF T P ends wide (i + 1) := by
  unfold foundF
  rw [range_set, take_snoc h]
  apply List.map_congr_left
  intro j _
  by_cases e : j = q
  · subst e
    rw [if_pos rfl, if_pos (by simp), idx_of I h]
  · rw [if_neg e]
    have : (j ∈ List.take i P ++ [q]) ↔ j ∈ List.take i P := by simp [e]
    simp only [this]
theorem vecF_zero {T : Tab} {P : List Nat} {wide f : Nat} : vecF T P wide f 0 = (List.range wide).map fun j => if j = f then 1 else 0 := by unfold vecF; simp
theorem vecF_set {R : List (List Rat)} {wide M i q f : Nat} {T : Tab} {P : List Nat} (I : LedInv R wide wide T P M) (h : P[i]? = some q) (hf : f ∉ P) : (vecF T P wide f i).set q (0 - cA T i f) = vecF T P wide f (i + 1) := by
  have hq : q ∈ P := List.mem_of_getElem? h
  unfold vecF
  rw [range_set, take_snoc h]
  apply List.map_congr_left
  intro j _
  by_cases e : j = q
  · subst e
    rw [if_pos rfl, if_neg (show ¬ j = f from fun z => hf (by rw [← z]; exact hq)), if_pos (by simp), idx_of I h]
  · rw [if_neg e]
    have : (j ∈ List.take i P ++ [q]) ↔ j ∈ List.take i P := by simp [e]
    simp only [this]
theorem freeF_in {P : List Nat} {f : Nat} (h : f ∈ P) : freeF P (f + 1) = freeF P f := by
  unfold freeF
  rw [List.range_succ, List.filter_append, List.filter_cons, if_neg (by simpa using h)]; simp
theorem freeF_out {P : List Nat} {f : Nat} (h : f ∉ P) : freeF P (f + 1) = freeF P f ++ [f] := by
  unfold freeF
  rw [List.range_succ, List.filter_append, List.filter_cons, if_pos (by simpa using h)]; simp
theorem zipIdx_at {α : Type} {l : List α} {i i' : Nat} {q : α} (h : l.zipIdx[i]? = some (q, i')) : l[i]? = some q ∧ i' = i := by
  rw [List.getElem?_zipIdx] at h
  cases e : l[i]? with
  | none => rw [e] at h; cases h
  | some y =>
    rw [e] at h
    simp at h
    exact ⟨by rw [h.1], h.2.symm⟩
theorem set_push {α : Type} {l : List α} {x y : α} : (l ++ [x]).set l.length y = l ++ [y] := by
  rw [List.set_append_right _ _ (Nat.le_refl _), Nat.sub_self]; rfl
end Bx
end

section
/-! What is a net: decisions over data. -/
namespace Bx
open PySem L2 PySem.Spec PyProof.Rows

/-! ### texts: their signs, a sign in a text -/
def signsD (x : Str) : List D := x.cps.toList.map fun c => D.str ⟨#[c]⟩
def wStrI (p : TP) : TPi := fun s Q => p s fun c s1 => match c with
  | .d (.str x) => x.length ≤ sizeLine ∧ Q (signsD x) s1
  | _ => False
theorem ppi_str {X : Cx} {tg e : Expr} {p : TP} (h : PP X e p) : PPi X tg e (wStrI p) :=
  PIw (pi_str h) fun σ H R ⟨g, s, Qp, hd, hp, k⟩ => ⟨g, s, _, hd, hp, fun v H' c g' s' hd' a' r hq => by
    split at hq
    · rename_i x
      cases r
      refine ⟨x, rfl, k _ _ _ _ _ hd' a' ⟨by simpa [signsD, Str.length] using hq.1, fun i O' H2 kp ov tr => ⟨fun hi => ?_, fun d hdi => ?_⟩⟩ hq.2⟩
      · have : x.cps.size = i := by simpa [signsD] using hi
        show x.cps.size ≤ i
        omega
      · unfold signsD at hdi
        rw [List.getElem?_map] at hdi
        cases e : x.cps.toList[i]? with
        | none => rw [e] at hdi; cases hdi
        | some c =>
          rw [e] at hdi; cases hdi
          have e' : x.cps[i]? = some c := by simpa using e
          refine ⟨(Array.getElem?_eq_some_iff.mp e').1, fun v H3 ⟨eH, c', e2, ev⟩ => ?_⟩
          subst eH ev
          rw [e'] at e2; cases e2
          exact ⟨fun _ _ h => h, .str _⟩
    · exact hq.elim⟩
def cInS (f : Bool → Bool) : B2 := fun c d s Q => match c, d with
  | .d (.str ⟨⟨[c]⟩⟩), .d (.str z) => Q (.d (.bl (f (decide (c ∈ z.cps.toList))))) s
  | _, _ => False
theorem ci_inS {K : PySem.W.Frag} : BinI K rInS (cInS id) := fun g s σ H x y c d Qp Q hd rx ry hb kt => by
  unfold cInS at hb
  split at hb
  · cases rx; cases ry
    exact ⟨_, _, rfl, rfl, kt _ _ (.d _) _ _ hd .refl (.bl _) hb⟩
  · exact hb.elim
theorem ci_notInS {K : PySem.W.Frag} : BinI K rNotInS (cInS not) := fun g s σ H x y c d Qp Q hd rx ry hb kt => by
  unfold cInS at hb
  split at hb
  · cases rx; cases ry
    exact ⟨_, _, rfl, rfl, kt _ _ (.d _) _ _ hd .refl (.bl _) hb⟩
  · exact hb.elim
section
variable {X : Cx} {a b : Expr} {p q : TP} {pos : Pos}
theorem pp_inS (ha : PP X a p) (hb : PP X b q) (hm : behindInMarks .In b = false := by rfl) : PP X (.Compare a [.In] [b] pos) (wBin (cInS id) p q) := pp_cmp op_inS ci_inS ha hb hm
theorem ppt_inS (ha : PP X a p) (hb : PP X b q) (hm : behindInMarks .In b = false := by rfl) : PPt X (.Compare a [.In] [b] pos) (wTest (wBin (cInS id) p q)) := ppt_cmp op_inS ci_inS ha hb hm
theorem pp_notInS (ha : PP X a p) (hb : PP X b q) (hm : behindInMarks .NotIn b = false := by rfl) : PP X (.Compare a [.NotIn] [b] pos) (wBin (cInS not) p q) := pp_cmp op_notInS ci_notInS ha hb hm
theorem ppt_notInS (ha : PP X a p) (hb : PP X b q) (hm : behindInMarks .NotIn b = false := by rfl) : PPt X (.Compare a [.NotIn] [b] pos) (wTest (wBin (cInS not) p q)) := ppt_cmp op_notInS ci_notInS ha hb hm
end

/-! ### small data -/
mutual
def small : Nat → D → Bool
  | _, .non => true
  | _, .bl _ => true
  | _, .int _ => true
  | _, .str x => decide (x.length ≤ 1000) && PyData.strOk x
  | n, .tup xs => match n with
    | 0 => false
    | n + 1 => decide (xs.length ≤ 1000) && smalls n xs
  | n, .lst xs => match n with
    | 0 => false
    | n + 1 => decide (xs.length ≤ 1000) && smalls n xs
  | _, _ => false
def smalls : Nat → List D → Bool
  | _, [] => true
  | n, x :: xs => small n x && smalls n xs
end
mutual
theorem small_plain : ∀ (d : D) (n : Nat), small n d = true → plain n d = true
  | .non, _, _ => by simp [plain]
  | .bl _, _, _ => by simp [plain]
  | .int _, _, _ => by simp [plain]
  | .str x, _, h => by simp [small] at h; simp [plain, h.2]
  | .tup xs, 0, h => by simp [small] at h
  | .tup xs, n + 1, h => by simp [small] at h; simp [plain, smalls_plain xs n h.2]
  | .lst xs, 0, h => by simp [small] at h
  | .lst xs, n + 1, h => by simp [small] at h; simp [plain, smalls_plain xs n h.2]
  | .dct _, _, h => by simp [small] at h
  | .raw _, _, h => by simp [small] at h
  | .scr _, _, h => by simp [small] at h
theorem smalls_plain : ∀ (ds : List D) (n : Nat), smalls n ds = true → plains n ds = true
  | [], _, _ => rfl
  | x :: xs, n, h => by simp [smalls] at h; simp [plains, small_plain x n h.1, smalls_plain xs n h.2]
end
theorem smalls_iff {n : Nat} : ∀ {ds : List D}, smalls n ds = true ↔ ∀ d ∈ ds, small n d = true
  | [] => by simp [smalls]
  | x :: xs => by simp [smalls, smalls_iff (ds := xs)]
theorem small_tup {n : Nat} {xs : List D} (h : small n (.tup xs) = true) : ∃ m, n = m + 1 ∧ xs.length ≤ 1000 ∧ ∀ d ∈ xs, small m d = true := by
  cases n with
  | zero => simp [small] at h
  | succ m =>
    simp [small] at h
    exact ⟨m, rfl, h.1, smalls_iff.mp h.2⟩
theorem small_str {n : Nat} {x : Str} (h : small n (.str x) = true) : x.length ≤ 1000 := by
  simp [small] at h; exact h.1

mutual
theorem small_mono : ∀ (d : D) (n : Nat), small n d = true → small (n + 1) d = true
  | .non, _, _ => by simp [small]
  | .bl _, _, _ => by simp [small]
  | .int _, _, _ => by simp [small]
  | .str x, _, h => by simpa [small] using h
  | .tup xs, 0, h => by simp [small] at h
  | .tup xs, n + 1, h => by simp only [small, Bool.and_eq_true] at h ⊢; exact ⟨h.1, smalls_mono xs n h.2⟩
  | .lst xs, 0, h => by simp [small] at h
  | .lst xs, n + 1, h => by simp only [small, Bool.and_eq_true] at h ⊢; exact ⟨h.1, smalls_mono xs n h.2⟩
  | .dct _, _, h => by simp [small] at h
  | .raw _, _, h => by simp [small] at h
  | .scr _, _, h => by simp [small] at h
theorem smalls_mono : ∀ (ds : List D) (n : Nat), smalls n ds = true → smalls (n + 1) ds = true
  | [], _, _ => rfl
  | x :: xs, n, h => by simp only [smalls, Bool.and_eq_true] at h ⊢; exact ⟨small_mono x n h.1, smalls_mono xs n h.2⟩
end
theorem small_up {m : Nat} {p : D × D} (h : ∃ j, m = j + 1 ∧ small j p.1 = true ∧ small j p.2 = true) : small m p.1 = true := by
  obtain ⟨j, rfl, h1, _⟩ := h
  exact small_mono _ _ h1

/-! ### kinds -/
def isIntD : D → Bool
  | .int _ => true
  | _ => false
def isBlD : D → Bool
  | .bl _ => true
  | _ => false
def isStrD : D → Bool
  | .str _ => true
  | _ => false
def isTupD : D → Bool
  | .tup _ => true
  | _ => false
theorem inst_int {d : D} {n : Nat} (h : small n d = true) : isInst d "int" = some (isIntD d || isBlD d) := by cases d <;> first | rfl | simp [small] at h
theorem inst_bool {d : D} {n : Nat} (h : small n d = true) : isInst d "bool" = some (isBlD d) := by cases d <;> first | rfl | simp [small] at h
theorem inst_str {d : D} {n : Nat} (h : small n d = true) : isInst d "str" = some (isStrD d) := by cases d <;> first | rfl | simp [small] at h
theorem inst_tup {d : D} {n : Nat} (h : small n d = true) : isInst d "tuple" = some (isTupD d) := by cases d <;> first | rfl | simp [small] at h

/-! ### decisions -/
def wholeD (lo hi : Int) : D → Bool
  | .int i => decide (lo ≤ i) && decide (i ≤ hi)
  | _ => false
def fracD : D → Bool
  | .tup [.int a, .int b] => decide (0 < b) && decide (Nat.gcd a.natAbs b.natAbs = 1)
  | _ => false
def letters : Str := "abcdefghijklmnopqrstuvwxyz"
def gl_LETTERS : D := .str letters
def gl_MOST_SHAFTS : D := .int 8
def gl_MOST_BOXES : D := .int 8
def gl_MOST_NUMBER : D := .int 20
def nameS (x : Str) : Bool := (decide (1 ≤ x.length) && decide (x.length ≤ 8)) && x.cps.toList.all fun c => decide (c ∈ letters.cps.toList)
def nameD : D → Bool
  | .str x => nameS x
  | _ => false
def ltS (x y : Str) : Bool := decide (x.cps.toList < y.cps.toList)
def risingS (xs : List Str) : Bool := (List.range (xs.length - 1)).all fun k => ltS (xs.getD k default) (xs.getD (k + 1) default)
def dS (x : Str) : D := .str x
def risingD (ds : List D) : Bool := match unS ds with
  | some xs => risingS xs
  | none => false
def shaftsD : D → Bool
  | .tup ds => (decide (1 ≤ ds.length) && decide (ds.length ≤ 8)) && (ds.all nameD && risingD ds)
  | _ => false
def inD (ss : List Str) : D → Bool
  | .str x => decide (x ∈ ss)
  | _ => false
def ofD (ss : List Str) : D → Bool
  | .tup ds => ds.all (inD ss) && risingD ds
  | _ => false
def pairD : D → Bool
  | .tup [_, _] => true
  | _ => false
def fstD : D → D
  | .tup [a, _] => a
  | _ => .non
def sndD : D → D
  | .tup [_, b] => b
  | _ => .non
def numD (d : D) : Bool := wholeD (-20) 20 d && !deq d (.int 0)
def boxD (ss : List Str) : D → Bool
  | .tup ds => (decide (ds.length = 2) || decide (ds.length = 3)) && (ds.all pairD && (ds.all (fun p => numD (sndD p)) && ofD ss (.tup (ds.map fstD))))
  | _ => false
def namesD : D → List Str
  | .tup ds => (unS ds).getD []
  | _ => []
def netD : D → Bool
  | .tup [a, .tup bs] => shaftsD a && (decide (bs.length ≤ 8) && bs.all (boxD (namesD a)))
  | _ => false
theorem unS_map (xs : List Str) : unS (xs.map dS) = some xs := by
  induction xs with
  | nil => rfl
  | cons x xs ih => simp only [List.map_cons, dS, unS]; rw [show unS (List.map dS xs) = some xs from ih]
theorem unS_eq : ∀ {ds : List D} {xs : List Str}, unS ds = some xs → ds = xs.map dS
  | [], _, h => by cases h; rfl
  | .str y :: r, _, h => by
    unfold unS at h
    split at h
    · rename_i b e
      cases h
      rw [unS_eq e]; rfl
    · cases h
theorem names_un : ∀ {ds : List D}, ds.all nameD = true → ∃ xs, unS ds = some xs
  | [], _ => ⟨[], rfl⟩
  | .str y :: r, h => by
    obtain ⟨xs, e⟩ := names_un (ds := r) (by simp at h; simpa using h.2)
    exact ⟨y :: xs, by unfold unS; rw [e]⟩
  | .non :: r, h => by simp [nameD] at h
  | .bl _ :: r, h => by simp [nameD] at h
  | .int _ :: r, h => by simp [nameD] at h
  | .tup _ :: r, h => by simp [nameD] at h
  | .lst _ :: r, h => by simp [nameD] at h
  | .dct _ :: r, h => by simp [nameD] at h
  | .raw _ :: r, h => by simp [nameD] at h
  | .scr _ :: r, h => by simp [nameD] at h
theorem in_un {ss : List Str} : ∀ {ds : List D}, ds.all (inD ss) = true → ∃ xs, unS ds = some xs
  | [], _ => ⟨[], rfl⟩
  | .str y :: r, h => by
    obtain ⟨xs, e⟩ := in_un (ds := r) (by simp at h; simpa using h.2)
    exact ⟨y :: xs, by unfold unS; rw [e]⟩
  | .non :: r, h => by simp [inD] at h
  | .bl _ :: r, h => by simp [inD] at h
  | .int _ :: r, h => by simp [inD] at h
  | .tup _ :: r, h => by simp [inD] at h
  | .lst _ :: r, h => by simp [inD] at h
  | .dct _ :: r, h => by simp [inD] at h
  | .raw _ :: r, h => by simp [inD] at h
  | .scr _ :: r, h => by simp [inD] at h

theorem fracD_ne {ds : List D} (h : ds.length ≠ 2) : fracD (.tup ds) = false := by
  unfold fracD
  split
  · rename_i e; cases e; exact absurd rfl h
  · rfl
theorem unB_map (bs : List Bool) : unB (bs.map D.bl) = some bs := by
  induction bs with
  | nil => rfl
  | cons b bs ih => simp only [List.map_cons, unB, ih]
theorem allB_map {α : Type} (f : α → Bool) (l : List α) : allB (l.map f) = l.all f := by
  induction l with
  | nil => rfl
  | cons a l ih => simp [allB, ih]
theorem unB_of {α : Type} (f : α → Bool) (l : List α) : unB (l.map fun x => D.bl (f x)) = some (l.map f) := by
  rw [show (l.map fun x => D.bl (f x)) = (l.map f).map D.bl by rw [List.map_map]; rfl]
  exact unB_map _

theorem memS_map (x : Str) : ∀ ss : List Str, memS x (ss.map dS) = some (decide (x ∈ ss))
  | [] => rfl
  | y :: ss => by
    simp only [List.map_cons, dS, memS]
    rw [show memS x (List.map dS ss) = some (decide (x ∈ ss)) from memS_map x ss]
    dsimp only
    congr 1
    rw [Bool.eq_iff_iff]
    simp only [Bool.or_eq_true, decide_eq_true_eq, List.mem_cons]
    constructor
    · rintro (h | h)
      · exact .inl h.symm
      · exact .inr h
    · rintro (h | h)
      · exact .inl h.symm
      · exact .inr h

theorem len_two {α : Type} : ∀ {l : List α}, l.length = 2 → ∃ a b, l = [a, b]
  | [a, b], _ => ⟨a, b, rfl⟩
  | [], h => by simp at h
  | [_], h => by simp at h
  | _ :: _ :: _ :: _, h => by simp at h

/-! ### specs -/
def sp_is_whole : Spec := fun args own Q _ => ∃ (d : D) (lo hi : Int) (n : Nat), args = [.d d, .d (.int lo), .d (.int hi)] ∧ own = [] ∧ small n d = true ∧ Q (.d (.bl (wholeD lo hi d))) []
theorem len_is_whole {args own Q E} (z : sp_is_whole args own Q E) : args.length = 3 := by obtain ⟨a, b, c, n, rfl, _⟩ := z; rfl
def spD (f : D → Bool) : Spec := fun args own Q _ => ∃ (d : D) (n : Nat), args = [.d d] ∧ own = [] ∧ small n d = true ∧ n ≤ 60 ∧ Q (.d (.bl (f d))) []
theorem len_spD {f args own Q E} (z : spD f args own Q E) : args.length = 1 := by obtain ⟨a, n, rfl, _⟩ := z; rfl
def sp_is_fraction : Spec := spD fracD
theorem len_is_fraction {args own Q E} (z : sp_is_fraction args own Q E) : args.length = 1 := len_spD z
def sp_is_name : Spec := spD nameD
theorem len_is_name {args own Q E} (z : sp_is_name args own Q E) : args.length = 1 := len_spD z
def sp_are_shafts : Spec := spD shaftsD
theorem len_are_shafts {args own Q E} (z : sp_are_shafts args own Q E) : args.length = 1 := len_spD z
def sp_is_net : Spec := spD netD
theorem len_is_net {args own Q E} (z : sp_is_net args own Q E) : args.length = 1 := len_spD z
def sp_are_rising : Spec := fun args own Q _ => ∃ xs : List Str, args = [.d (.tup (xs.map dS))] ∧ own = [] ∧ xs.length ≤ 1000 ∧ Q (.d (.bl (risingS xs))) []
theorem len_are_rising {args own Q E} (z : sp_are_rising args own Q E) : args.length = 1 := by obtain ⟨a, rfl, _⟩ := z; rfl
def spSD (f : List Str → D → Bool) : Spec := fun args own Q _ => ∃ (ss : List Str) (d : D) (n : Nat), args = [.d (.tup (ss.map dS)), .d d] ∧ own = [] ∧ small n d = true ∧ n ≤ 60 ∧ Q (.d (.bl (f ss d))) []
theorem len_spSD {f args own Q E} (z : spSD f args own Q E) : args.length = 2 := by obtain ⟨a, b, n, rfl, _⟩ := z; rfl
def sp_are_of : Spec := fun args own Q _ => ∃ (ss : List Str) (d : D) (n : Nat), args = [.d (.tup (ss.map dS)), .d d] ∧ own = [] ∧ small n d = true ∧ n ≤ 60 ∧ Q (.d (.bl (ofD ss d))) []
theorem len_are_of {args own Q E} (z : sp_are_of args own Q E) : args.length = 2 := by obtain ⟨a, b, n, rfl, _⟩ := z; rfl
def sp_is_box : Spec := spSD boxD
theorem len_is_box {args own Q E} (z : sp_is_box args own Q E) : args.length = 2 := len_spSD z
end Bx
end

section
/-! Nets: rows, sums. -/
namespace Bx
open PySem L2

structure Net where
  shafts : List Str
  boxes : List (List (Str × Int))
def dPair (p : Str × Int) : D := .tup [.str p.1, .int p.2]
def dBox (b : List (Str × Int)) : D := .tup (b.map dPair)
def dNet (N : Net) : D := .tup [.tup (N.shafts.map dS), .tup (N.boxes.map dBox)]
def kvsB (b : List (Str × Int)) : List (Key × D) := b.map fun p => (.inr p.1, .int p.2)
def intD : Option D → Int
  | some (.int n) => n
  | _ => 0
def coef (b : List (Str × Int)) (s : Str) : Int := intD (look (.inr s) (mergeD [] (kvsB b)))
theorem prs_box (b : List (Str × Int)) : prsD (b.map dPair) = some (kvsB b) := by
  induction b with
  | nil => rfl
  | cons p b ih => simp only [List.map_cons, dPair, prsD, keyD]; rw [show prsD (List.map dPair b) = some (kvsB b) from ih]; rfl
theorem dQ_int (n : Int) : dQ (n : Rat) = .tup [.int n, .int 1] := rfl
/-- what a merge of tables holds -/
theorem look_merge (k : Key) : ∀ (more acc : List (Key × D)), look k (mergeD acc more) = more.foldl (fun o kv => if k = kv.1 then some kv.2 else o) (look k acc)
  | [], _ => rfl
  | (j, x) :: more, acc => by
    show look k (mergeD (putD acc j x) more) = _
    rw [look_merge k more, look_put]; rfl
theorem look_box (b : List (Str × Int)) (s : Str) : look (.inr s) (mergeD [] (kvsB b)) = (b.foldl (fun o p => if s = p.1 then some p.2 else o) none).map D.int := by
  rw [look_merge]
  have h : ∀ (b : List (Str × Int)) (o : Option Int), (kvsB b).foldl (fun o kv => if (Sum.inr s : Key) = kv.1 then some kv.2 else o) (o.map D.int) = (b.foldl (fun o p => if s = p.1 then some p.2 else o) o).map D.int := by
    intro b
    induction b with
    | nil => intro o; rfl
    | cons p b ih =>
      intro o
      simp only [kvsB, List.map_cons, List.foldl_cons]
      rw [show (if (Sum.inr s : Key) = Sum.inr p.1 then some (D.int p.2) else o.map D.int) = (if s = p.1 then some p.2 else o).map D.int by
        by_cases e : s = p.1
        · rw [if_pos e, if_pos (by rw [e])]; rfl
        · rw [if_neg e, if_neg (fun z => e (Sum.inr.inj z))]]
      exact ih _
  exact h b none
theorem get_box (b : List (Str × Int)) (s : Str) : (look (.inr s) (mergeD [] (kvsB b))).getD (.int 0) = .int (coef b s) := by
  unfold coef
  rw [look_box]
  cases b.foldl (fun o p => if s = p.1 then some p.2 else o) none <;> rfl
def rowOf (b : List (Str × Int)) (ss : List Str) : List Rat := ss.map fun s => ((coef b s : Int) : Rat)
def rowsOf (N : Net) (ss : List Str) : List (List Rat) := N.boxes.map fun b => rowOf b ss
def colOf (R : List (List Rat)) (k : Nat) : List Rat := R.map fun r => el r k
def fracsD (m : Nat) : D → Bool
  | .tup ds => decide (ds.length = m) && ds.all fracD
  | _ => false
theorem boxD_len {n : Nat} : memQ (.int (n : Nat)) [.int 2, .int 3] = (decide (n = 2) || decide (n = 3)) := by
  unfold memQ
  simp only [List.any_cons, List.any_nil, deq, Bool.or_false]
  rw [Bool.eq_iff_iff]
  simp only [Bool.or_eq_true, beq_iff_eq, decide_eq_true_eq]
  constructor
  · rintro (h | h)
    · exact .inl (by omega)
    · exact .inr (by omega)
  · rintro (h | h)
    · exact .inl (by omega)
    · exact .inr (by omega)
theorem pairs_eq {ds : List D} (h : ds.all pairD = true) : ∃ ps : List (D × D), ds = ps.map fun p => .tup [p.1, p.2] := by
  induction ds with
  | nil => exact ⟨[], rfl⟩
  | cons d ds ih =>
    simp at h
    obtain ⟨ps, e⟩ := ih (by simpa using h.2)
    have hd := h.1
    unfold pairD at hd
    split at hd
    · rename_i a b
      exact ⟨(a, b) :: ps, by rw [e]; rfl⟩
    · cases hd
theorem pairD_len {d : D} : pairD d = (isTupD d && match d with | .tup ds => decide (ds.length = 2) | _ => false) := by
  cases d with
  | tup ds =>
    rcases ds with _ | ⟨a, _ | ⟨b, _ | ⟨c, r⟩⟩⟩ <;> simp [pairD, isTupD]
  | _ => rfl
theorem numD_eq (d : D) : numD d = (wholeD (-20) 20 d && !deq d (.int 0)) := rfl

/-! ### specs -/
def sp_need_net : Spec := fun args own Q _ => ∃ (d : D) (n : Nat), args = [.d d] ∧ own = [] ∧ small n d = true ∧ n ≤ 60 ∧ netD d = true ∧ Q (.d .non) []
theorem len_need_net {args own Q E} (z : sp_need_net args own Q E) : args.length = 1 := by obtain ⟨a, n, rfl, _⟩ := z; rfl
def sp_need_shaft : Spec := fun args own Q _ => ∃ (ss : List Str) (x : Str) (b : D), args = [.d (.tup [.tup (ss.map dS), b]), .d (.str x)] ∧ own = [] ∧ x ∈ ss ∧ Q (.d .non) []
theorem len_need_shaft {args own Q E} (z : sp_need_shaft args own Q E) : args.length = 2 := by obtain ⟨a, n, b, rfl, _⟩ := z; rfl
def sp_rows_of : Spec := fun args own Q _ => ∃ (N : Net) (ss : List Str) (k : Bool), args = [.d (dNet N), .d (sq k (ss.map dS))] ∧ own = [] ∧ N.boxes.length ≤ 1000 ∧ Q (.d (.lst ((rowsOf N ss).map dV))) []
theorem len_rows_of {args own Q E} (z : sp_rows_of args own Q E) : args.length = 2 := by obtain ⟨a, n, b, rfl, _⟩ := z; rfl
def sp_are_fractions : Spec := fun args own Q _ => ∃ (d : D) (m n : Nat), args = [.d d, .d (dN m)] ∧ own = [] ∧ small n d = true ∧ n ≤ 60 ∧ Q (.d (.bl (fracsD m d))) []
theorem len_are_fractions {args own Q E} (z : sp_are_fractions args own Q E) : args.length = 2 := by obtain ⟨a, n, b, rfl, _⟩ := z; rfl
def sumFor (N : Net) (ys : List Rat) : List Rat := (List.range N.shafts.length).map fun k => dotA 0 (colOf (rowsOf N N.shafts) k) ys
def sp_sum_for : Spec := fun args own Q _ => ∃ (N : Net) (ys : List Rat), args = [.d (dNet N), .d (.tup (ys.map dQ))] ∧ own = [] ∧ N.boxes.length ≤ 1000 ∧ N.shafts.length ≤ 1000 ∧ (∀ k, k < N.shafts.length → DotOk 0 (colOf (rowsOf N N.shafts) k) ys) ∧ Q (.d (.tup ((sumFor N ys).map dQ))) []
theorem len_sum_for {args own Q E} (z : sp_sum_for args own Q E) : args.length = 2 := by obtain ⟨a, n, rfl, _⟩ := z; rfl
end Bx
end

section
/-! Hands: specs, and what they mean. -/
namespace Bx
open PySem L2

/-! ### valid nets -/
structure NetOk (N : Net) : Prop where
  ok : netD (dNet N) = true
  sm : small 10 (dNet N) = true
theorem NetOk.parts {N : Net} (h : NetOk N) : shaftsD (.tup (N.shafts.map dS)) = true ∧ N.boxes.length ≤ 8 ∧ ∀ b ∈ N.boxes, boxD N.shafts (dBox b) = true := by
  have := h.ok
  unfold dNet netD at this
  simp only [Bool.and_eq_true, decide_eq_true_eq] at this
  obtain ⟨h1, h2, h3⟩ := this
  refine ⟨h1, by simpa using h2, fun b hb => ?_⟩
  rw [List.all_map, List.all_eq_true] at h3
  have := h3 b hb
  simp only [Function.comp] at this
  rw [show namesD (.tup (N.shafts.map dS)) = N.shafts by show (unS (N.shafts.map dS)).getD [] = _; rw [unS_map]; rfl] at this
  exact this
theorem NetOk.few {N : Net} (h : NetOk N) : 1 ≤ N.shafts.length ∧ N.shafts.length ≤ 8 := by
  have := h.parts.1
  unfold shaftsD at this
  simp only [Bool.and_eq_true, decide_eq_true_eq, List.length_map] at this
  exact this.1
theorem coef_le {ss : List Str} {b : List (Str × Int)} (h : boxD ss (dBox b) = true) (s : Str) : (coef b s).natAbs ≤ 20 := by
  unfold dBox boxD at h
  simp only [Bool.and_eq_true] at h
  have h2 := h.2.2.1
  rw [List.all_map, List.all_eq_true] at h2
  unfold coef
  rw [look_box]
  have g : ∀ (l : List (Str × Int)) (o : Option Int), (∀ p ∈ l, p ∈ b) → (∀ n, o = some n → n.natAbs ≤ 20) → ∀ n, l.foldl (fun o p => if s = p.1 then some p.2 else o) o = some n → n.natAbs ≤ 20 := by
    intro l
    induction l with
    | nil => intro o _ ho n hn; exact ho n hn
    | cons p l ih =>
      intro o hl ho n hn
      refine ih _ (fun q hq => hl q (List.mem_cons_of_mem _ hq)) (fun m hm => ?_) n hn
      dsimp only at hm
      split at hm
      · cases hm
        have := h2 p (hl p List.mem_cons_self)
        simp only [Function.comp, numD, dPair, sndD, wholeD, Bool.and_eq_true, decide_eq_true_eq] at this
        omega
      · exact ho m hm
  cases e : b.foldl (fun o p => if s = p.1 then some p.2 else o) none with
  | none => simp [intD]
  | some n => exact g b none (fun _ h => h) (fun n h => by cases h) n e
theorem cR_rows {N : Net} {ss : List Str} {k j : Nat} (hk : k < N.boxes.length) (hj : j < ss.length) : cR (rowsOf N ss) k j = ((coef (N.boxes.getD k []) (ss.getD j default) : Int) : Rat) := by
  unfold cR rowsOf rowOf
  rw [List.getD, List.getElem?_map, List.getElem?_eq_getElem hk, Option.map_some, Option.getD_some]
  apply el_get
  simp [List.getD, List.getElem?_eq_getElem hk, List.getElem?_map, List.getElem?_eq_getElem hj]
theorem cd_int {n : Int} {M : Nat} (h : n.natAbs ≤ M) : Cd M 1 ((n : Int) : Rat) := ⟨n, h, by grind⟩
theorem rowsIn_net {N : Net} (h : NetOk N) (ss : List Str) : RowsIn (rowsOf N ss) ss.length 20 := by
  refine ⟨fun r hr => ?_, 1, by decide, by decide, fun k hk j hj => ?_⟩
  · unfold rowsOf at hr
    obtain ⟨b, _, rfl⟩ := List.mem_map.mp hr
    unfold rowOf; rw [List.length_map]
  · have hk : k < N.boxes.length := by unfold rowsOf at hk; rw [List.length_map] at hk; exact hk
    rw [cR_rows hk hj]
    refine cd_int (coef_le (h.parts.2.2 _ ?_) _)
    rw [List.getD, List.getElem?_eq_getElem hk]
    exact List.getElem_mem hk

/-! ### hands -/
abbrev Hands := List (Str × Rat)
def dHand (p : Str × Rat) : D := .tup [.str p.1, dQ p.2]
def dHands (h : Hands) : D := .tup (h.map dHand)
def pairsD (ss : List Str) : D → Bool
  | .tup ds => ds.all pairD && (ds.all (fun p => fracD (sndD p)) && ofD ss (.tup (ds.map fstD)))
  | _ => false
def takenOf (h : Hands) : List Str := h.map (·.1)
def speedsOf (h : Hands) : List Rat := h.map (·.2)
def looseOf (N : Net) (h : Hands) : List Str := N.shafts.filter fun s => decide (s ∉ takenOf h)
structure HandsOk (N : Net) (h : Hands) : Prop where
  ok : pairsD N.shafts (dHands h) = true
  sm : small 10 (dHands h) = true
  bd : ∃ d, 0 < d ∧ d ≤ 2 ^ 1000 ∧ ∀ q ∈ speedsOf h, Cd (2 ^ 1000) d q
def endsOf (N : Net) (h : Hands) : List Rat := (rowsOf N (takenOf h)).map fun r => 0 - dotA 0 r (speedsOf h)

/-! ### specs -/
def sp_are_pairs : Spec := spSD pairsD
theorem len_are_pairs {args own Q E} (z : sp_are_pairs args own Q E) : args.length = 2 := len_spSD z
def sp_need_hands : Spec := fun args own Q _ => ∃ (N : Net) (h : Hands), args = [.d (dNet N), .d (dHands h)] ∧ own = [] ∧ NetOk N ∧ HandsOk N h ∧ Q (.d .non) []
theorem len_need_hands {args own Q E} (z : sp_need_hands args own Q E) : args.length = 2 := by obtain ⟨a, n, rfl, _⟩ := z; rfl
def sp_open_shafts : Spec := fun args own Q _ => ∃ (N : Net) (h : Hands), args = [.d (dNet N), .d (dHands h)] ∧ own = [] ∧ Q (.d (.lst ((looseOf N h).map dS))) []
theorem len_open_shafts {args own Q E} (z : sp_open_shafts args own Q E) : args.length = 2 := by obtain ⟨a, n, rfl, _⟩ := z; rfl
/-- the sizes that come of nets -/
def gN : Nat := gr 20 8
def bN : Nat := sizeB 8 gN (2 ^ 1020)
structure BarOk (N : Net) (h : Hands) (t : List Rat) : Prop where
  len : t.length = N.boxes.length
  bar : ∀ x : Nat → Rat, sumN N.boxes.length (fun i => el t i * sumN (looseOf N h).length fun j => cR (rowsOf N (looseOf N h)) i j * x j) = 0
  ne : dotA 0 t (endsOf N h) ≠ 0
  bd : BdT N.boxes.length t gN
structure WaysOk (N : Net) (h : Hands) (found : List Rat) (lot : List (List Rat)) (Fr : List Nat) : Prop where
  ok : SolOk (rowsOf N (looseOf N h)) (endsOf N h) (looseOf N h).length found lot Fr
  bd : BdL (looseOf N h).length found lot gN bN
def sp_ways : Spec := fun args own Q _ => ∃ (N : Net) (h : Hands), args = [.d (dNet N), .d (dHands h)] ∧ own = [] ∧ NetOk N ∧ HandsOk N h ∧
  (∀ t, BarOk N h t → Q (.d (.tup [.non, dV t])) []) ∧ (∀ found lot Fr, WaysOk N h found lot Fr → Q (.d (.tup [dV found, .lst (lot.map dV)])) [])
theorem len_ways {args own Q E} (z : sp_ways args own Q E) : args.length = 2 := by obtain ⟨a, n, rfl, _⟩ := z; rfl
def kvsH (h : Hands) : List (Key × D) := h.map fun p => (.inr p.1, dQ p.2)
def wholeF (N : Net) (h : Hands) (vals : List D) : List D := N.shafts.map fun s => (look (.inr s) (mergeD (mergeD [] (kvsH h)) (mergeD [] (zipK ((looseOf N h).map fun s => .inr s) vals)))).getD .non
def sp_whole_turning : Spec := fun args own Q _ => ∃ (N : Net) (h : Hands) (vals : List D), args = [.d (dNet N), .d (dHands h), .d (.lst vals)] ∧ own = [] ∧ vals.length = (looseOf N h).length ∧ N.shafts.length ≤ 1000 ∧ h.length ≤ 1000 ∧ Q (.d (.tup (wholeF N h vals))) []
theorem len_whole_turning {args own Q E} (z : sp_whole_turning args own Q E) : args.length = 3 := by obtain ⟨a, n, v, rfl, _⟩ := z; rfl
def settledD (found : List Rat) (lot : List (List Rat)) : List D := (List.range found.length).map fun k => if lot.all (fun v => decide (el v k = 0)) = true then dQ (el found k) else .non
def barS : Str := "bar"
def turnS : Str := "turn"
inductive TurnOut (N : Net) (h : Hands) : D → Prop
  | bar (t : List Rat) (b : BarOk N h t) : TurnOut N h (.tup [.str barS, .tup (t.map dQ)])
  | turn (found : List Rat) (lot : List (List Rat)) (Fr : List Nat) (s : WaysOk N h found lot Fr) : TurnOut N h (.tup [.str turnS, .tup (wholeF N h (settledD found lot))])
def spTurn : Spec := fun args own Q _ => ∃ (N : Net) (h : Hands), args = [.d (dNet N), .d (dHands h)] ∧ own = [] ∧ NetOk N ∧ HandsOk N h ∧ ∀ out, TurnOut N h out → Q (.d out) []
theorem len_spTurn {args own Q E} (z : spTurn args own Q E) : args.length = 2 := by obtain ⟨a, n, rfl, _⟩ := z; rfl
def sp_turned_by : Spec := spTurn
theorem len_turned_by {args own Q E} (z : sp_turned_by args own Q E) : args.length = 2 := len_spTurn z
def sp_turned : Spec := spTurn
theorem len_turned {args own Q E} (z : sp_turned args own Q E) : args.length = 2 := len_spTurn z
end Bx
end

section
/-! Hands: sizes; tables. -/
namespace Bx
open PySem L2
theorem gN_lt : gN < 2 ^ 1900 := by decide +kernel
theorem NetOk.gr {N : Net} (h : NetOk N) (n : Nat) : gr 20 (min n N.boxes.length) ≤ gN := gr_mono (by decide) (by have := h.parts.2.1; omega)
theorem HandsOk.len {N : Net} {h : Hands} (H : HandsOk N h) : h.length ≤ 1000 := by
  obtain ⟨m, _, hl, _⟩ := small_tup H.sm
  rw [List.length_map] at hl; exact hl
theorem row_mem {N : Net} (h : NetOk N) {ss : List Str} {r : List Rat} (hr : r ∈ rowsOf N ss) : r.length = ss.length ∧ ∀ q ∈ r, Cd 20 1 q := by
  unfold rowsOf at hr
  obtain ⟨b, hb, rfl⟩ := List.mem_map.mp hr
  refine ⟨by unfold rowOf; rw [List.length_map], fun q hq => ?_⟩
  unfold rowOf at hq
  obtain ⟨s, _, rfl⟩ := List.mem_map.mp hq
  exact cd_int (coef_le (h.parts.2.2 b hb) s)
theorem hands_dot {N : Net} {h : Hands} (hN : NetOk N) (H : HandsOk N h) : ∃ d, 0 < d ∧ d ≤ 2 ^ 1020 ∧ ∀ r ∈ rowsOf N (takenOf h), DotOk 0 r (speedsOf h) ∧ Cd (2 ^ 1020) d (dotA 0 r (speedsOf h)) := by
  obtain ⟨d, d0, dm, hd⟩ := H.bd
  refine ⟨1 * d, by omega, by rw [Nat.one_mul]; exact Nat.le_trans dm (Nat.pow_le_pow_right (by decide) (by decide)), fun r hr => ?_⟩
  obtain ⟨hl, hc⟩ := row_mem hN hr
  have hlen := H.len
  refine dot_cd (M := 20) (Me := 2 ^ 1000) (by decide) d0 (by decide) dm (by decide) (by decide) (by decide) (by decide) _ _ 0 0 ?_ hc hd ⟨0, by simp, by grind⟩ ?_
  · rw [hl]; unfold takenOf speedsOf; rw [List.length_map, List.length_map]
  · rw [hl]
    have e : (takenOf h).length = h.length := by unfold takenOf; rw [List.length_map]
    rw [e, Nat.zero_add]
    refine Nat.le_trans (Nat.mul_le_mul_right _ hlen) ?_
    decide
theorem ends_in {N : Net} {h : Hands} (hN : NetOk N) (H : HandsOk N h) : EndsIn (endsOf N h) (2 ^ 1020) := by
  obtain ⟨d, d0, dm, hd⟩ := hands_dot hN H
  refine ⟨d, d0, dm, fun q hq => ?_⟩
  unfold endsOf at hq
  obtain ⟨r, hr, rfl⟩ := List.mem_map.mp hq
  exact (hd r hr).2.neg
theorem ends_len {N : Net} {h : Hands} : (endsOf N h).length = N.boxes.length := by unfold endsOf rowsOf; rw [List.length_map, List.length_map]
theorem rows_len {N : Net} {ss : List Str} : (rowsOf N ss).length = N.boxes.length := by unfold rowsOf; rw [List.length_map]
theorem loose_le {N : Net} {h : Hands} : (looseOf N h).length ≤ N.shafts.length := List.length_filter_le _ _
theorem sizeB_mono {n n' M M' Me : Nat} (h1 : n ≤ n') (h2 : M ≤ M') : sizeB n M Me ≤ sizeB n' M' Me := Nat.mul_le_mul (by omega) (Nat.mul_le_mul_right _ h2)

/-! ### tables of distinct keys -/
theorem look_none {k : Key} : ∀ {kvs : List (Key × D)}, k ∉ kvs.map (·.1) → look k kvs = none
  | [], _ => rfl
  | (j, d) :: r, h => by
    simp only [List.map_cons, List.mem_cons, not_or] at h
    simp only [look]
    rw [if_neg (Ne.symm h.1)]
    exact look_none h.2
theorem look_mem {k : Key} : ∀ {kvs : List (Key × D)} {d : D}, look k kvs = some d → (k, d) ∈ kvs
  | (j, x) :: r, d, h => by
    simp only [look] at h
    split at h
    · rename_i e; cases h; subst e; exact List.mem_cons_self
    · exact List.mem_cons_of_mem _ (look_mem h)
theorem look_of {k : Key} {d : D} : ∀ {kvs : List (Key × D)}, (kvs.map (·.1)).Nodup → (k, d) ∈ kvs → look k kvs = some d
  | (j, x) :: r, nd, h => by
    simp only [List.map_cons, List.nodup_cons] at nd
    simp only [look]
    rcases List.mem_cons.mp h with e | h
    · cases e; rw [if_pos rfl]
    · rw [if_neg, look_of nd.2 h]
      rintro rfl
      exact nd.1 (List.mem_map.mpr ⟨_, h, rfl⟩)
theorem look_mergeN (k : Key) : ∀ (more acc : List (Key × D)), (more.map (·.1)).Nodup → look k (mergeD acc more) = (look k more).or (look k acc)
  | [], acc, _ => by simp [mergeD, look]
  | (j, x) :: more, acc, nd => by
    simp only [List.map_cons, List.nodup_cons] at nd
    show look k (mergeD (putD acc j x) more) = _
    rw [look_mergeN k more _ nd.2, look_put]
    simp only [look]
    by_cases e : j = k
    · subst e
      rw [if_pos rfl, if_pos rfl, look_none nd.1]; rfl
    · rw [if_neg (Ne.symm e), if_neg e]
theorem mergeD_length (more acc : List (Key × D)) : (mergeD acc more).length ≤ acc.length + more.length := by
  induction more generalizing acc with
  | nil => exact Nat.le_refl _
  | cons p more ih =>
    have h1 := ih (putD acc p.1 p.2)
    have h2 : (putD acc p.1 p.2).length ≤ acc.length + 1 := by
      unfold putD
      split
      · rw [List.length_map]; omega
      · rw [List.length_append]; exact Nat.le_refl _
    show (mergeD (putD acc p.1 p.2) more).length ≤ _
    rw [List.length_cons]; omega
theorem keysD_names (ss : List Str) : keysD (ss.map dS) = some (ss.map fun s => .inr s) := by
  induction ss with
  | nil => rfl
  | cons s ss ih => simp only [List.map_cons, keysD, dS, keyD]; rw [show keysD (List.map dS ss) = some (ss.map fun s => Sum.inr s) from ih]
theorem prs_hands (h : Hands) : prsD (h.map dHand) = some (kvsH h) := by
  induction h with
  | nil => rfl
  | cons p b ih => simp only [List.map_cons, dHand, prsD, keyD]; rw [show prsD (List.map dHand b) = some (kvsH b) from ih]; rfl
/-- which keys a merged table has -/
theorem look_some_mem {k : Key} : ∀ (more acc : List (Key × D)), (look k acc).isSome = true ∨ k ∈ more.map (·.1) → (look k (mergeD acc more)).isSome = true
  | [], acc, h => by
    rcases h with h | h
    · exact h
    · cases h
  | (j, x) :: more, acc, h => by
    show (look k (mergeD (putD acc j x) more)).isSome = true
    refine look_some_mem more _ ?_
    rw [look_put]
    by_cases e : k = j
    · rw [if_pos e]; exact .inl rfl
    · rw [if_neg e]
      rcases h with h | h
      · exact .inl h
      · simp only [List.map_cons, List.mem_cons] at h
        rcases h with h | h
        · exact absurd h e
        · exact .inr h
theorem zipK_keys {α : Type} : ∀ {ks : List Key} {ds : List α}, ks.length = ds.length → (zipK ks ds).map (·.1) = ks
  | [], [], _ => rfl
  | k :: ks, d :: ds, h => by simp only [zipK, List.map_cons]; rw [zipK_keys (by simpa using h)]
  | [], _ :: _, h => by simp at h
  | _ :: _, [], h => by simp at h
end Bx
end

section
/-! bars, reason, two ways: specs. -/
namespace Bx
open PySem L2
theorem ltS_trans {a b c : Str} (h1 : ltS a b = true) (h2 : ltS b c = true) : ltS a c = true := by
  unfold ltS at *
  exact decide_eq_true (List.lt_trans (of_decide_eq_true h1) (of_decide_eq_true h2))
theorem ltS_ne {a b : Str} (h : ltS a b = true) : a ≠ b := by
  rintro rfl
  unfold ltS at h
  exact List.lt_irrefl _ (of_decide_eq_true h)
theorem rising_at {xs : List Str} (h : risingS xs = true) {i : Nat} (hi : i + 1 < xs.length) : ltS (xs[i]'(by omega)) xs[i + 1] = true := by
  unfold risingS at h
  rw [List.all_eq_true] at h
  have := h i (by rw [List.mem_range]; omega)
  simpa [List.getD, List.getElem?_eq_getElem hi, List.getElem?_eq_getElem (show i < xs.length by omega)] using this
theorem rising_lt {xs : List Str} (h : risingS xs = true) : ∀ (d i : Nat) (hd : i + d + 1 < xs.length), ltS (xs[i]'(by omega)) (xs[i + d + 1]) = true
  | 0, i, hd => rising_at h hd
  | d + 1, i, hd => ltS_trans (rising_lt h d i (by omega)) (rising_at h (i := i + d + 1) hd)
theorem rising_nodup {xs : List Str} (h : risingS xs = true) : xs.Nodup := by
  rw [List.nodup_iff_pairwise_ne, List.pairwise_iff_getElem]
  intro i j hi hj hij
  have := rising_lt h (j - i - 1) i (by omega)
  have e : i + (j - i - 1) + 1 = j := by omega
  simp only [e] at this
  exact ltS_ne this
theorem NetOk.nodup {N : Net} (h : NetOk N) : N.shafts.Nodup := by
  have := h.parts.1
  unfold shaftsD risingD at this
  dsimp only at this
  rw [unS_map] at this
  simp only [Bool.and_eq_true] at this
  exact rising_nodup this.2.2
theorem hands_of {N : Net} {h : Hands} (H : HandsOk N h) : (∀ s ∈ takenOf h, s ∈ N.shafts) ∧ (takenOf h).Nodup := by
  have := H.ok
  unfold dHands pairsD ofD risingD at this
  simp only [Bool.and_eq_true] at this
  have e : ((h.map dHand).map fstD) = (takenOf h).map dS := by unfold takenOf; rw [List.map_map, List.map_map]; rfl
  rw [e, unS_map] at this
  refine ⟨fun s hs => ?_, rising_nodup this.2.2.2⟩
  have h2 := this.2.2.1
  rw [List.all_eq_true] at h2
  have := h2 (dS s) (List.mem_map.mpr ⟨s, hs, rfl⟩)
  exact of_decide_eq_true this
def unQ : D → Rat
  | .tup [.int a, .int b] => Rat.divInt a b
  | _ => 0
theorem frac_un {d : D} (h : fracD d = true) : d = dQ (unQ d) := by
  unfold fracD at h
  split at h
  · rename_i a b
    simp only [Bool.and_eq_true, decide_eq_true_eq] at h
    obtain ⟨hb, hg⟩ := h
    have hb0 : b ≠ 0 := by omega
    obtain ⟨e1, e2⟩ := frac_num a b hb0
    rw [hg, if_pos hb] at e1 e2
    show D.tup [.int a, .int b] = dQ (Rat.divInt a b)
    unfold dQ
    rw [e1, e2]
    simp
  · cases h
theorem unQ_dQ (q : Rat) : unQ (dQ q) = q := by
  show Rat.divInt q.num (q.den : Nat) = q
  exact Rat.num_divInt_den q
theorem frac_dQ (q : Rat) : fracD (dQ q) = true := by
  show (decide (0 < ((q.den : Nat) : Int)) && decide (Nat.gcd q.num.natAbs ((q.den : Nat) : Int).natAbs = 1)) = true
  rw [decide_eq_true (by have := q.den_pos; omega), decide_eq_true (by simpa using q.reduced)]; rfl
theorem fracs_un {m : Nat} {d : D} (h : fracsD m d = true) : ∃ ys : List Rat, d = .tup (ys.map dQ) ∧ ys.length = m := by
  unfold fracsD at h
  split at h
  · rename_i ds
    simp only [Bool.and_eq_true, decide_eq_true_eq] at h
    refine ⟨ds.map unQ, ?_, by rw [List.length_map]; exact h.1⟩
    rw [List.map_map]
    congr 1
    have h2 := List.all_eq_true.mp h.2
    symm
    refine (List.map_congr_left fun d hd => ?_).trans (List.map_id ds)
    exact (frac_un (h2 d hd)).symm
  · cases h
theorem fracs_dQ (ys : List Rat) (m : Nat) : fracsD m (.tup (ys.map dQ)) = decide (ys.length = m) := by
  unfold fracsD
  dsimp only
  rw [List.length_map]
  have : (ys.map dQ).all fracD = true := by
    rw [List.all_eq_true]
    intro d hd
    obtain ⟨q, _, rfl⟩ := List.mem_map.mp hd
    exact frac_dQ q
  rw [this, Bool.and_true]
/-- the sum at one shaft -/
def partAt (N : Net) (ys : List Rat) (s : Str) : Rat := dotA 0 (N.boxes.map fun b => ((coef b s : Int) : Rat)) ys
theorem col_eq {N : Net} {ss : List Str} {k : Nat} {s : Str} (h : ss[k]? = some s) : colOf (rowsOf N ss) k = N.boxes.map fun b => ((coef b s : Int) : Rat) := by
  unfold colOf rowsOf
  rw [List.map_map]
  apply List.map_congr_left
  intro b _
  show el (rowOf b ss) k = _
  unfold rowOf
  apply el_get
  rw [List.getElem?_map, h]; rfl
def barV (N : Net) (h : Hands) (ys : List Rat) : Bool := ((looseOf N h).all fun s => decide (partAt N ys s = 0)) && !decide (dotA 0 ((takenOf h).map (partAt N ys)) (speedsOf h) = 0)
def BarsIn (N : Net) (h : Hands) (ys : List Rat) : Prop := (∀ s ∈ N.shafts, DotOk 0 (N.boxes.map fun b => ((coef b s : Int) : Rat)) ys) ∧ DotOk 0 ((takenOf h).map (partAt N ys)) (speedsOf h)
def ratsD : D → List Rat
  | .tup ds => ds.map unQ
  | _ => []
theorem rats_dQ (ys : List Rat) : ratsD (.tup (ys.map dQ)) = ys := by
  show (ys.map dQ).map unQ = ys
  rw [List.map_map]
  refine (List.map_congr_left fun q _ => ?_).trans (List.map_id ys)
  exact unQ_dQ q
def barsB (N : Net) (h : Hands) (d : D) : Bool := fracsD N.boxes.length d && barV N h (ratsD d)
def sp_bars : Spec := fun args own Q _ => ∃ (N : Net) (h : Hands) (d : D) (n : Nat), args = [.d (dNet N), .d (dHands h), .d d] ∧ own = [] ∧ NetOk N ∧ HandsOk N h ∧ small n d = true ∧ n ≤ 60 ∧ (∀ ys, d = .tup (ys.map dQ) → ys.length = N.boxes.length → BarsIn N h ys) ∧ Q (.d (.bl (barsB N h d))) []
theorem len_bars {args own Q E} (z : sp_bars args own Q E) : args.length = 3 := by obtain ⟨a, n, d, m, rfl, _⟩ := z; rfl
def colsOf (N : Net) (ss : List Str) : List (List Rat) := (List.range ss.length).map (colOf (rowsOf N ss))
def unitS (ss : List Str) (s : Str) : List Rat := ss.map fun x => if x = s then 1 else 0
inductive ReasonOut (N : Net) (h : Hands) (s : Str) : D → Prop
  | none1 (t : List Rat) (b : BarOk N h t) : ReasonOut N h s .non
  | still (found : List Rat) (lot : List (List Rat)) (Fr : List Nat) (w : WaysOk N h found lot Fr) (hs : s ∉ looseOf N h) : ReasonOut N h s (.tup ((List.replicate N.boxes.length (0 : Rat)).map dQ))
  | none2 (found : List Rat) (lot : List (List Rat)) (Fr : List Nat) (w : WaysOk N h found lot Fr) (hs : s ∈ looseOf N h) (t : List Rat) (len : t.length = (looseOf N h).length)
      (bar : ∀ x : Nat → Rat, sumN (looseOf N h).length (fun k => el t k * sumN N.boxes.length fun i => cR (colsOf N (looseOf N h)) k i * x i) = 0) (ne : dotA 0 t (unitS (looseOf N h) s) ≠ 0) : ReasonOut N h s .non
  | told (found : List Rat) (lot : List (List Rat)) (Fr : List Nat) (w : WaysOk N h found lot Fr) (hs : s ∈ looseOf N h) (ys : List Rat) (lot2 : List (List Rat)) (Fr2 : List Nat)
      (so : SolOk (colsOf N (looseOf N h)) (unitS (looseOf N h) s) N.boxes.length ys lot2 Fr2) (bd : BdL N.boxes.length ys lot2 gN bN) : ReasonOut N h s (.tup (ys.map dQ))
def spNHS (O : Net → Hands → Str → D → Prop) : Spec := fun args own Q _ => ∃ (N : Net) (h : Hands) (s : Str), args = [.d (dNet N), .d (dHands h), .d (.str s)] ∧ own = [] ∧ NetOk N ∧ HandsOk N h ∧ s ∈ N.shafts ∧ ∀ out, O N h s out → Q (.d out) []
theorem len_spNHS {O args own Q E} (z : spNHS O args own Q E) : args.length = 3 := by obtain ⟨a, n, d, rfl, _⟩ := z; rfl
def sp_reason : Spec := spNHS ReasonOut
theorem len_reason {args own Q E} (z : sp_reason args own Q E) : args.length = 3 := len_spNHS z
inductive TwoOut (N : Net) (h : Hands) (s : Str) : D → Prop
  | none1 (t : List Rat) (b : BarOk N h t) : TwoOut N h s .non
  | none2 (found : List Rat) (lot : List (List Rat)) (Fr : List Nat) (w : WaysOk N h found lot Fr) (hs : s ∉ looseOf N h) : TwoOut N h s .non
  | none3 (found : List Rat) (lot : List (List Rat)) (Fr : List Nat) (w : WaysOk N h found lot Fr) (k : Nat) (hk : (looseOf N h)[k]? = some s) (z : ∀ v ∈ lot, el v k = 0) : TwoOut N h s .non
  | two (found : List Rat) (lot : List (List Rat)) (Fr : List Nat) (w : WaysOk N h found lot Fr) (k : Nat) (hk : (looseOf N h)[k]? = some s) (v : List Rat) (hv : v ∈ lot) (ne : el v k ≠ 0) :
      TwoOut N h s (.tup [.tup (wholeF N h (found.map dQ)), .tup (wholeF N h (((found.zip v).map fun p => p.1 + p.2).map dQ))])
def sp_two_ways : Spec := spNHS TwoOut
theorem len_two_ways {args own Q E} (z : sp_two_ways args own Q E) : args.length = 3 := len_spNHS z
end Bx
end

section
namespace Bx
open PySem L2
theorem anyB_map {α : Type} (f : α → Bool) (l : List α) : anyB (l.map f) = l.any f := by
  induction l with
  | nil => rfl
  | cons a l ih => simp [anyB, ih]
theorem cols_row {N : Net} {ss : List Str} {k : Nat} (h : k < ss.length) : (colsOf N ss).getD k [] = colOf (rowsOf N ss) k := by
  unfold colsOf
  rw [List.getD, List.getElem?_map, List.getElem?_range h]; rfl
theorem cR_cols {N : Net} {ss : List Str} {k i : Nat} (hk : k < ss.length) (hi : i < N.boxes.length) : cR (colsOf N ss) k i = cR (rowsOf N ss) i k := by
  unfold cR
  rw [cols_row hk]
  apply el_get
  have hi' : i < (rowsOf N ss).length := by rw [rows_len]; exact hi
  unfold colOf
  rw [List.getElem?_map, List.getElem?_eq_getElem hi', List.getD, List.getElem?_eq_getElem hi']; rfl
theorem cols_in {N : Net} (hN : NetOk N) {ss : List Str} : RowsIn (colsOf N ss) N.boxes.length 20 := by
  have cl : (colsOf N ss).length = ss.length := by unfold colsOf; rw [List.length_map, List.length_range]
  refine ⟨fun r hr => ?_, 1, by decide, by decide, fun k hk j hj => ?_⟩
  · unfold colsOf at hr
    obtain ⟨i, _, rfl⟩ := List.mem_map.mp hr
    unfold colOf
    rw [List.length_map, rows_len]
  · rw [cl] at hk
    rw [cR_cols hk hj, cR_rows hj hk]
    refine cd_int (coef_le (hN.parts.2.2 _ ?_) _)
    rw [List.getD, List.getElem?_eq_getElem hj]
    exact List.getElem_mem hj
theorem unit_in {ss : List Str} {s : Str} : EndsIn (unitS ss s) (2 ^ 1020) := by
  refine ⟨1, by decide, by decide, fun q hq => ?_⟩
  unfold unitS at hq
  obtain ⟨x, _, rfl⟩ := List.mem_map.mp hq
  split
  · exact ⟨1, by decide, by grind⟩
  · exact ⟨0, by decide, by grind⟩
theorem posS_mem {x : Str} : ∀ {ys : List Str}, x ∈ ys → ∃ j, posS x ys = some j
  | y :: r, h => by
    unfold posS
    by_cases e : y = x
    · rw [if_pos e]; exact ⟨0, rfl⟩
    · rw [if_neg e]
      rcases List.mem_cons.mp h with h | h
      · exact absurd h.symm e
      · obtain ⟨j, hj⟩ := posS_mem h
        rw [hj]; exact ⟨j + 1, rfl⟩
theorem plains_dQ (n : Nat) : ∀ v : List Rat, plains (n + 1) (v.map dQ) = true
  | [] => rfl
  | q :: v => by simp only [List.map_cons, plains, plain_dQ, Bool.true_and]; exact plains_dQ n v
theorem plain_dV (n : Nat) (v : List Rat) : plain (n + 2) (dV v) = true := plains_dQ n v
theorem plains_dV (n : Nat) (l : List (List Rat)) : plains (n + 2) (l.map dV) = true := by
  induction l with
  | nil => rfl
  | cons v l ih => simp only [List.map_cons, plains, plain_dV, Bool.true_and]; exact ih
end Bx
end

section
/-! The law's helpers: specs. -/
namespace Bx
open PySem L2
def WellOk (a b c : Int) : Prop := 0 ≤ a ∧ 0 ≤ b ∧ b < 2 ^ 40 ∧ 0 < c ∧ c < 2 ^ 32
def dWell (a b c : Int) : D := .lst [.int a, .int b, .int c]
def sp__law_take : Spec := fun args own Q _ => ∃ a b c many : Int, args = [.loc 0, .d (.int many)] ∧ own = [dWell a b c] ∧ WellOk a b c ∧ 1 ≤ many ∧ many ≤ 2 ^ 40 ∧ ∀ r a' b' : Int, 0 ≤ r → r < many → WellOk a' b' c → Q (.d (.int r)) [dWell a' b' c]
theorem len__law_take {args own Q E} (z : sp__law_take args own Q E) : args.length = 2 := by obtain ⟨a, b, c, m, rfl, _⟩ := z; rfl
def dScr (xs : List Int) : D := .scr (xs.map .int)
def sp__law_well : Spec := fun args own Q _ => ∃ (xs : List Int) (k : Nat), args = [.d (dScr xs), .d (dN k)] ∧ own = [] ∧ k ≤ 63 ∧ xs.length ≤ 1000 ∧ ∀ a b c, WellOk a b c → Q (.loc 0) [dWell a b c]
theorem len__law_well {args own Q E} (z : sp__law_well args own Q E) : args.length = 2 := by obtain ⟨a, b, rfl, _⟩ := z; rfl
def sp__law_frac : Spec := sp_fraction
theorem len__law_frac {args own Q E} (z : sp__law_frac args own Q E) : args.length = 2 := len_fraction (E := E) z
def sp__law_plus : Spec := sp_plus
def sp__law_minus : Spec := sp_minus
def sp__law_times : Spec := sp_times
theorem len__law_plus {args own Q E} (z : sp__law_plus args own Q E) : args.length = 2 := len_op (E := E) z
theorem len__law_minus {args own Q E} (z : sp__law_minus args own Q E) : args.length = 2 := len_op (E := E) z
theorem len__law_times {args own Q E} (z : sp__law_times args own Q E) : args.length = 2 := len_op (E := E) z
def sp__law_is_frac : Spec := fun args own Q _ => ∃ (d : D) (n : Nat), args = [.d d] ∧ own = [] ∧ small n d = true ∧ n ≤ 60 ∧ (∀ a b, d = .tup [.int a, .int b] → b.natAbs < 2 ^ 8001) ∧ Q (.d (.bl (fracD d))) []
theorem len__law_is_frac {args own Q E} (z : sp__law_is_frac args own Q E) : args.length = 1 := by obtain ⟨a, n, rfl, _⟩ := z; rfl
theorem fm {x p : Int} (hp : 0 < p) : 0 ≤ x.fmod p ∧ x.fmod p < p := by
  rw [Int.fmod_eq_emod_of_nonneg _ (Int.le_of_lt hp)]
  exact ⟨Int.emod_nonneg _ (by omega), Int.emod_lt_of_pos _ hp⟩
theorem fdv {x p : Int} (hp : 0 < p) (hx : 0 ≤ x) : 0 ≤ x.fdiv p := by
  rw [Int.fdiv_eq_ediv_of_nonneg _ (Int.le_of_lt hp)]
  exact Int.ediv_nonneg hx (Int.le_of_lt hp)
theorem mw {i j : Int} (h1 : 0 ≤ i) (h2 : i < 2 ^ 50) (h3 : 0 ≤ j) (h4 : j < 2 ^ 50) : CMulW i j := mulW_of (a := 50) (b := 50) (by omega) (by omega)
theorem dv {i j : Int} (h1 : 0 < j) (h2 : j < 2 ^ 50) : CDivX i j := by
  refine ⟨by omega, ?_⟩
  have : j.natAbs < 2 ^ 50 := by omega
  exact Nat.lt_trans (log2_of (by decide) this) (by decide)
end Bx
end

section
/-! A list against the empty one, whatever its items are. -/
namespace Bx
open PySem L2 PySem.Spec PyProof.Rows
def rEqN (K : PySem.W.Frag) (f : Bool → Bool) : R2 := fun x y H Q => ∃ a b xs, x = .ref a ∧ y = .ref b ∧ SqL K H a xs ∧ SqL K H b [] ∧ Q (.bl (f xs.isEmpty)) H
theorem op_eqN {X : Cx} (hu : X.A.units + 65 < cLine) : OpR X (compareOp .Eq) (rEqN X.K id) := by
  intro pins s σ H x y v u Q I rx ry h
  obtain ⟨a, b, xs, rfl, rfl, ha, hb, q⟩ := h
  cases (show v = Value.ref a from rx)
  cases (show u = Value.ref b from ry)
  obtain ⟨us, r1, p1, _⟩ := I.list ha
  obtain ⟨ws, r2, p2, _⟩ := I.list hb
  cases r2
  cases r1 with
  | nil => exact SeqAt.RcAt.lists (e := fun _ => true) p1.isList p2.isList rfl (by omega) (fun j h1 _ => absurd h1 (Nat.not_lt_zero j)) X.prog X.w _ _ ⟨.bl _, H, I, rfl, q⟩
  | cons h t => exact SeqAt.RcAt.lists_lengths p1.isList p2.isList (by simp) (by omega) X.prog X.w _ _ ⟨.bl _, H, I, rfl, q⟩
theorem op_neN {X : Cx} (hu : X.A.units + 65 < cLine) : OpR X (compareOp .NotEq) (rEqN X.K not) := by
  intro pins s σ H x y v u Q I rx ry h
  obtain ⟨a, b, xs, rfl, rfl, ha, hb, q⟩ := h
  cases (show v = Value.ref a from rx)
  cases (show u = Value.ref b from ry)
  obtain ⟨us, r1, p1, _⟩ := I.list ha
  obtain ⟨ws, r2, p2, _⟩ := I.list hb
  cases r2
  cases r1 with
  | nil => exact SeqAt.RcNeAt.lists (e := fun _ => true) p1.isList p2.isList rfl (by omega) (fun j h1 _ => absurd h1 (Nat.not_lt_zero j)) X.prog X.w _ _ ⟨.bl _, H, I, rfl, q⟩
  | cons h t => exact SeqAt.RcNeAt.lists_lengths p1.isList p2.isList (by simp) (by omega) X.prog X.w _ _ ⟨.bl _, H, I, rfl, q⟩
def cNil (f : Bool → Bool) : B2 := fun c d s Q => match asLst c s, asLst d s with
  | some xs, some [] => Q (.d (.bl (f xs.isEmpty))) s
  | _, _ => False
theorem ci_nil {K : PySem.W.Frag} (f : Bool → Bool) : BinI K (rEqN K f) (cNil f) := fun g s σ H x y c d Qp Q hd rx ry hb kt => by
  unfold cNil at hb
  split at hb
  · rename_i xs e1 e2
    obtain ⟨a, vs, rfl, ha, _, ra⟩ := asLst_q hd rx e1
    obtain ⟨b, ws, rfl, hb', _, rb⟩ := asLst_q hd ry e2
    cases rb
    refine ⟨a, b, vs, rfl, rfl, ha, hb', ?_⟩
    have : vs.isEmpty = xs.isEmpty := by
      have := ra.length
      cases vs <;> cases xs <;> simp_all
    rw [this]
    exact kt _ _ (.d _) _ _ hd .refl (.bl _) hb
  · exact hb.elim
section
variable {X : Cx} {a b : Expr} {p q : TP} {pos : Pos}
theorem pp_eqN {k : Nat} (hr : Room k X.A) (ha : PP X a p) (hb : PP X b q) : PP X (.Compare a [.Eq] [b] pos) (wBin (cNil id) p q) := pp_cmp (op_eqN hr.u65) (ci_nil id) ha hb (nomark _)
theorem pp_neN {k : Nat} (hr : Room k X.A) (ha : PP X a p) (hb : PP X b q) : PP X (.Compare a [.NotEq] [b] pos) (wBin (cNil not) p q) := pp_cmp (op_neN hr.u65) (ci_nil not) ha hb (nomark _)
theorem ppt_eqN {k : Nat} (hr : Room k X.A) (ha : PP X a p) (hb : PP X b q) : PPt X (.Compare a [.Eq] [b] pos) (wTest (wBin (cNil id) p q)) := ppt_cmp (op_eqN hr.u65) (ci_nil id) ha hb (nomark _)
theorem ppt_neN {k : Nat} (hr : Room k X.A) (ha : PP X a p) (hb : PP X b q) : PPt X (.Compare a [.NotEq] [b] pos) (wTest (wBin (cNil not) p q)) := ppt_cmp (op_neN hr.u65) (ci_nil not) ha hb (nomark _)
end
end Bx
end

section
/-! Anything made of numbers, truths, None, texts, lists and tuples; one thing otherwise. -/
namespace Bx
open PySem L2 PySem.Spec PyProof.Rows
section
variable {P : Program} {w : World} {K : PySem.W.Frag} {mg : Str → Option Value} {base : Heap}
/-- what is never called keeps any promise -/
theorem Cal.never {name : Str} {st : Stmt} {ps : List Str} {k : Nat} (h : Has K mg name st ps) : Cal P w K mg base k name ps (fun _ _ _ _ => False) := by
  obtain ⟨f, fd, F, hm, b⟩ := h.ex
  refine ⟨f, fd, ⟨fun vs H Q E ⟨_, _, _, _, _, _, z, _⟩ => z.elim, fun A outer s H args us vs Q E _ _ _ _ ⟨_, _, _, _, _, _, z, _⟩ => z.elim⟩, hm, F.kp, b, ?_⟩
  obtain ⟨oc, od, kV, doc, pm, an, cdv, ct, osl, _, lk, _⟩ := F.ex
  exact ⟨_, lk, rfl⟩
end
mutual
/-- of so many levels, no wider, no longer, of no greater numbers -/
def tame (W B : Nat) : Nat → D → Bool
  | _, .non => true
  | _, .bl _ => true
  | _, .int i => decide (i.natAbs ≤ B)
  | _, .str x => decide (x.length ≤ W) && PyData.strOk x
  | n, .tup xs => match n with
    | 0 => false
    | n + 1 => decide (xs.length ≤ W) && tames W B n xs
  | n, .lst xs => match n with
    | 0 => false
    | n + 1 => decide (xs.length ≤ W) && tames W B n xs
  | _, _ => false
def tames (W B : Nat) : Nat → List D → Bool
  | _, [] => true
  | n, x :: xs => tame W B n x && tames W B n xs
end
theorem tames_iff {W B n : Nat} : ∀ {ds : List D}, tames W B n ds = true ↔ ∀ d ∈ ds, tame W B n d = true
  | [] => by simp [tames]
  | x :: xs => by simp [tames, tames_iff (ds := xs)]
mutual
theorem tame_mono {W B W' B' : Nat} (hW : W ≤ W') (hB : B ≤ B') : ∀ (d : D) (n m : Nat), n ≤ m → tame W B n d = true → tame W' B' m d = true
  | .non, _, _, _, _ => by simp [tame]
  | .bl _, _, _, _, _ => by simp [tame]
  | .int i, _, _, _, h => by simp [tame] at h ⊢; omega
  | .str x, _, _, _, h => by simp [tame] at h ⊢; exact ⟨by omega, h.2⟩
  | .tup xs, 0, _, _, h => by simp [tame] at h
  | .tup xs, n + 1, 0, hn, h => by omega
  | .tup xs, n + 1, m + 1, hn, h => by simp [tame] at h ⊢; exact ⟨by omega, tames_mono hW hB xs n m (by omega) h.2⟩
  | .lst xs, 0, _, _, h => by simp [tame] at h
  | .lst xs, n + 1, 0, hn, h => by omega
  | .lst xs, n + 1, m + 1, hn, h => by simp [tame] at h ⊢; exact ⟨by omega, tames_mono hW hB xs n m (by omega) h.2⟩
  | .dct _, _, _, _, h => by simp [tame] at h
  | .raw _, _, _, _, h => by simp [tame] at h
  | .scr _, _, _, _, h => by simp [tame] at h
theorem tames_mono {W B W' B' : Nat} (hW : W ≤ W') (hB : B ≤ B') : ∀ (ds : List D) (n m : Nat), n ≤ m → tames W B n ds = true → tames W' B' m ds = true
  | [], _, _, _, _ => by simp [tames]
  | x :: xs, n, m, hn, h => by simp [tames] at h ⊢; exact ⟨tame_mono hW hB x n m hn h.1, tames_mono hW hB xs n m hn h.2⟩
end
mutual
theorem tame_small {W B : Nat} (hW : W ≤ 1000) : ∀ (d : D) (n : Nat), tame W B n d = true → small n d = true
  | .non, _, _ => by simp [small]
  | .bl _, _, _ => by simp [small]
  | .int i, _, h => by simp [small]
  | .str x, _, h => by simp [tame] at h; simp [small]; exact ⟨by omega, h.2⟩
  | .tup xs, 0, h => by simp [tame] at h
  | .tup xs, n + 1, h => by simp [tame] at h; simp [small]; exact ⟨by omega, tames_small hW xs n h.2⟩
  | .lst xs, 0, h => by simp [tame] at h
  | .lst xs, n + 1, h => by simp [tame] at h; simp [small]; exact ⟨by omega, tames_small hW xs n h.2⟩
  | .dct _, _, h => by simp [tame] at h
  | .raw _, _, h => by simp [tame] at h
  | .scr _, _, h => by simp [tame] at h
theorem tames_small {W B : Nat} (hW : W ≤ 1000) : ∀ (ds : List D) (n : Nat), tames W B n ds = true → smalls n ds = true
  | [], _, _ => by simp [smalls]
  | x :: xs, n, h => by simp [tames] at h; simp [smalls]; exact ⟨tame_small hW x n h.1, tames_small hW xs n h.2⟩
end
theorem tame_tup {W B n : Nat} {xs : List D} : tame W B (n + 1) (.tup xs) = true ↔ xs.length ≤ W ∧ ∀ d ∈ xs, tame W B n d = true := by
  simp [tame, tames_iff]
theorem tame_lst {W B n : Nat} {xs : List D} : tame W B (n + 1) (.lst xs) = true ↔ xs.length ≤ W ∧ ∀ d ∈ xs, tame W B n d = true := by
  simp [tame, tames_iff]
theorem tame_int {W B n : Nat} {i : Int} : tame W B n (.int i) = true ↔ i.natAbs ≤ B := by simp [tame]
theorem tame_str {W B n : Nat} {x : Str} : tame W B n (.str x) = true ↔ x.length ≤ W ∧ PyData.strOk x = true := by simp [tame]
theorem tame_isn {W B n : Nat} {xs : List D} (h : tame W B n (.tup xs) = true) : ∃ m, n = m + 1 := by
  cases n with
  | zero => simp [tame] at h
  | succ m => exact ⟨m, rfl⟩

/-! ### the two defs -/
def spR__law_thing (m : Nat) : Spec := fun args own Q _ => ∃ (a b c : Int) (k : Nat), args = [.loc 0, .d (dN k)] ∧ own = [dWell a b c] ∧ WellOk a b c ∧ k < m ∧ k ≤ 3 ∧ ∀ d a' b', tame 100 (2 ^ 40) (k + 1) d = true → WellOk a' b' c → Q (.d d) [dWell a' b' c]
theorem lenR__law_thing {m args own Q E} (z : spR__law_thing m args own Q E) : args.length = 2 := by obtain ⟨a, b, c, k, rfl, _⟩ := z; rfl
theorem zeroR__law_thing {args own Q} {E : Addr → List D → Prop} (z : spR__law_thing 0 args own Q E) : False := by obtain ⟨a, b, c, k, _, _, _, h, _⟩ := z; omega
def sp__law_thing : Spec := fun args own Q _ => ∃ (a b c : Int) (k : Nat), args = [.loc 0, .d (dN k)] ∧ own = [dWell a b c] ∧ WellOk a b c ∧ k ≤ 3 ∧ ∀ d a' b', tame 100 (2 ^ 40) (k + 1) d = true → WellOk a' b' c → Q (.d d) [dWell a' b' c]
theorem toR__law_thing {args own Q} {E : Addr → List D → Prop} (z : sp__law_thing args own Q E) : spR__law_thing 4 args own Q E := by
  obtain ⟨a, b, c, k, h1, h2, h3, h4, h5⟩ := z
  exact ⟨a, b, c, k, h1, h2, h3, by omega, h4, h5⟩
/-- what stands for a tuple, one thing otherwise -/
def spR__law_otherwise (m : Nat) : Spec := fun args own Q _ => ∃ (a b c : Int) (k n : Nat) (ds : List D), args = [.loc 0, .d (.tup ds), .d (dN k)] ∧ own = [dWell a b c] ∧ WellOk a b c ∧ k < m ∧ k ≤ 4 ∧ k + 6 ≤ n ∧ tame 100 (2 ^ 40) n (.tup ds) = true ∧
  ∀ d a' b', tame 200 (2 ^ 41) n d = true → WellOk a' b' c → Q (.d d) [dWell a' b' c]
theorem lenR__law_otherwise {m args own Q E} (z : spR__law_otherwise m args own Q E) : args.length = 3 := by obtain ⟨a, b, c, k, n, ds, rfl, _⟩ := z; rfl
theorem zeroR__law_otherwise {args own Q} {E : Addr → List D → Prop} (z : spR__law_otherwise 0 args own Q E) : False := by obtain ⟨a, b, c, k, n, ds, _, _, _, h, _⟩ := z; omega
def sp__law_otherwise : Spec := fun args own Q _ => ∃ (a b c : Int) (k n : Nat) (ds : List D), args = [.loc 0, .d (.tup ds), .d (dN k)] ∧ own = [dWell a b c] ∧ WellOk a b c ∧ k ≤ 4 ∧ k + 6 ≤ n ∧ tame 100 (2 ^ 40) n (.tup ds) = true ∧
  ∀ d a' b', tame 200 (2 ^ 41) n d = true → WellOk a' b' c → Q (.d d) [dWell a' b' c]
theorem toR__law_otherwise {args own Q} {E : Addr → List D → Prop} (z : sp__law_otherwise args own Q E) : spR__law_otherwise 5 args own Q E := by
  obtain ⟨a, b, c, k, n, ds, h1, h2, h3, h4, h5⟩ := z
  exact ⟨a, b, c, k, n, ds, h1, h2, h3, by omega, h4, h5⟩
theorem getI_mem {α : Type} {ds : List α} {i : Int} (h0 : 0 ≤ i) (h1 : i < ds.length) : ∃ x ∈ ds, getI ds i = some x := by
  obtain ⟨n, rfl⟩ := Int.eq_ofNat_of_zero_le h0
  refine ⟨ds[n]'(by omega), List.getElem_mem _, ?_⟩
  rw [getI_nat, List.getElem?_eq_getElem (by omega)]
def baseThings : List D := [D.int 0, D.int (-1), D.int 1, D.bl true, D.bl false, D.non, D.str "", D.str "a", D.str "ab", D.str "A", D.str "a b", D.str "abcdefghi", D.int 2, D.int 3, D.int (-7), D.str "take", D.int (10 ^ 11), D.int 8] ++ [D.tup [], D.lst [], D.tup [D.int 0, D.int 1]]
theorem base_tame : ∀ d ∈ baseThings, tame 100 (2 ^ 40) 1 d = true := by decide +kernel
theorem base_get {i : Int} (h0 : 0 ≤ i) (h1 : i < 21) : ∃ x, getI baseThings i = some x ∧ tame 100 (2 ^ 40) 1 x = true := by
  obtain ⟨x, hx, e⟩ := getI_mem (ds := baseThings) h0 (by show i < ((21 : Nat) : Int); omega)
  exact ⟨x, e, base_tame x hx⟩
def nearThings : List D := [D.int 0, D.int 1, D.int (-1), D.int 2, D.int 8, D.int 9, D.int 200, D.int 201, D.int 400, D.int 401, D.non, D.bl true, D.bl false, D.str "a", D.tup [], D.tup [D.int 1, D.int 1], D.tup [D.int 2, D.int 4], D.tup [D.int 0, D.int 1], D.int 7, D.str "cut"]
theorem near_tame : ∀ d ∈ nearThings, tame 100 (2 ^ 40) 1 d = true := by decide +kernel
theorem near_get {i : Int} (h0 : 0 ≤ i) (h1 : i < 20) : ∃ x, getI nearThings i = some x ∧ tame 100 (2 ^ 40) 1 x = true := by
  obtain ⟨x, hx, e⟩ := getI_mem (ds := nearThings) h0 (by show i < ((20 : Nat) : Int); omega)
  exact ⟨x, e, near_tame x hx⟩
theorem step_get {i : Int} (h0 : 0 ≤ i) (h1 : i < 4) : ∃ z : Int, getI [D.int 1, D.int (-1), D.int 8, D.int (-12)] i = some (.int z) ∧ z.natAbs ≤ 12 := by
  rcases (by omega : i = 0 ∨ i = 1 ∨ i = 2 ∨ i = 3) with rfl | rfl | rfl | rfl
  · exact ⟨1, rfl, by decide⟩
  · exact ⟨-1, rfl, by decide⟩
  · exact ⟨8, rfl, by decide⟩
  · exact ⟨-12, rfl, by decide⟩
theorem sign_get {i : Int} (h0 : 0 ≤ i) (h1 : i < 4) : ∃ z : Str, getI [D.str "a", D.str "A", D.str " ", D.str "bbbbbbbb"] i = some (.str z) ∧ z.length ≤ 8 ∧ PyData.strOk z = true := by
  rcases (by omega : i = 0 ∨ i = 1 ∨ i = 2 ∨ i = 3) with rfl | rfl | rfl | rfl
  · exact ⟨_, rfl, by decide +kernel, by decide +kernel⟩
  · exact ⟨_, rfl, by decide +kernel, by decide +kernel⟩
  · exact ⟨_, rfl, by decide +kernel, by decide +kernel⟩
  · exact ⟨_, rfl, by decide +kernel, by decide +kernel⟩
theorem str_append_length (x y : Str) : (x ++ y).length = x.length + y.length := by
  show (x.cps ++ y.cps).size = _
  rw [Array.size_append]; rfl
theorem str_append_ok {x y : Str} (h1 : PyData.strOk x = true) (h2 : PyData.strOk y = true) : PyData.strOk (x ++ y) = true := by
  unfold PyData.strOk at *
  show ((x.cps ++ y.cps).all fun x => decide (x < 1114112)) = true
  rw [Array.all_append, h1, h2]; rfl
end Bx
end

section
/-! sorted(set(texts)). -/
namespace Bx
open PySem L2 PySem.Spec PyProof.Rows
/-! ### a set of texts -/
def keyT (e : Int × Value) : Str := match e.2 with | .str x _ => x | _ => default
def GoodT (w : World) (e : Int × Value) : Prop := ∃ x tk, e.2 = Value.str x tk ∧ e.1 = hashStr w x
def SetT (w : World) (h : Heap) (a : Addr) (S : Str → Bool) (n : Nat) : Prop :=
  ∃ o es ep t, h.get? a = some o ∧ o.ExactSet ∧ o.data = .set es ep t ∧ (∀ e ∈ es.toList, GoodT w e) ∧ (es.toList.map keyT).Nodup ∧ (∀ k, S k = true ↔ k ∈ es.toList.map keyT) ∧
    es.size < scanBound ∧ t.fits es.size = true ∧ es.size = n ∧ Ris t.place.toList ∧ (w.params.followText "set-order" = true ∨ t.led = true)
section
variable {P : Program} {w : World} {h h' : Heap} {a : Addr} {S : Str → Bool} {n : Nat}
theorem SetT.at (R : SetT w h a S n) (k : ∀ o, h.get? a = some o → h'.get? a = some o) : SetT w h' a S n := by
  obtain ⟨o, es, ep, t, ho, r⟩ := R
  exact ⟨o, es, ep, t, k o ho, r⟩
theorem SetT.congr {S' : Str → Bool} (R : SetT w h a S n) (e : ∀ k, S' k = S k) : SetT w h a S' n := by
  have q : S' = S := funext e
  rw [q]; exact R
theorem goodT_elems {l : List (Int × Value)} (g : ∀ e ∈ l, GoodT w e) : ElemsOf (PySem.strKind P w) l := fun e he => by
  obtain ⟨k, tk, h1, h2⟩ := g e he
  exact ⟨⟨k, by rw [h1]; exact strKind_is P w k tk, h2⟩, by rw [h1] <;> rfl⟩
theorem goodT_is {e : Int × Value} (g : GoodT w e) (k : Str) : (PySem.strKind P w).is k e.2 = true ↔ keyT e = k := by
  obtain ⟨k0, tk, h1, _⟩ := g
  unfold keyT
  rw [h1]
  simp [PySem.strKind, Value.isStrOf]
theorem goodT_mem {l : List (Int × Value)} (g : ∀ e ∈ l, GoodT w e) (k : Str) : k ∈ l.map keyT ↔ ∃ e ∈ l, (PySem.strKind P w).is k e.2 = true := by
  rw [List.mem_map]
  constructor
  · rintro ⟨e, he, q⟩
    exact ⟨e, he, (goodT_is (g e he) k).2 q⟩
  · rintro ⟨e, he, q⟩
    exact ⟨e, he, (goodT_is (g e he) k).1 q⟩
end
section
variable {P : Program} {w : World} {A : Around} {E : Value → Shared → Prop} {s : Shared} {a : Addr} {S : Str → Bool} {n : Nat}
theorem setT_add_tail {g : Bool → Sem Unit} (hg : ∀ (b : Bool) (s₁ : Shared) (Q' : Unit → Shared → Prop), Q' () s₁ → wpAny (model P w) A (g b) Q' E s₁)
    {o : Obj} {es : Array (Int × Value)} {ep : Nat} {t : SetTable} (ho : s.heap.get? a = some o) (hex : o.ExactSet) (hd : o.data = .set es ep t)
    {es1 : Array (Int × Value)} {t2 : SetTable} {S' : Str → Bool} (g1 : ∀ e ∈ es1.toList, GoodT w e) (nd1 : (es1.toList.map keyT).Nodup) (m1 : ∀ k, S' k = true ↔ k ∈ es1.toList.map keyT)
    (hb1 : es1.size < scanBound) (hf2 : t2.fits es1.size = true) (hr : Ris t2.place.toList) (hl : w.params.followText "set-order" = true ∨ t2.led = true) {wasDummy : Bool} {R : Option Bool → Shared → Prop}
    (hR : ∀ h', Heap.SameBut a s.heap h' → SetT w h' a S' es1.size → R (some true) { s with heap := h' }) :
    wpAny (model P w) A (do
        storeSet a es1 t2
        if (!wasDummy && t2.tooFull) = true then do
            g (relayAll t2 es1 (SetTable.grown es1.size)).2.2
            storeSet a (relayAll t2 es1 (SetTable.grown es1.size)).1 (relayAll t2 es1 (SetTable.grown es1.size)).2.1
            pure (some true)
          else pure (some true)) R E s := by
  refine wpAny_bind (wpAny_storeSet_of ho hd ?_ (fits_of_scanBound hb1))
  have ho1 := store_at (es' := es1) (t' := t2) ho hd
  have sb1 := Heap.SameBut.update s.heap a (Obj.putSet es1 t2)
  split
  · have pm := relayAll_perm t2 es1 (SetTable.grown es1.size)
    have hf3 := relayAll_fits t2 es1 (SetTable.grown es1.size)
    have hr3 := relayAll_ris t2 es1 (SetTable.grown es1.size)
    have hl3 := relayAll_led t2 es1 (SetTable.grown es1.size)
    generalize relayAll t2 es1 (SetTable.grown es1.size) = Z at pm hf3 hr3 hl3 ⊢
    obtain ⟨es2, t3, gave⟩ := Z
    dsimp only at pm hf3 hr3 hl3 ⊢
    have hsz : es2.size = es1.size := by rw [← Array.length_toList, pm.length_eq, Array.length_toList]
    have hb2 : es2.size < scanBound := by rw [hsz]; exact hb1
    refine wpAny_bind (hg _ _ _ ?_)
    refine wpAny_bind (wpAny_storeSet_of ho1 rfl ?_ (fits_of_scanBound hb2))
    have ho2 := store_at (es' := es2) (t' := t3) ho1 rfl
    refine wpAny_pure (hR _ (sb1.trans (Heap.SameBut.update _ a _)) ?_)
    exact ⟨_, es2, _, t3, ho2, hex, rfl, fun e he => g1 e (pm.mem_iff.mp he), (pm.map keyT).nodup_iff.mpr nd1, fun k => (m1 k).trans (pm.map keyT).mem_iff.symm, hb2, hf3, hsz, hr3,
      hl.imp id fun z => by rw [hl3]; exact z⟩
  · exact wpAny_pure (hR _ sb1 ⟨_, es1, _, t2, ho1, hex, rfl, g1, nd1, m1, hb1, hf2, rfl, hr, hl⟩)
theorem setT_add_hashed {k : Str} {tk : Tok} {Q : Bool → Shared → Prop} (R : SetT w s.heap a S n) (room : n + 1 < scanBound)
    (hQ : ∀ h', Heap.SameBut a s.heap h' → SetT w h' a (fun j => S j || decide (j = k)) (if S k = true then n else n + 1) → Q (!S k) { s with heap := h' }) :
    wpAny (model P w) A (setAddHashed a (.str k tk) ((PySem.strKind P w).hash k)) Q E s := by
  obtain ⟨o, es, ep, t, ho, hex, hd, g, nd, hm, hb, hf, hn, hr, hl⟩ := R
  have hkey : (PySem.strKind P w).is k (.str k tk) = true := strKind_is P w k tk
  have hsc : (Value.str k tk).scannable = true := rfl
  have hel : ElemsOf (PySem.strKind P w) es.toList := goodT_elems g
  unfold setAddHashed setAddHashedIn
  refine wpAny_holding (wpAny_bind (wpAny_setState_of ho hd hf ?_))
  dsimp only
  rw [byScan_of hsc hb hel]
  simp only [↓reduceIte]
  unfold setAddByScan
  refine wpAny_bind ?_
  refine wpAny_bind (wpAny_rule ?_)
  refine wpAny_bind (wpAny_setScan_of hkey ho hd hf hel ?_)
  cases hfi : List.findIdx? (fun e => (PySem.strKind P w).is k e.2) es.toList with
  | some j =>
    dsimp only
    obtain ⟨hj, pj, _⟩ := List.findIdx?_eq_some_iff_getElem.mp hfi
    have hSk : S k = true := (hm k).2 ((goodT_mem (P := P) (w := w) g k).2 ⟨es.toList[j], List.getElem_mem hj, pj⟩)
    refine wpAny_pure (wpAny_pure ?_)
    have q := hQ s.heap (Heap.SameBut.refl a s.heap) ⟨o, es, ep, t, ho, hex, hd, g, nd, fun i => by
      rw [Bool.or_eq_true, decide_eq_true_eq, ← hm i]
      exact ⟨fun z => z.elim id (fun e => e ▸ hSk), .inl⟩, hb, hf, by rw [if_pos hSk]; exact hn, hr, hl⟩
    rw [hSk] at q
    exact q
  | none =>
    dsimp only
    have hnk : k ∉ es.toList.map keyT := fun z => by
      obtain ⟨e, he, q⟩ := (goodT_mem (P := P) (w := w) g k).1 z
      have c := List.findIdx?_eq_none_iff.mp hfi e he
      rw [q] at c
      cases c
    have hSk : S k = false := by
      cases q : S k with
      | false => rfl
      | true => exact absurd ((hm k).1 q) hnk
    have hgw : ∀ (b : Bool) {s₁ : Shared} {Q' : Unit → Shared → Prop}, Q' () s₁ → wpAny (model P w) A (match b with | true => rule "set.scan.the-table-gave-way" | false => pure ()) Q' E s₁ :=
      fun b s₁ Q' q => by cases b <;> first | exact wpAny_pure q | exact wpAny_rule q
    have pm := layNew_perm t es ((PySem.strKind P w).hash k) (.str k tk)
    have hf1 := layNew_fits t es ((PySem.strKind P w).hash k) (.str k tk)
    have hr1 := layNew_ris t es ((PySem.strKind P w).hash k) (.str k tk) hr
    have hl1 := layNew_led t es ((PySem.strKind P w).hash k) (.str k tk)
    generalize layNew t es ((PySem.strKind P w).hash k) (.str k tk) = Z at pm hf1 hr1 hl1 ⊢
    obtain ⟨es1, t1, wasDummy, gave⟩ := Z
    dsimp only at pm hf1 hr1 hl1 ⊢
    rw [Array.toList_push] at pm
    have pc : es1.toList.Perm (((PySem.strKind P w).hash k, Value.str k tk) :: es.toList) := pm.trans (List.perm_append_singleton _ _)
    have pk : (es1.toList.map keyT).Perm (k :: es.toList.map keyT) := pc.map keyT
    have g1 : ∀ e ∈ es1.toList, GoodT w e := fun e he => by
      rcases List.mem_cons.mp (pc.mem_iff.mp he) with z | z
      · rw [z]; exact ⟨k, tk, rfl, rfl⟩
      · exact g e z
    have nd1 : (es1.toList.map keyT).Nodup := pk.nodup_iff.mpr (List.nodup_cons.mpr ⟨hnk, nd⟩)
    have m1 : ∀ i, (S i || decide (i = k)) = true ↔ i ∈ es1.toList.map keyT := fun i => by
      rw [Bool.or_eq_true, decide_eq_true_eq, hm i, pk.mem_iff, List.mem_cons]
      exact Or.comm
    have hsz : es1.size = n + 1 := by rw [← Array.length_toList, pc.length_eq, List.length_cons, Array.length_toList, hn]
    have hb1 : es1.size < scanBound := by rw [hsz]; exact room
    have hled : w.params.followText "set-order" = true ∨ t1.led = true := hl.imp id fun z => by rw [hl1]; exact z
    have fin : ∀ h', Heap.SameBut a s.heap h' → SetT w h' a (fun j => S j || decide (j = k)) es1.size → Q true { s with heap := h' } := fun h' sb r => by
      have q := hQ h' sb
      rw [hSk] at q
      rw [hsz] at r
      exact q r
    refine wpAny_bind (hgw _ ?_)
    split
    · refine wpAny_bind ?_
      rw [hashByValue_scannable 8 hsc]
      refine wpAny_pure ?_
      refine setT_add_tail ?_ ho hex hd g1 nd1 m1 hb1 ?_ ?_ ?_ ?_
      · intro b s₁ Q' q; cases b <;> first | exact wpAny_pure q | exact wpAny_rule q
      · first | (split <;> first | exact hf1 | exact SetTable.fits_plain_off hf1) | exact hf1
      · first | (split <;> exact hr1) | exact hr1
      · first | (split <;> exact hled) | exact hled
      · intro h' sb r; dsimp only; exact wpAny_pure (fin h' sb r)
    · refine wpAny_bind (wpAny_pure ?_)
      simp only [↓reduceIte]
      refine setT_add_tail ?_ ho hex hd g1 nd1 m1 hb1 hf1 hr1 hled ?_
      · intro b s₁ Q' q; cases b <;> first | exact wpAny_pure q | exact wpAny_rule q
      · intro h' sb r; dsimp only; exact wpAny_pure (fin h' sb r)
end
section
variable {prog : Program} {w : World} {A : Around} {R : Result → Shared → Prop} {I : Addr} {fp wr : List Addr} {G : Array GenState → Array GenState → Prop} {n : Nat} {Pv : Nat → Value → Prop} {St : Nat → Shared → Prop}
/-- how many unlike ones -/
def cntS (xs : List Str) : Nat → Nat
  | 0 => 0
  | i + 1 => if (xs.take i).any (· == xs.getD i Str.empty) = true then cntS xs i else cntS xs i + 1
theorem cntS_le (xs : List Str) : ∀ i, cntS xs i ≤ i
  | 0 => Nat.le_refl _
  | i + 1 => by
    have := cntS_le xs i
    unfold cntS
    split <;> omega
theorem setT_loop (W : WalksS prog w A.in1 I fp wr G n Pv St) (S : Addr) (hSf : S ∉ fp) (xs : List Str) (hsz : xs.length = n) (hn1 : n + 1 < scanBound) (hval : ∀ i v, Pv i v → ∃ t, v = .str (xs.getD i Str.empty) t) :
    ∀ (k i : Nat) (s : Shared), n - i = k → i ≤ n → St i s → SetT w s.heap S (fun k' => (xs.take i).any (· == k')) (cntS xs i) →
      (∀ s', Moved (S :: wr) G s s' → SetT w s'.heap S (fun k' => (xs.take n).any (· == k')) (cntS xs n) → R (.ok (.ret .none)) s') →
      codeAny (model prog w) A (.builtin "set.update.loop" ⟨[.ref S, .ref I], []⟩) R s := by
  have hSw : S ∉ wr := fun h => hSf (W.sub _ h)
  have hsub : ∀ b ∈ wr, b ∈ S :: wr := fun b hb => List.mem_cons_of_mem _ hb
  intro k
  induction k with
  | zero =>
    intro i s hk hi hst hS hR
    obtain rfl : i = n := by omega
    refine codeAny_builtin PyProof.Rows.F.entry_set_update_loop ?_
    rw [Around.under_plainId PyProof.Rows.F.plain_set_update_loop _]
    show wpAny _ A.in1 (pyNext (.ref I) >>= _) _ _ s
    refine wpAny_bind (W.done s _ _ hst fun s' hm => ?_)
    show wpAny _ A.in1 (ret Value.none) _ _ s'
    exact wpAny_pure (hR s' (hm.mono hsub) (hS.at fun o e => hm.heap S _ hSw e))
  | succ k ih =>
    intro i s hk hi hst hS hR
    have hlt : i < n := by omega
    refine codeAny_builtin PyProof.Rows.F.entry_set_update_loop ?_
    rw [Around.under_plainId PyProof.Rows.F.plain_set_update_loop _]
    show wpAny _ A.in1 (pyNext (.ref I) >>= _) _ _ s
    refine wpAny_bind (W.item i s _ _ hlt hst fun v s' hP hst' hm => ?_)
    obtain ⟨t, rfl⟩ := hval i v hP
    have hS' := hS.at (h' := s'.heap) fun o e => hm.heap S _ hSw e
    show wpAny _ A.in1 (holding [Value.str (xs.getD i Str.empty) t] (setAdd S (.str (xs.getD i Str.empty) t)) >>= _) _ _ s'
    refine wpAny_bind (wpAny_holding ?_)
    unfold setAdd
    refine wpAny_holding ?_
    refine wpAny_bind ((PySem.strKind prog w).pyHash (k := xs.getD i Str.empty) (strKind_is _ _ _ _) ?_)
    have cl := cntS_le xs i
    refine setT_add_hashed (P := prog) (s := { s' with toks := s'.toks + 1 }) hS' (by omega) fun h' hsb hS2 => ?_
    have hSi : SetT w h' S (fun k' => (xs.take (i + 1)).any (· == k')) (cntS xs (i + 1)) := by
      have e : cntS xs (i + 1) = if (xs.take i).any (· == xs.getD i Str.empty) = true then cntS xs i else cntS xs i + 1 := rfl
      rw [e]
      refine hS2.congr fun k' => ?_
      have hi' : i < xs.length := by omega
      have et : xs.take (i + 1) = xs.take i ++ [xs.getD i Str.empty] := by
        rw [List.take_succ, List.getD, List.getElem?_eq_getElem hi']; rfl
      rw [et, List.any_append]
      congr 1
      show ((xs.getD i Str.empty == k') || false) = decide (k' = xs.getD i Str.empty)
      rw [Bool.or_false, Bool.eq_iff_iff, beq_iff_eq, decide_eq_true_eq]
      exact eq_comm
    refine wpAny_pure ⟨plainId_quiet PyProof.Rows.F.plain_set_update_loop _, ih (i + 1) _ (by omega) hlt (W.frame _ s' _ _ hst' (Nat.le_succ _) fun b hb o e => ?_) hSi fun s'' hm'' hS'' => ?_⟩
    · rw [hsb.2 b (fun h : b = S => hSf (by rw [← h]; exact hb))]; exact e
    · refine hR s'' (Moved.trans W.gtrans ((hm.mono hsub).then_heap (Nat.le_succ _) fun b o hb e => ?_) hm'') hS''
      rw [hsb.2 b (fun h : b = S => hb (by rw [h]; exact List.mem_cons_self))]; exact e
end
section
variable {prog : Program} {w : World} {A : Around} {E : Value → Shared → Prop} {s : Shared}
abbrev freshS (w : World) : Obj := { cls := .type "set", dict := none, data := .set #[] 0 (.fresh 0 0 (!w.params.followText "set-order")) }
theorem code_setT_new (a : Value) {Q₁ : Value → Shared → Prop} (h : Q₁ (.ref s.heap.objs.size) { s with heap := s.heap.push (freshS w) }) :
    codeAny (model prog w) A (.call (.builtin "set.__new__") ⟨[.type "set", a], []⟩) (wants Q₁ E) s := by
  refine codeAny_of_tree ?_
  show wpAny _ A.in1 (do checkBuiltinCall "set.__new__" ⟨[.type "set", a], []⟩; again (.builtin "set.__new__" ⟨[.type "set", a], []⟩)) _ _ s
  refine wpAny_bind (wpAny_of_eq (F.newCall_set_1 a) (wpAny_pure ⟨plainId_quiet F.plain_set_new _, codeAny_builtin F.entry_set_new ?_⟩))
  rw [Around.under_plainId F.plain_set_new _]
  unfold Builtin.«set.__new__» Builtin.Frozenset.newClass
  have hsub := sub_set_self
  obtain ⟨hp, g, d, tk, os⟩ := s
  dsimp only
  wp_walk
  refine wpAny_askSetting (wpAny_pure ?_)
  dsimp only
  simp only [newObj]
  refine wpAny_bind (wpAny_alloc (wpAny_pure ?_))
  exact wpAny_pure h
theorem setT_fresh {h : Heap} {a : Addr} (e : h.get? a = some (freshS w)) : SetT w h a (fun _ => false) 0 :=
  ⟨_, #[], 0, _, e, ⟨rfl, rfl, rfl⟩, rfl, (fun e he => by simp at he), (by simp), (fun k => by simp), (by decide), (by rfl), rfl, List.Pairwise.nil, by
    show _ ∨ (!w.params.followText "set-order") = true
    cases w.params.followText "set-order"
    · exact .inr rfl
    · exact .inl rfl⟩
theorem call_setT_list {l : Addr} {items : Array Value} {xs : List Str} {Q : Value → Shared → Prop}
    (hh : A.handled = none) (hl : s.heap.IsList l items) (hi : PyProof.Rows.StrsAre items.toList xs) (hn1 : xs.length + 1 < scanBound)
    (h : ∀ (h' : Heap) (tk : Nat), SetT w h' s.heap.objs.size (fun k' => xs.any (· == k')) (cntS xs xs.length) →
      (∀ b o, b < s.heap.objs.size → s.heap.get? b = some o → h'.get? b = some o) → Q (.ref s.heap.objs.size) { s with heap := h', toks := tk }) :
    wpAny (model prog w) A (call (.type "set") [.ref l]) Q E s := by
  obtain ⟨c, tl, hmro⟩ := PySem.F.called_set.mro
  have hmade := PySem.F.called_set.made
  have hsub := PySem.F.called_set.sub
  refine wpAny_call (codeAny_of_tree ?_)
  show wpAny _ _ (callAny (.type "set") _) _ _ _
  refine wpAny_pure ⟨Code.quiet_builtin _ (by decide +kernel), codeAny_builtin PySem.F.entry_type_call ?_⟩
  rw [Around.under_plain (weight_type_call_type "set" [.ref l] []) rfl]
  have h1 := PySem.F.called_set.notType
  have h2 := PySem.F.called_set.canCreate
  have hct := PySem.F.typeCall_set_1 (.ref l)
  repeat (any_goals (first | assumption | wp_step))

  refine codeAny_mono (code_setT_new (.ref l) (E := E) (Q₁ := fun obj s₁ => obj = .ref s.heap.objs.size ∧ s₁ = { s with heap := s.heap.push (freshS w) }) ⟨rfl, rfl⟩) fun r s₁ hr => ?_
  cases r with
  | error e => exact hr
  | ok fl =>
    cases fl with
    | ret obj =>
      obtain ⟨rfl, rfl⟩ := hr
      have hS : (s.heap.push (freshS w)).get? s.heap.objs.size = some (freshS w) := Heap.get?_push_size _ rfl
      have hT : Shared.TypeIs { s with heap := s.heap.push (freshS w) } (.ref s.heap.objs.size) "set" := ⟨_, hS, rfl⟩
      have hli := PySem.F.called_set.init.lookup
      have hbi := PySem.F.called_set.init.bind (.ref s.heap.objs.size)
      repeat (any_goals (first | assumption | wp_step))

      refine codeAny_mono (codeAny_call_builtin (R := wants (fun r s₂ => r = .none ∧ ∃ h' tk, s₂ = { s with heap := h', toks := tk } ∧
          SetT w h' s.heap.objs.size (fun k' => xs.any (· == k')) (cntS xs xs.length) ∧
          (∀ b o, b < s.heap.objs.size → s.heap.get? b = some o → h'.get? b = some o)) E) PySem.F.called_set.init.plain PySem.F.entry_set_init (check_set_init_1 hT ?_)) fun r₂ s₂ hr₂ => ?_
      · obtain ⟨ol, hol, hcl, nl, hdl⟩ := hl
        obtain ⟨ocls, odict, odata, oslots⟩ := ol
        simp only at hcl hdl
        subst hcl; subst hdl
        have hol' : (s.heap.push (freshS w)).get? l = some { cls := .type "list", dict := odict, data := .seq items nl, slots := oslots } := Heap.get?_push_of_some _ hol
        have hsls := PySem.F.sub_list_set
        have hslf := PySem.F.sub_list_frozenset
        have hne : (Value.type "list" == Value.type "dict") = false := by decide
        have hl1 : (s.heap.push (freshS w)).IsList l items := ⟨_, hol', rfl, nl, rfl⟩
        unfold Builtin.«set.__init__» noKeywords Builtin.Frozenset.updateFrom
        generalize hPI : pyIter = PI
        wp_walk
        subst hPI

        refine wpAny_pyIter_list hl1 ?_
        refine wpAny_bind (wpAny_runValue ?_)
        have hlS : l < s.heap.objs.size := Heap.lt_size hol
        have hh3 : A.in1.in1.in1.handled = none := by simp [hh]
        have hneI : l ≠ (s.heap.push (freshS w)).objs.size := by
          rw [Heap.size_push]; exact Nat.ne_of_lt (Nat.lt_succ_of_lt hlS)
        have hSf : s.heap.objs.size ∉ [(s.heap.push (freshS w)).objs.size, l] := by
          rw [Heap.size_push]; simp only [List.mem_cons, List.mem_singleton, List.not_mem_nil, or_false, not_or]
          exact ⟨Nat.ne_of_lt (Nat.lt_succ_self _), Nat.ne_of_gt hlS⟩
        have hsz : xs.length = items.size := by rw [← StrsAre.len_eq hi, Array.length_toList]
        have hval : ∀ (i : Nat) (v : Value), items[i]? = some v → ∃ t, v = .str (xs.getD i Str.empty) t := fun i v hv => SS.strs_at hi i v (by rw [Array.getElem?_toList]; exact hv)
        refine setT_loop ((Walks.list hh3 _ l hneI items).toS) s.heap.objs.size
          hSf xs hsz (by rw [← hsz]; exact hn1) hval (items.size - 0) 0 _ (by omega) (Nat.zero_le _)
          ⟨⟨_, Heap.get?_push_size _ rfl, rfl, rfl⟩, (hl1.push _)⟩ ?hS0 ?hR
        case hS0 =>
          have hget : ((s.heap.push (freshS w)).push { cls := .type "list_iterator", data := .fields #[.ref l, .int 0 0] }).get? s.heap.objs.size
              = some (freshS w) := Heap.get?_push_of_some _ hS
          exact (setT_fresh hget).congr fun _ => rfl
        case hR =>
          intro s' hm hS'
          rw [← hsz, List.take_length] at hS'
          obtain ⟨h', g', d', tk', os'⟩ := s'
          have eg : g' = s.gens := hm.gens
          have ed : d' = s.drawn := hm.drawn
          have eo : os' = s.os := hm.os
          subst eg; subst ed; subst eo
          show wpAny _ _ _ _ _ _
          refine wpAny_pure ?_
          show wpAny _ _ (ret Value.none) _ _ _
          refine wpAny_pure ⟨rfl, h', tk', rfl, hS', fun b o hb e => ?_⟩
          have hb1 : b ≠ s.heap.objs.size := Nat.ne_of_lt hb
          have hb2 : b ≠ (s.heap.push (freshS w)).objs.size := by
            rw [Heap.size_push]; exact Nat.ne_of_lt (Nat.lt_succ_of_lt hb)
          exact hm.heap b o (by simp only [List.mem_cons, List.mem_singleton, List.not_mem_nil, or_false, not_or]; exact ⟨hb1, hb2⟩) (Heap.get?_push_of_some _ (Heap.get?_push_of_some _ e))

      · cases r₂ with
        | error e => exact hr₂
        | ok fl₂ =>
          cases fl₂ with
          | ret r =>
            obtain ⟨rfl, h', tk, rfl, hS', hk'⟩ := hr₂
            repeat (any_goals (first | assumption | wp_step))
            exact h _ _ hS' hk'
          | _ => exact hr₂.elim
    | _ => exact hr.elim
theorem call_setT_tuple {l : Addr} {items : Array Value} {xs : List Str} {Q : Value → Shared → Prop}
    (hh : A.handled = none) (hl : s.heap.IsTuple l items) (hi : PyProof.Rows.StrsAre items.toList xs) (hn1 : xs.length + 1 < scanBound)
    (h : ∀ (h' : Heap) (tk : Nat), SetT w h' s.heap.objs.size (fun k' => xs.any (· == k')) (cntS xs xs.length) →
      (∀ b o, b < s.heap.objs.size → s.heap.get? b = some o → h'.get? b = some o) → Q (.ref s.heap.objs.size) { s with heap := h', toks := tk }) :
    wpAny (model prog w) A (call (.type "set") [.ref l]) Q E s := by
  obtain ⟨c, tl, hmro⟩ := PySem.F.called_set.mro
  have hmade := PySem.F.called_set.made
  have hsub := PySem.F.called_set.sub
  refine wpAny_call (codeAny_of_tree ?_)
  show wpAny _ _ (callAny (.type "set") _) _ _ _
  refine wpAny_pure ⟨Code.quiet_builtin _ (by decide +kernel), codeAny_builtin PySem.F.entry_type_call ?_⟩
  rw [Around.under_plain (weight_type_call_type "set" [.ref l] []) rfl]
  have h1 := PySem.F.called_set.notType
  have h2 := PySem.F.called_set.canCreate
  have hct := PySem.F.typeCall_set_1 (.ref l)
  repeat (any_goals (first | assumption | wp_step))

  refine codeAny_mono (code_setT_new (.ref l) (E := E) (Q₁ := fun obj s₁ => obj = .ref s.heap.objs.size ∧ s₁ = { s with heap := s.heap.push (freshS w) }) ⟨rfl, rfl⟩) fun r s₁ hr => ?_
  cases r with
  | error e => exact hr
  | ok fl =>
    cases fl with
    | ret obj =>
      obtain ⟨rfl, rfl⟩ := hr
      have hS : (s.heap.push (freshS w)).get? s.heap.objs.size = some (freshS w) := Heap.get?_push_size _ rfl
      have hT : Shared.TypeIs { s with heap := s.heap.push (freshS w) } (.ref s.heap.objs.size) "set" := ⟨_, hS, rfl⟩
      have hli := PySem.F.called_set.init.lookup
      have hbi := PySem.F.called_set.init.bind (.ref s.heap.objs.size)
      repeat (any_goals (first | assumption | wp_step))

      refine codeAny_mono (codeAny_call_builtin (R := wants (fun r s₂ => r = .none ∧ ∃ h' tk, s₂ = { s with heap := h', toks := tk } ∧
          SetT w h' s.heap.objs.size (fun k' => xs.any (· == k')) (cntS xs xs.length) ∧
          (∀ b o, b < s.heap.objs.size → s.heap.get? b = some o → h'.get? b = some o)) E) PySem.F.called_set.init.plain PySem.F.entry_set_init (check_set_init_1 hT ?_)) fun r₂ s₂ hr₂ => ?_
      · obtain ⟨ol, hol, hcl, nl, hdl⟩ := hl
        obtain ⟨ocls, odict, odata, oslots⟩ := ol
        simp only at hcl hdl
        subst hcl; subst hdl
        have hol' : (s.heap.push (freshS w)).get? l = some { cls := .type "tuple", dict := odict, data := .seq items nl, slots := oslots } := Heap.get?_push_of_some _ hol
        have hsls := PySem.F.sub_tuple_set
        have hslf := PySem.F.sub_tuple_frozenset
        have hne : (Value.type "tuple" == Value.type "dict") = false := by decide
        have hl1 : (s.heap.push (freshS w)).IsTuple l items := ⟨_, hol', rfl, nl, rfl⟩
        unfold Builtin.«set.__init__» noKeywords Builtin.Frozenset.updateFrom
        generalize hPI : pyIter = PI
        wp_walk
        subst hPI

        refine wpAny_pyIter_tuple hl1 ?_
        refine wpAny_bind (wpAny_runValue ?_)
        have hlS : l < s.heap.objs.size := Heap.lt_size hol
        have hh3 : A.in1.in1.in1.handled = none := by simp [hh]
        have hneI : l ≠ (s.heap.push (freshS w)).objs.size := by
          rw [Heap.size_push]; exact Nat.ne_of_lt (Nat.lt_succ_of_lt hlS)
        have hSf : s.heap.objs.size ∉ [(s.heap.push (freshS w)).objs.size, l] := by
          rw [Heap.size_push]; simp only [List.mem_cons, List.mem_singleton, List.not_mem_nil, or_false, not_or]
          exact ⟨Nat.ne_of_lt (Nat.lt_succ_self _), Nat.ne_of_gt hlS⟩
        have hsz : xs.length = items.size := by rw [← StrsAre.len_eq hi, Array.length_toList]
        have hval : ∀ (i : Nat) (v : Value), items[i]? = some v → ∃ t, v = .str (xs.getD i Str.empty) t := fun i v hv => SS.strs_at hi i v (by rw [Array.getElem?_toList]; exact hv)
        refine setT_loop ((Walks.tuple hh3 _ l hneI items).toS) s.heap.objs.size
          hSf xs hsz (by rw [← hsz]; exact hn1) hval (items.size - 0) 0 _ (by omega) (Nat.zero_le _)
          ⟨⟨_, Heap.get?_push_size _ rfl, rfl, rfl⟩, (hl1.push _)⟩ ?hS0 ?hR
        case hS0 =>
          have hget : ((s.heap.push (freshS w)).push { cls := .type "tuple_iterator", data := .fields #[.ref l, .int 0 0] }).get? s.heap.objs.size
              = some (freshS w) := Heap.get?_push_of_some _ hS
          exact (setT_fresh hget).congr fun _ => rfl
        case hR =>
          intro s' hm hS'
          rw [← hsz, List.take_length] at hS'
          obtain ⟨h', g', d', tk', os'⟩ := s'
          have eg : g' = s.gens := hm.gens
          have ed : d' = s.drawn := hm.drawn
          have eo : os' = s.os := hm.os
          subst eg; subst ed; subst eo
          show wpAny _ _ _ _ _ _
          refine wpAny_pure ?_
          show wpAny _ _ (ret Value.none) _ _ _
          refine wpAny_pure ⟨rfl, h', tk', rfl, hS', fun b o hb e => ?_⟩
          have hb1 : b ≠ s.heap.objs.size := Nat.ne_of_lt hb
          have hb2 : b ≠ (s.heap.push (freshS w)).objs.size := by
            rw [Heap.size_push]; exact Nat.ne_of_lt (Nat.lt_succ_of_lt hb)
          exact hm.heap b o (by simp only [List.mem_cons, List.mem_singleton, List.not_mem_nil, or_false, not_or]; exact ⟨hb1, hb2⟩) (Heap.get?_push_of_some _ (Heap.get?_push_of_some _ e))

      · cases r₂ with
        | error e => exact hr₂
        | ok fl₂ =>
          cases fl₂ with
          | ret r =>
            obtain ⟨rfl, h', tk, rfl, hS', hk'⟩ := hr₂
            repeat (any_goals (first | assumption | wp_step))
            exact h _ _ hS' hk'
          | _ => exact hr₂.elim
    | _ => exact hr.elim
end
end Bx
end

section
/-! sorted(set(texts)): the rule. -/
namespace Bx
open PySem L2 PySem.Spec PyProof.Rows
theorem strOf_key {w : World} {e : Int × Value} (g : GoodT w e) : strOf e.2 = keyT e := by
  obtain ⟨x, tk, h1, _⟩ := g
  unfold keyT
  rw [h1]; rfl
section
variable {P : Program} {w : World} {A : Around} {E : Value → Shared → Prop} {s : Shared} {a : Addr} {S : Str → Bool} {n : Nat}
theorem sorted_setT {Q : Value → Shared → Prop} (R : SetT w s.heap a S n) (hh : A.handled = none) (h64 : n < 64)
    (hQ : ∀ s' p (out : Array Value) (c : Nat) (ys : List Str), (∀ b o, s.heap.get? b = some o → s'.heap.get? b = some o) → s'.gens = s.gens → s'.os = s.os → s.heap.objs.size ≤ p →
      s'.heap.get? p = some (seqObj "list" out c) → StrsAre out.toList ys → sortedS ys = true → ys.Nodup → (∀ k, k ∈ ys ↔ S k = true) → ys.length = n → Q (.ref p) s') :
    wpAny (model P w) A (call (.builtin "sorted") [.ref a]) Q E s := by
  obtain ⟨o, es, ep, t, ho, hex, hd, g, nd, hm, hb, hf, hn, hr, hl⟩ := R
  refine Calls.call_function_entry kind_sorted plain_sorted entry_sorted (args_sorted1 _) ?_
  unfold Builtin.«sorted»
  refine wpAny_bind (m := checkCount "sorted" 1 1 _) (wpAny_pure ?_)
  refine wpAny_bind (collect_set (A := A.in1) hh ⟨o, ho, hex.1, hd⟩ hf hb hr hl fun s1 vs k1 hz g1 o1 pm => ?_)
  have hvl : vs.length = n := by rw [pm.length_eq, List.length_map, Array.length_toList]; exact hn
  have hI : StrsAre vs (vs.map strOf) := strsAre_map vs fun v hv => by
    obtain ⟨e, he, q⟩ := List.mem_map.mp (pm.mem_iff.mp hv)
    obtain ⟨x, tk, h1, _⟩ := g e he
    exact ⟨x, tk, by rw [← q]; exact h1⟩
  have pk : (vs.map strOf).Perm (es.toList.map keyT) := by
    have q := pm.map strOf
    have e : es.toList.map (strOf ∘ fun x => x.2) = es.toList.map keyT := List.map_congr_left fun e he => strOf_key (g e he)
    rw [List.map_map, e] at q
    exact q
  refine wpAny_bind (wpAny_newList ?_ (by rw [hvl, sizeLine_eq]; omega))
  have hoL : (s1.heap.push (seqObj "list" vs.toArray 0)).get? s1.heap.objs.size = some (seqObj "list" vs.toArray 0) := Heap.get?_push_size _ rfl
  refine wpAny_bind (wpAny_holding (wpAny_call_entry slot_list_sort ⟨_, hoL, rfl⟩ entry_list_sort (list_sort_treeK strKind_oneLt hoL hI.keysOf (fun v₁ v₂ rest e => keyKind_strs (by rw [← e]; exact hI)) (by rw [hvl]; exact h64) fun st' hp hs => ⟨_, rfl, ?_⟩) (args_list_sort _)))
  obtain ⟨ys, a1, a2, a3⟩ := sorted_out_str hI hp hs
  obtain ⟨c, hc⟩ := sortedHeap_at (vs := vs) (out := (arrOf st').map (·.2)) hoL
  have pn : ys.Perm (es.toList.map keyT) := a2.trans pk
  refine wpAny_pure ⟨_, rfl, hQ _ s1.heap.objs.size _ c ys (fun b u e => ?_) g1 o1 hz hc a1 a3 (pn.nodup_iff.mpr nd) (fun k => by rw [pn.mem_iff, ← hm k]) ?_⟩
  · have q := k1 b u e
    have hlt := Heap.lt_size q
    show (sortedHeap (s1.heap.push (seqObj "list" vs.toArray 0)) s1.heap.objs.size vs _).get? b = some u
    rw [sortedHeap_old (Nat.ne_of_lt hlt) (by rw [size_push']; exact Nat.lt_succ_of_lt hlt)]
    exact Heap.get?_push_of_some _ q
  · rw [pn.length_eq, List.length_map, Array.length_toList]; exact hn
end
/-! ### the order -/
theorem ltS_cps {a b : Str} (h : ltCps b.cps.toList a.cps.toList = false) (ne : a ≠ b) : ltS a b = true := by
  rw [ltCps_eq] at h
  have h1 : ¬ b.cps.toList < a.cps.toList := of_decide_eq_false h
  refine decide_eq_true (Classical.byContradiction fun z => ne ?_)
  have e : a.cps.toList = b.cps.toList := List.le_antisymm (List.not_lt.mp h1) (List.not_lt.mp z)
  cases a with
  | mk x =>
    cases b with
    | mk y =>
      have : x = y := Array.toList_inj.mp e
      rw [this]
theorem sorted_rise : ∀ (l : List Str) (p : Str), PyProof.Rows.risingS p l = true → (p :: l).Nodup → (p :: l).Pairwise fun a b => ltS a b = true
  | [], p, _, _ => List.pairwise_singleton _ _
  | x :: r, p, h, nd => by
    have h' : (!ltCps x.cps.toList p.cps.toList && PyProof.Rows.risingS x r) = true := h
    rw [Bool.and_eq_true, Bool.not_eq_true'] at h'
    obtain ⟨n1, n2⟩ := List.nodup_cons.mp nd
    have ih := sorted_rise r x h'.2 n2
    have px : ltS p x = true := ltS_cps h'.1 fun e => n1 (by rw [e]; exact List.mem_cons_self)
    refine List.pairwise_cons.mpr ⟨fun y hy => ?_, ih⟩
    rcases List.mem_cons.mp hy with rfl | hy
    · exact px
    · exact ltS_trans px ((List.pairwise_cons.mp ih).1 y hy)
theorem sortedS_rise {l : List Str} (h : sortedS l = true) (nd : l.Nodup) : l.Pairwise fun a b => ltS a b = true := by
  cases l with
  | nil => exact .nil
  | cons p l => exact sorted_rise l p h nd
/-- the same members, rising: the same list -/
theorem rise_unique : ∀ {l m : List Str}, l.Pairwise (fun a b => ltS a b = true) → m.Pairwise (fun a b => ltS a b = true) → (∀ x, x ∈ l ↔ x ∈ m) → l = m
  | [], [], _, _, _ => rfl
  | [], y :: m, _, _, h => absurd ((h y).mpr List.mem_cons_self) List.not_mem_nil
  | x :: l, [], _, _, h => absurd ((h x).mp List.mem_cons_self) List.not_mem_nil
  | x :: l, y :: m, h1, h2, h => by
    obtain ⟨a1, a2⟩ := List.pairwise_cons.mp h1
    obtain ⟨b1, b2⟩ := List.pairwise_cons.mp h2
    have e : x = y := by
      rcases List.mem_cons.mp ((h x).mp List.mem_cons_self) with z | z
      · exact z
      · rcases List.mem_cons.mp ((h y).mpr List.mem_cons_self) with q | q
        · exact q.symm
        · exact absurd rfl (ltS_ne (ltS_trans (a1 y q) (b1 x z)))
    subst e
    congr 1
    refine rise_unique a2 b2 fun z => ?_
    constructor
    · intro hz
      rcases List.mem_cons.mp ((h z).mp (List.mem_cons_of_mem _ hz)) with q | q
      · exact absurd q.symm (ltS_ne (a1 z hz))
      · exact q
    · intro hz
      rcases List.mem_cons.mp ((h z).mpr (List.mem_cons_of_mem _ hz)) with q | q
      · exact absurd q.symm (ltS_ne (b1 z hz))
      · exact q
/-! ### the rule -/
section
variable {X : Cx}
def tSortSet (K : PySem.W.Frag) (ta : TE) : TE := fun σ H Q => ta σ H fun x H1 => ∃ l, ∃ xs : List Str, x = .ref l ∧ (SqL K H1 l (xs.map V.str) ∨ SqT K H1 l (xs.map V.str)) ∧ xs.length ≤ 60 ∧
  ∀ ys : List Str, ys.Pairwise (fun a b => ltS a b = true) → (∀ k, k ∈ ys ↔ k ∈ xs) → ys.length ≤ 60 → ∀ p, H1 p = none → Q (.ref p) (upd H1 p (.lst (ys.map V.str)))
theorem any_mem (xs : List Str) (k : Str) : xs.any (· == k) = true ↔ k ∈ xs := by
  rw [List.any_eq_true]
  constructor
  · rintro ⟨x, hx, e⟩
    rw [beq_iff_eq] at e
    rw [← e]; exact hx
  · intro h
    exact ⟨k, h, by rw [beq_iff_eq]⟩
theorem pe_sortSet {a : Expr} {ta : TE} {p p2 q pos : Pos} (hc : X.calm = true) (hg : Gl X "sorted") (hm : X.mg "sorted" = none) (hg2 : Gl X "set") (hm2 : X.mg "set" = none) (ha : PE X a ta)
    (na : starEach [a] X.env = (false, eval a X.env) :: starEach [] X.env := by rfl) : PE X (.Call (.Name "sorted" p) [.Call (.Name "set" p2) [a] [] q] [] pos) (tSortSet X.K ta) := by
  refine ⟨fun pins s σ H Q I h => ?_⟩
  refine Call_ (ld_blt I hg hm boot_sorted ?_)
  refine PyProof.Rows.callWith_builtin1 (PyProof.Rows.args_cons ?_ rfl) rfl rfl
  refine Call_ (ld_blt I hg2 hm2 boot_set ?_)
  refine PyProof.Rows.callWith_type1 (PyProof.Rows.args_cons (thn (ha.run pins s σ H _ I h) fun v s1 ⟨x, H1, I1, r1, q1⟩ => PyProof.Rows.args_nil ?_) na) na rfl
  obtain ⟨l, xs, rfl, hq, h60, q1⟩ := q1
  cases r1
  have sb : xs.length + 1 < scanBound := Nat.lt_of_le_of_lt (Nat.succ_le_succ h60) (by decide)
  have c64 : cntS xs xs.length < 64 := by
    have := cntS_le xs xs.length
    omega
  have fin : ∀ s2 : Shared, SetT X.w s2.heap s1.heap.objs.size (fun k' => xs.any (· == k')) (cntS xs xs.length) → Inv X pins σ H1 s2 →
      wpAny (model X.prog X.w) X.A (spliced (backTo pos (starEach [] X.env))) (fun vs s₂ => wpAny (model X.prog X.w) X.A (call (.builtin "sorted") (Value.ref s1.heap.objs.size :: vs)) (EP X pins σ Q) X.xe s₂) X.xe s2 := fun s2 hS I2 => by
    refine PyProof.Rows.args_nil ?_
    refine sorted_setT (s := s2) hS (I1.ok.hd hc) c64 fun s' p out c ys k g o hp hg' hi hs hnd hmem hlen => ?_
    have hz : (ys.map V.str).length ≤ sizeLine := by rw [List.length_map, hlen, sizeLine_eq]; omega
    have hn : H1 p = none := I2.hok.fresh hp
    have J : Inv X pins σ (upd H1 p (.lst (ys.map V.str))) { s2 with heap := s'.heap, gens := s'.gens, drawn := s'.drawn, toks := s'.toks } :=
      I2.call (ch := []) (Un.laid k hp hn) (I2.hok.laid k hp ⟨hz, out.toList, c, vals_of_strs hi, hg'⟩) (by rw [g]; exact I2.bare) (fun _ z => nomatch z)
    have e : s' = { s2 with heap := s'.heap, gens := s'.gens, drawn := s'.drawn, toks := s'.toks } := by
      cases s'
      cases s2
      cases o
      rfl
    rw [e]
    exact ⟨.ref p, _, J, rfl, q1 ys (sortedS_rise hs hnd) (fun k => (hmem k).trans (any_mem xs k)) (by rw [hlen]; have := cntS_le xs xs.length; omega) p hn⟩
  rcases hq with hq | hq
  · obtain ⟨its, r, pl, hz⟩ := I1.list hq
    exact call_setT_list (I1.ok.hd hc) pl.isList (by simpa using strsAre_of r) sb fun h' tk hS hk => fin _ hS (I1.kept (t' := tk) fun b o e => hk b o (Heap.lt_size e) e)
  · obtain ⟨its, r, pl, hz⟩ := I1.tuple hq
    exact call_setT_tuple (I1.ok.hd hc) pl (by simpa using strsAre_of r) sb fun h' tk hS hk => fin _ hS (I1.kept (t' := tk) fun b o e => hk b o (Heap.lt_size e) e)
/-- sorted(set(texts)) -/
def wSortSet (k : Bool) (p : TP) : TP := fun s Q => p s fun c s1 => match asSeq c s1 with
  | some ds => match unS ds with
    | some xs => xs.length ≤ 60 ∧ ∀ ys : List Str, ys.Pairwise (fun a b => ltS a b = true) → (∀ k, k ∈ ys ↔ k ∈ xs) → newO k (.lst (ys.map D.str)) s1 Q
    | none => False
  | none => False
theorem pp_sortSet {a : Expr} {pa : TP} {p p2 q pos : Pos} (k : Bool) (T : Blt X.mg) (hg : Gl X "sorted") (hg2 : Gl X "set") (hc : X.calm = true) (ha : PP X a pa)
    (na : starEach [a] X.env = (false, eval a X.env) :: starEach [] X.env := by rfl) : PP X (.Call (.Name "sorted" p) [.Call (.Name "set" p2) [a] [] q] [] pos) (wSortSet k pa) :=
  PEw (pe_sortSet hc hg T.sorted hg2 T.set ha na) fun σ H Q ⟨g, s, Qp, hd, hp, kt⟩ => ⟨g, s, _, hd, hp, fun v H1 c g1 s1 hd1 a1 r hb => by
    split at hb
    · rename_i ds e1
      split at hb
      · rename_i xs e2
        obtain ⟨l, us, rfl, hx, lx, rx⟩ := asSeq_q hd1 r e1
        have eu := unS_ok rx e2
        subst eu
        refine ⟨l, xs, rfl, hx, hb.1, fun ys h1 h2 h3 => ?_⟩
        exact new_o k (o := .lst _) (d := .lst _) hd1 (kt.after a1) ⟨by rw [List.length_map, sizeLine_eq]; omega, reps_str ys⟩ (hb.2 ys h1 h2)
      · exact hb.elim
    · exact hb.elim⟩
end
end Bx
end

section
/-! Defs that raise, over data; try. -/
namespace Bx
open PySem L2 PySem.Spec PyProof.Rows
/-- a def that may raise keeps a promise -/
structure CalX (P : Program) (w : World) (K : PySem.W.Frag) (mg : Str → Option Value) (base : Heap) (k : Nat) (name : Str) (ps : List Str) (sp : Spec) : Prop where
  ex : ∃ f fd, FnOk P w K mg base (L2N.CX P w) k f fd ps (liftF K sp) ∧ mg name = some (.ref f) ∧ PySem.W.keepIn K (.ref f) = true ∧ Binds K fd ps [] ∧ ∃ o, K.lookup f = some o ∧ o.data = .func fd
section
variable {P : Program} {w : World} {K : PySem.W.Frag} {mg : Str → Option Value} {base : Heap}
theorem fnN {x qual : Str} {st : Stmt} {f : Addr} {fd : FuncData} {N ps : List Str} {k : Nat} {sp : Spec} {p : TPs} (F : Fun K x qual st f fd) (S : FnScope N ps (defScope st)) (len : ∀ args own Q E, sp args own Q E → args.length = ps.length)
    (hb : ∀ (cdv : Value) (A : Around) (outer : List Env) (s : Shared) (H : Hp) (E : XK), Room k (A.deeper (envOfC qual (defScope st) s.heap.objs.size f cdv)) →
      PPss (cxOf (L2N.CX P w) P w K mg base N qual (defScope st) f cdv A outer s H E) (fun cls d _ H => E cls d H) (defBody st) p)
    (hp : ∀ args own Q E, sp args own Q E → p (endsF own.length Q E) ⟨startE N args, own.map some⟩) : FnOk P w K mg base (L2N.CX P w) (k + 1) f fd ps (liftF K sp) := by
  obtain ⟨oc, od, kV, doc, pm, an, cdv, ct, osl, rfl, lk, hcd⟩ := F.ex
  refine fn_of lk hcd S (liftF_len len) fun A outer s H vs Q E hr hsp => ?_
  obtain ⟨g, args, own, Qp, Ep, hd, h, k1, k2⟩ := hsp
  refine ⟨_, hb cdv A outer s H E hr, g, _, _, hd.start, hp _ _ _ _ h, fin_ok hd k1, fun σ' H' g' s' C hd' a' q => ?_⟩
  have q' : (match takeAll own.length s'.own with | none => False | some own' => Ep C own') := q
  have h0 : g.adr.length = own.length := by simpa using hd.adl
  split at q'
  · exact q'.elim
  · rename_i own' e
    obtain ⟨e1, e2⟩ := takeAll_eq e
    have a0 : Adv g ⟨[], own.map some⟩ H g' s' H' := ⟨a'.F, a'.adr, a'.keep, a'.liv, a'.trk⟩
    obtain ⟨c1, c2, ov⟩ := hd'.cut e1 e2 a0 h0
    exact k2 C H' _ own' c1 c2 q'
theorem mkX {name : Str} {st : Stmt} {N ps : List Str} {k : Nat} {sp : Spec} {p : TPs} (h : Has K mg name st ps) (S : FnScope N ps (defScope st)) (len : ∀ args own Q E, sp args own Q E → args.length = ps.length)
    (hb : ∀ (f : Addr) (cdv : Value) (A : Around) (outer : List Env) (s : Shared) (H : Hp) (E : XK), Room k (A.deeper (envOfC name (defScope st) s.heap.objs.size f cdv)) →
      PPss (cxOf (L2N.CX P w) P w K mg base N name (defScope st) f cdv A outer s H E) (fun cls d _ H => E cls d H) (defBody st) p)
    (hp : ∀ args own Q E, sp args own Q E → p (endsF own.length Q E) ⟨startE N args, own.map some⟩) : CalX P w K mg base (k + 1) name ps sp := by
  obtain ⟨f, fd, F, hm, b⟩ := h.ex
  exact ⟨f, fd, fnN F S len (fun cdv A outer s H E hr => hb f cdv A outer s H E hr) hp, hm, F.kp, b, by
    obtain ⟨oc, od, kV, doc, pm, an, cdv, ct, osl, _, lk, _⟩ := F.ex
    exact ⟨_, lk, rfl⟩⟩
/-- where it does not raise it is a def that lets nothing out -/
theorem CalX.cal {name : Str} {ps : List Str} {k : Nat} {sp : Spec} (c : CalX P w K mg base k name ps sp) : Cal P w K mg base k name ps (fun args own Q _ => sp args own Q fun _ _ => False) := by
  obtain ⟨f, fd, F, r⟩ := c.ex
  refine ⟨f, fd, ⟨fun vs H Q E h => ?_, fun A outer s H args us vs Q E hr e0 hb hv h => ?_⟩, r⟩
  · obtain ⟨g, args, own, Qp, Ep, hd, h, k1, k2⟩ := h
    exact F.len vs H Q E ⟨g, args, own, Qp, _, hd, h, k1, fun _ _ _ _ _ _ z => z.elim⟩
  · obtain ⟨g, ag, own, Qp, Ep, hd, h, k1, k2⟩ := h
    refine codeAny_mono (F.run A outer s H args us vs Q (fun _ _ _ => False) hr e0 hb hv ⟨g, ag, own, Qp, _, hd, h, k1, fun _ _ _ _ _ _ z => z.elim⟩) fun rr s' hq => ?_
    match rr, hq with
    | .ok (.ret u), hq => exact hq
    | .error e, hq => obtain ⟨a, B, H', cls, d, _, _, _, _, _, _, _, hE⟩ := hq; exact hE.elim
theorem CalX.imp {name : Str} {ps : List Str} {k : Nat} {sp sp' : Spec} (c : CalX P w K mg base k name ps sp) (h : ∀ args own Q E, sp' args own Q E → sp args own Q E) : CalX P w K mg base k name ps sp' := by
  obtain ⟨f, fd, F, r⟩ := c.ex
  exact ⟨f, fd, F.imp fun vs H Q E ⟨g, args, own, Qp, Ep, a, b, c⟩ => ⟨g, args, own, Qp, Ep, a, h _ _ _ _ b, c⟩, r⟩
end
/-- what a class of the program's own errors is -/
structure ExcAt (K : PySem.W.Frag) (mg : Str → Option Value) (name : Str) (C : Addr) : Prop where
  gC : mg name = some (.ref C)
  q : PySem.W.excIn K C He.veBase "ValueError.__new__" = true
  kC : PySem.W.keepIn K (.ref C) = true
  s : PySem.W.subIn K (.ref C) (.type "BaseException") = some true
  t : PySem.W.typeIn K (.ref C) = some (.type "type")
section
variable {X : Cx} {W : WX} {e : Expr} {es : List Expr} {pa : TPa} {k j : Nat} {ps : List Str} {sp : Spec} {x : Str} {p pos p2 pos2 : Pos} {px : TPx}
theorem pp_callX (c : CalX X.prog X.w X.K X.mg X.base j x ps sp) (tk : L2N.Takes X W) (hr : Room k X.A) (hj : j ≤ k) (hg : Gl X x) (ha : PPa X (e :: es) pa)
    (hdb : (x == ("__debug__" : Str)) = false := by decide) (he : starEach (e :: es) X.env = (false, eval e X.env) :: starEach es X.env := by rfl) (hpl : (backTo pos (starEach es X.env)).any (·.1) = false := by rfl) : PPx X W (.Call (.Name x p) (e :: es) [] pos) (wCallX sp pa) := by
  obtain ⟨f, fd, F, hm, hk, hb, _⟩ := c.ex
  exact PEw (pe_callS (E := WE W) F (hr.mono hj) hg hm hk hb (fun σ => L2N.passAt tk σ) ha hdb he hpl) fun σ H Q ⟨g, s, Qp, Ex, hd, hp, kt, kx⟩ => ⟨g, s, _, hd, hp, fun vs H1 cs g1 s1 hd1 a1 rs hq =>
    callW_ok hd1 rs hq (kt.after a1) fun C H' g' s' hd' a' z => kx σ H' g' s' C hd' (a1.trans a') z⟩
theorem pp_raise {C : Addr} {m : Str} {jj : Nat} (hc : X.calm = true) (tk : L2N.Takes X W) (c : ExcAt X.K X.mg x C) (hg : Gl X x) (hdb : (x == ("__debug__" : Str)) = false := by decide) :
    PPs X W (.Raise (some (.Call (.Name x p) [.Constant (.str m) jj p2] [] pos)) none pos2) (wRaise C) :=
  PSw (L2N.ps_raise hc tk (L2N.pmk_own F.excBase_ValueError c.q c.gC c.kC (raises_own c.s c.t) hg hdb)) fun D σ H ⟨g, s, E, hd, hp, k, kx⟩ => kx σ H g s C hd .refl hp
theorem pp_falseE {p : TP} (h : ∀ s Q, ¬ p s Q) (he : PE X e (fun _ _ _ => False)) : PP X e p := PEw he fun σ H Q ⟨g, s, Qp, hd, hp, kt⟩ => (h _ _ hp).elim
end
end Bx
end

section
/-! Defs as values, called by what an expression tells; rows that are never reached; tuple(text). -/
namespace Bx
open PySem L2 PySem.Spec PyProof.Rows
section
variable {X : Cx} {W : WX} {e fe : Expr} {es : List Expr} {pa : TPa} {pf : TP} {k j : Nat} {ps : List Str} {sp : Spec} {x : Str} {p pos : Pos}
/-- what is never reached -/
theorem pps_never {st : List Stmt} : PPss X W st (fun _ _ => False) := ⟨fun _ _ _ _ _ _ ⟨_, _, _, _, z, _⟩ => z.elim⟩
/-- a def's address, with what it keeps -/
def FnX (P : Program) (w : World) (K : PySem.W.Frag) (mg : Str → Option Value) (base : Heap) (k : Nat) (sp : Spec) (f : Addr) : Prop :=
  ∃ j fd ps, j ≤ k ∧ FnOk P w K mg base (L2N.CX P w) j f fd ps (liftF K sp) ∧ PySem.W.keepIn K (.ref f) = true ∧ Binds K fd ps []
def wFun (S : Addr → Prop) : TP := fun s Q => ∀ f, S f → Q (.d (.raw (.ref f))) s
theorem pp_fn {P : Program} {w : World} {K : PySem.W.Frag} {mg : Str → Option Value} {base : Heap} (c : CalX P w K mg base j x ps sp) (hj : j ≤ k) (hP : X.prog = P := by rfl) (hw : X.w = w := by rfl) (hK : X.K = K := by rfl) (hM : X.mg = mg := by rfl) (hB : X.base = base := by rfl) (hg : Gl X x := by rfl)
    (hd : (x == ("__debug__" : Str)) = false := by decide) : PP X (.Name x pos) (wFun (FnX P w K mg base k sp)) := by
  subst hP hw hK hM hB
  obtain ⟨f, fd, F, hm, hk, hb, _⟩ := c.ex
  exact PEw (pe_glob (v := .ref f) hg hm rfl hd) fun σ H Q ⟨g, s, Qp, hd, hp, kt⟩ => kt (.ref f) H (.d (.raw (.ref f))) g s hd .refl (.raw _) (hp f ⟨j, fd, ps, hj, F, hk, hb⟩)
def tCallFX (S : Addr → Prop) (sp : Sp) (E : L2.St → XK) (tf : TE) (t : TA) : TE := fun σ H Q => tf σ H fun y H1 => ∃ f, y = .ref f ∧ S f ∧ t σ H1 fun vs H2 => sp vs H2 Q (E σ)
theorem pe_callFX {E : L2.St → XK} {sp : Spec} {tf : TE} {t : TA} (hf : PE X fe tf) (hr : Room k X.A) (hx : ∀ σ, PassesAt (L2N.CX X.prog X.w) X σ (E σ)) (ha : PA X (e :: es) t)
    (ht : eval (.Call fe (e :: es) [] pos) X.env = (do callWith pos (← eval fe X.env) [] (backTo pos (starEach (e :: es) X.env)) (backToKw pos (keywordEach [] X.env))) := by rfl)
    (he : starEach (e :: es) X.env = (false, eval e X.env) :: starEach es X.env := by rfl) (hpl : (backTo pos (starEach es X.env)).any (·.1) = false := by rfl) :
    PE X (.Call fe (e :: es) [] pos) (tCallFX (FnX X.prog X.w X.K X.mg X.base k sp) (liftF X.K sp) E tf t) := by
  refine ⟨fun pins s σ H Q I h => ?_⟩
  refine Call_ (thn (hf.run pins s σ H _ I h) fun u s1 ⟨y, H1, I1, ry, f, ey, ⟨j, fd, ps, hj, F, hk, hb⟩, q⟩ => ?_) ht
  subst ey
  obtain rfl : u = Value.ref f := ry
  refine PySem.W.callWith_K (h₀ := X.base) I.ok.mod.kin hk (thn (ha.run pos pins s1 σ H1 _ I1 q) fun us s2 ⟨vs, H2, I2, r, q2⟩ => ⟨I2.kIn, ?_⟩) he hpl
  exact run_fnS F (hr.mono hj) hb (hx σ) I2 r q2
/-- f(..), f told by an expression -/
def wCallFX (S : Addr → Prop) (sp : Spec) (pf : TP) (pa : TPa) : TPx := fun s Q Ex => pf s fun c s1 => match c with
  | .d (.raw (.ref f)) => S f ∧ pa s1 fun cs s2 => callW sp Ex cs s2 Q
  | _ => False
theorem pp_callFX {P : Program} {w : World} {K : PySem.W.Frag} {mg : Str → Option Value} {base : Heap} (hf : PP X fe pf) (tk : L2N.Takes X W) (hr : Room k X.A) (ha : PPa X (e :: es) pa) (hP : X.prog = P := by rfl) (hw : X.w = w := by rfl) (hK : X.K = K := by rfl) (hM : X.mg = mg := by rfl) (hB : X.base = base := by rfl)
    (ht : eval (.Call fe (e :: es) [] pos) X.env = (do callWith pos (← eval fe X.env) [] (backTo pos (starEach (e :: es) X.env)) (backToKw pos (keywordEach [] X.env))) := by rfl)
    (he : starEach (e :: es) X.env = (false, eval e X.env) :: starEach es X.env := by rfl) (hpl : (backTo pos (starEach es X.env)).any (·.1) = false := by rfl) :
    PPx X W (.Call fe (e :: es) [] pos) (wCallFX (FnX P w K mg base k sp) sp pf pa) := by
  subst hP hw hK hM hB
  exact PEw (pe_callFX (E := WE W) (sp := sp) hf hr (fun σ => L2N.passAt tk σ) ha ht he hpl) fun σ H Q ⟨g, s, Qp, Ex, hd, hp, kt, kx⟩ => ⟨g, s, _, hd, hp, fun v H1 c g1 s1 hd1 a1 r hq => by
    split at hq
    · rename_i f
      cases r
      refine ⟨f, rfl, hq.1, g1, s1, _, hd1, hq.2, fun vs H2 cs g2 s2 hd2 a2 rs hq2 => ?_⟩
      exact callW_ok hd2 rs hq2 (kt.after (a1.trans a2)) fun C H' g' s' hd' a' z => kx σ H' g' s' C hd' (a1.trans (a2.trans a')) z
    · exact hq.elim⟩
end
/-! ### tuple(text) -/
section
variable {X : Cx}
def chrD (x : Str) : List D := x.cps.toList.map fun c => D.str ⟨#[c]⟩
def chrV (x : Str) : List V := x.cps.toList.map fun c => V.str ⟨#[c]⟩
def tTupStr (ta : TE) : TE := fun σ H Q => ta σ H fun v H1 => ∃ x : Str, v = .str x ∧ x.cps.size ≤ sizeLine ∧ ∀ p o, o.dict = none → H1 p = none → Q (.ref p) (upd H1 p (.frz o (.tup (chrV x))))
theorem vals_chr {x : Str} {acc : Array Value} (h : ItemsOf (SignAt x) acc x.cps.size) : Vals (chrV x) acc.toList := by
  have key : ∀ (l : List Nat) (us : List Value), l.length = us.length → (∀ (i : Nat) (c : Nat) (v : Value), l[i]? = some c → us[i]? = some v → ∃ u, v = Value.str ⟨#[c]⟩ u) → Vals (l.map fun c => V.str ⟨#[c]⟩) us := by
    intro l
    induction l with
    | nil => intro us hl _; cases us with
      | nil => exact .nil
      | cons a b => cases hl
    | cons c l ih => intro us hl hv; cases us with
      | nil => cases hl
      | cons u us =>
        refine .cons (hv 0 c u rfl rfl) (ih us (by simpa using hl) fun i c v h1 h2 => hv (i + 1) c v (by simpa using h1) (by simpa using h2))
  refine key _ _ (by rw [Array.length_toList, Array.length_toList, h.1]) fun i c v h1 h2 => ?_
  obtain ⟨c', u, e1, e2⟩ := h.2 i v (by rw [Array.getElem?_toList] at h2; exact h2)
  rw [Array.getElem?_toList] at h1
  rw [h1] at e1; cases e1
  exact ⟨u, e2⟩
theorem boot_tup2 : bootBuiltins "tuple" = some (.type "tuple") := by decide +kernel
theorem pe_tupStr {a : Expr} {ta : TE} {p pos : Pos} (hg : Gl X "tuple") (hm : X.mg "tuple" = none) (hc : X.calm = true) (ha : PE X a ta) (na : starEach [a] X.env = (false, eval a X.env) :: starEach [] X.env := by rfl) :
    PE X (.Call (.Name "tuple" p) [a] [] pos) (tTupStr ta) := by
  refine ⟨fun pins s σ H Q I h => ?_⟩
  refine Call_ (ld_blt I hg hm boot_tup2 (PyProof.Rows.callWith_type1 (args_cons (thn (ha.run pins s σ H _ I h) fun v s1 ⟨y, H1, I1, r1, x, ey, hz, q⟩ => PyProof.Rows.args_nil ?_) na) na))
  subst ey
  obtain ⟨t, rfl⟩ := r1
  refine call_tuple_str (I1.ok.hd hc) x t (fun h' tk acc hk hacc => ?_) hz
  have I2 : Inv X pins σ H1 { s1 with heap := h', toks := tk } := I1.kept hk
  have lz : (chrV x).length ≤ sizeLine := by unfold chrV; rw [List.length_map, Array.length_toList]; exact hz
  refine ⟨.ref h'.objs.size, _, I2.laid (t' := tk) (o := .frz { cls := .type "tuple", data := .seq acc } (.tup (chrV x))) (fun b o e => Heap.get?_push_of_some _ e) (Nat.le_refl _) ⟨Heap.get?_push_size _ rfl, lz, acc.toList, vals_chr hacc, ⟨_, Heap.get?_push_size _ rfl, rfl, 0, by simp⟩⟩, rfl, q _ _ rfl I2.fresh⟩
theorem reps_chr {K : PySem.W.Frag} {O : Addr → Prop} {H : Hp} (x : Str) : Reps K O H (chrV x) (chrD x) := by
  unfold chrV chrD
  induction x.cps.toList with
  | nil => exact .nil
  | cons c l ih => exact .cons _ _ _ _ (.str _) ih
def wTupStr (p : TP) : TP := fun s Q => p s fun c s1 => match c with
  | .d (.str x) => x.cps.size ≤ 1000 ∧ Q (.d (.tup (chrD x))) s1
  | _ => False
theorem pp_tupStr {a : Expr} {pa : TP} {p pos : Pos} (T : Blt X.mg) (hg : Gl X "tuple") (hc : X.calm = true) (ha : PP X a pa) (na : starEach [a] X.env = (false, eval a X.env) :: starEach [] X.env := by rfl) :
    PP X (.Call (.Name "tuple" p) [a] [] pos) (wTupStr pa) :=
  PEw (pe_tupStr hg T.tuple hc ha na) fun σ H Q ⟨g, s, Qp, hd, hp, kt⟩ => ⟨g, s, _, hd, hp, fun v H1 c g1 s1 hd1 a1 r hb => by
    split at hb
    · rename_i x
      cases r
      refine ⟨x, rfl, by rw [sizeLine_eq]; omega, ?_⟩
      exact new_t hd1 (kt.after a1) (by unfold chrV; rw [List.length_map, Array.length_toList, sizeLine_eq]; omega) (reps_chr x) hb.2
    · exact hb.elim⟩
end
end Bx
end

section
namespace Bx
open PySem L2
/-- a fraction in lowest terms is the one that is made of it -/
theorem frac_again {a b : Int} (hb : 0 < b) : deq (dQ (Rat.divInt a b)) (.tup [.int a, .int b]) = decide (Nat.gcd a.natAbs b.natAbs = 1) := by
  obtain ⟨e1, e2⟩ := frac_num a b (by omega)
  rw [if_pos hb, Int.mul_one] at e1 e2
  unfold dQ
  simp only [deq, deqs, Bool.and_true]
  rw [Bool.eq_iff_iff]
  simp only [Bool.and_eq_true, beq_iff_eq, decide_eq_true_eq]
  have hg0 : 0 < Nat.gcd a.natAbs b.natAbs := Nat.gcd_pos_of_pos_right _ (by omega)
  rw [e1, e2]
  constructor
  · rintro ⟨_, h⟩
    have hd : (Nat.gcd a.natAbs b.natAbs : Int) ∣ b := Int.ofNat_dvd_left.mpr (Nat.gcd_dvd_right _ _)
    obtain ⟨k, hk⟩ := hd
    generalize Nat.gcd a.natAbs b.natAbs = g at *
    have hgz : (g : Int) ≠ 0 := by omega
    rw [hk, fdiv_exact _ _ hgz] at h
    have hk0 : k ≠ 0 := by rintro rfl; simp at hk; omega
    have : ((g : Int) - 1) * k = 0 := by rw [Int.sub_mul, ← h]; omega
    rcases Int.mul_eq_zero.mp this with h | h
    · omega
    · exact absurd h hk0
  · intro h
    rw [h]
    simp
def names8 : List Str := ["al", "b", "cog", "dd", "e", "fly", "gg", "h"]
structure ShOk (ss : List Str) : Prop where
  sub : ss.Sublist names8
  two : 2 ≤ ss.length
theorem names8_ok : names8.all nameS = true := by decide +kernel
theorem names8_lt : names8.Pairwise (fun a b => ltS a b = true) := by
  have : ∀ i : Fin names8.length, ∀ j : Fin names8.length, i < j → ltS names8[i] names8[j] = true := by decide +kernel
  rw [List.pairwise_iff_getElem]
  intro i j hi hj hij
  exact this ⟨i, hi⟩ ⟨j, hj⟩ hij
theorem rising_of {xs : List Str} (h : xs.Pairwise (fun a b => ltS a b = true)) : risingS xs = true := by
  unfold risingS
  rw [List.all_eq_true]
  intro k hk
  rw [List.mem_range] at hk
  have h1 : k < xs.length := by omega
  have h2 : k + 1 < xs.length := by omega
  simp only [List.getD, List.getElem?_eq_getElem h1, List.getElem?_eq_getElem h2, Option.getD_some]
  exact List.pairwise_iff_getElem.mp h k (k + 1) h1 h2 (by omega)
theorem ShOk.lt {ss : List Str} (h : ShOk ss) : ss.Pairwise (fun a b => ltS a b = true) := names8_lt.sublist h.sub
theorem ShOk.nodup {ss : List Str} (h : ShOk ss) : ss.Nodup := rising_nodup (rising_of h.lt)
theorem ShOk.len {ss : List Str} (h : ShOk ss) : ss.length ≤ 8 := h.sub.length_le
theorem ShOk.ok {ss : List Str} (h : ShOk ss) : shaftsD (.tup (ss.map dS)) = true := by
  have hl := h.len
  have h2 := h.two
  unfold shaftsD risingD
  dsimp only
  rw [unS_map, List.length_map, decide_eq_true (by omega), decide_eq_true hl]
  dsimp only
  rw [rising_of h.lt]
  have : (ss.map dS).all nameD = true := by
    rw [List.all_eq_true]
    intro d hd
    obtain ⟨s, hs, rfl⟩ := List.mem_map.mp hd
    exact List.all_eq_true.mp names8_ok s (h.sub.subset hs)
  rw [this]; rfl
def sp__law_shafts : Spec := fun args own Q _ => ∃ (a b c : Int) (top : Nat), args = [.loc 0, .d (dN top)] ∧ own = [dWell a b c] ∧ WellOk a b c ∧ 3 ≤ top ∧ top ≤ 8 ∧ ∀ ss a' b', ShOk ss → ss.length ≤ top → WellOk a' b' c → Q (.d (.tup (ss.map dS))) [dWell a' b' c]
theorem len__law_shafts {args own Q E} (z : sp__law_shafts args own Q E) : args.length = 2 := by obtain ⟨a, b, c, t, rfl, _⟩ := z; rfl
def RunOk (ss : List Str) (run : List (Key × D)) : Prop := ∀ s ∈ ss, ∃ n : Int, look (.inr s) run = some (.int n) ∧ n.natAbs ≤ 2
def sp__law_box : Spec := fun args own Q _ => ∃ (a b c : Int) (ss : List Str) (run : List (Key × D)), args = [.loc 0, .d (.tup (ss.map dS)), .d (.dct run)] ∧ own = [dWell a b c] ∧ WellOk a b c ∧ ShOk ss ∧ RunOk ss run ∧ ∀ bx a' b', boxD ss (dBox bx) = true → WellOk a' b' c → Q (.d (dBox bx)) [dWell a' b' c]
theorem len__law_box {args own Q E} (z : sp__law_box args own Q E) : args.length = 3 := by obtain ⟨a, b, c, t, u, rfl, _⟩ := z; rfl
def sp__law_net : Spec := fun args own Q _ => ∃ (a b c : Int) (top : Nat), args = [.loc 0, .d (dN top)] ∧ own = [dWell a b c] ∧ WellOk a b c ∧ 3 ≤ top ∧ top ≤ 8 ∧ ∀ N run a' b', NetOk N → ShOk N.shafts → N.shafts.length ≤ top → RunOk N.shafts run → WellOk a' b' c → Q (.d (.lst [dNet N, .dct run])) [dWell a' b' c]
theorem len__law_net {args own Q E} (z : sp__law_net args own Q E) : args.length = 2 := by obtain ⟨a, b, c, t, rfl, _⟩ := z; rfl
/-- small speeds -/
def HandsSm (h : Hands) : Prop := ∃ e, 0 < e ∧ e ≤ 2 ^ 100 ∧ ∀ q ∈ speedsOf h, Cd (2 ^ 100) e q
def sp__law_hands : Spec := fun args own Q _ => ∃ (a b c : Int) (N : Net) (run : List (Key × D)), args = [.loc 0, .d (dNet N), .d (.dct run)] ∧ own = [dWell a b c] ∧ WellOk a b c ∧ ShOk N.shafts ∧ RunOk N.shafts run ∧ ∀ h a' b', HandsOk N h → HandsSm h → WellOk a' b' c → Q (.d (dHands h)) [dWell a' b' c]
theorem len__law_hands {args own Q E} (z : sp__law_hands args own Q E) : args.length = 3 := by obtain ⟨a, b, c, t, u, rfl, _⟩ := z; rfl
theorem perm_erase {α : Type} : ∀ (l : List α) (j : Nat) (h : j < l.length), ([l[j]] ++ l.eraseIdx j).Perm l
  | a :: l, 0, _ => List.Perm.refl _
  | a :: l, j + 1, h => by
    have ih := perm_erase l j (by simpa using h)
    simp only [List.getElem_cons_succ, List.eraseIdx_cons_succ, List.singleton_append] at ih ⊢
    exact (List.Perm.swap a _ _).trans (ih.cons a)
theorem ltCps_total : ∀ a b : List Nat, a ≠ b → PySem.Spec.ltCps a b = false → PySem.Spec.ltCps b a = true
  | [], [], h, _ => absurd rfl h
  | [], _ :: _, _, h => by simp [PySem.Spec.ltCps] at h
  | _ :: _, [], _, _ => by simp [PySem.Spec.ltCps]
  | x :: a, y :: b, h, h2 => by
    simp only [PySem.Spec.ltCps, Bool.or_eq_false_iff, Bool.and_eq_false_iff, decide_eq_false_iff_not, Bool.or_eq_true, Bool.and_eq_true, decide_eq_true_eq, beq_iff_eq, beq_eq_false_iff_ne] at h2 ⊢
    by_cases e : x = y
    · subst e
      exact .inr ⟨rfl, ltCps_total a b (fun z => h (by rw [z])) (by rcases h2.2 with q | q; exact absurd rfl q; exact q)⟩
    · exact .inl (by omega)
theorem ltS_of {x y : Str} (h : x ≠ y) (h2 : PySem.Spec.ltCps x.cps.toList y.cps.toList = false) : ltS y x = true := by
  have : x.cps.toList ≠ y.cps.toList := fun z => h (by
    cases x; cases y
    simp at z
    rw [z])
  have := ltCps_total _ _ this h2
  unfold ltS
  rw [← PyProof.Rows.ltCps_eq]
  exact this
theorem sorted_lt : ∀ (p : Str) (r : List Str), PyProof.Rows.risingS p r = true → (p :: r).Nodup → (p :: r).Pairwise (fun a b => ltS a b = true)
  | p, [], _, _ => List.pairwise_singleton _ _
  | p, x :: r, h, nd => by
    simp only [PyProof.Rows.risingS, Bool.and_eq_true, Bool.not_eq_true'] at h
    have nd' := List.nodup_cons.mp nd
    have ih := sorted_lt x r h.2 nd'.2
    have px : ltS p x = true := ltS_of (fun z => nd'.1 (by rw [← z]; exact List.mem_cons_self)) h.1
    refine List.pairwise_cons.mpr ⟨fun y hy => ?_, ih⟩
    rcases List.mem_cons.mp hy with e | hy
    · subst e; exact px
    · exact ltS_trans px ((List.pairwise_cons.mp ih).1 y hy)
theorem sorted_strict {ys : List Str} (h : PyProof.Rows.sortedS ys = true) (nd : ys.Nodup) : risingS ys = true := by
  cases ys with
  | nil => rfl
  | cons p r => exact rising_of (sorted_lt p r h nd)
/-- a box of chosen shafts and numbers -/
theorem box_ok {ss ys : List Str} {ns : List Int} (hl : ys.length = 2 ∨ ys.length = 3) (hn : ns.length = ys.length) (hr : risingS ys = true) (hm : ∀ s ∈ ys, s ∈ ss) (hz : ∀ n ∈ ns, n ≠ 0 ∧ n.natAbs ≤ 20) : boxD ss (dBox (ys.zip ns)) = true := by
  unfold dBox boxD
  dsimp only
  have hlen : ((ys.zip ns).map dPair).length = ys.length := by rw [List.length_map, List.length_zip, hn, Nat.min_self]
  have h1 : (decide (((ys.zip ns).map dPair).length = 2) || decide (((ys.zip ns).map dPair).length = 3)) = true := by
    rw [hlen, Bool.or_eq_true]; simpa using hl
  have h2 : ((ys.zip ns).map dPair).all pairD = true := by
    rw [List.all_map, List.all_eq_true]; intro p _; rfl
  have h3 : ((ys.zip ns).map dPair).all (fun p => numD (sndD p)) = true := by
    rw [List.all_map, List.all_eq_true]
    rintro ⟨s, n⟩ hp
    obtain ⟨z1, z2⟩ := hz n (List.of_mem_zip hp).2
    show (decide (-20 ≤ n) && decide (n ≤ 20) && !(n == 0)) = true
    rw [decide_eq_true (by omega), decide_eq_true (by omega), beq_eq_false_iff_ne.mpr z1]; rfl
  have h4 : (((ys.zip ns).map dPair).map fstD) = ys.map dS := by
    rw [List.map_map]
    have : (fstD ∘ dPair) = fun p => dS p.1 := rfl
    rw [this]
    rw [show (ys.zip ns).map (fun p => dS p.1) = ((ys.zip ns).map Prod.fst).map dS by rw [List.map_map]; rfl, List.map_fst_zip (by omega)]
  rw [h1, h2, h3, h4]
  unfold ofD risingD
  dsimp only
  rw [unS_map]
  dsimp only
  rw [hr]
  have : (ys.map dS).all (inD ss) = true := by
    rw [List.all_map, List.all_eq_true]
    intro s hs
    exact decide_eq_true (hm s hs)
  rw [this]; rfl
theorem zip_snoc {α β : Type} : ∀ {ys : List α} {ns : List β} {x : α} {n : β}, ys[ns.length]? = some x → ys.zip (ns ++ [n]) = ys.zip ns ++ [(x, n)]
  | y :: ys, [], x, n, h => by simp at h; simp [h]
  | y :: ys, m :: ns, x, n, h => by
    have := zip_snoc (ys := ys) (ns := ns) (x := x) (n := n) (by simpa using h)
    simp [this]
  | [], _, _, _, h => by simp at h
theorem unI_map {α : Type} (f : α → Int) (l : List α) : unI (l.map fun x => D.int (f x)) = some (l.map f) := by
  induction l with
  | nil => rfl
  | cons a l ih => simp only [List.map_cons, unI, ih]
theorem mw2 {i j : Int} (h1 : i.natAbs < 2 ^ 50) (h2 : j.natAbs < 2 ^ 50) : CMulW i j := mulW_of (a := 50) (b := 50) h1 h2
theorem names8_small : ∀ s ∈ names8, ∀ n, small n (.str s) = true := by
  have : names8.all (fun s => decide (s.length ≤ 1000) && PyData.strOk s) = true := by decide +kernel
  intro s hs n
  simp only [small]
  exact List.all_eq_true.mp this s hs
theorem boxD_names {ss : List Str} {bx : List (Str × Int)} (h : boxD ss (dBox bx) = true) : bx.length ≤ 3 ∧ ∀ p ∈ bx, p.1 ∈ ss := by
  unfold dBox boxD at h
  dsimp only at h
  simp only [Bool.and_eq_true, Bool.or_eq_true, decide_eq_true_eq, List.length_map] at h
  refine ⟨by rcases h.1 with h | h <;> omega, fun p hp => ?_⟩
  have h4 := h.2.2.2
  unfold ofD at h4
  dsimp only at h4
  simp only [Bool.and_eq_true, List.all_map, List.all_eq_true] at h4
  exact of_decide_eq_true (h4.1 p hp)
theorem small_tup_of {n : Nat} {xs : List D} (hl : xs.length ≤ 1000) (h : ∀ d ∈ xs, small n d = true) : small (n + 1) (.tup xs) = true := by
  simp only [small]
  rw [decide_eq_true hl, smalls_iff.mpr h]; rfl
theorem net_ok {ss : List Str} {bs : List (List (Str × Int))} (hS : ShOk ss) (hb : bs.length ≤ 8) (h : ∀ b ∈ bs, boxD ss (dBox b) = true) : NetOk ⟨ss, bs⟩ where
  ok := by
    unfold dNet netD
    dsimp only
    rw [hS.ok, List.length_map, decide_eq_true hb]
    rw [show namesD (.tup (ss.map dS)) = ss by show (unS (ss.map dS)).getD [] = _; rw [unS_map]; rfl]
    have : (bs.map dBox).all (boxD ss) = true := by
      rw [List.all_map, List.all_eq_true]; exact h
    rw [this]; rfl
  sm := by
    have hl := hS.len
    refine small_tup_of (n := 9) (by simp) fun d hd => ?_
    have hd : d = .tup (ss.map dS) ∨ d = .tup (bs.map dBox) := by simpa using hd
    rcases hd with rfl | rfl
    · refine small_tup_of (n := 8) (by rw [List.length_map]; omega) fun d hd => ?_
      obtain ⟨s, hs, rfl⟩ := List.mem_map.mp hd
      exact names8_small s (hS.sub.subset hs) _
    · refine small_tup_of (n := 8) (by rw [List.length_map]; omega) fun d hd => ?_
      obtain ⟨b, hb2, rfl⟩ := List.mem_map.mp hd
      obtain ⟨h1, h2⟩ := boxD_names (h b hb2)
      refine small_tup_of (n := 7) (by rw [List.length_map]; omega) fun d hd => ?_
      obtain ⟨p, hp, rfl⟩ := List.mem_map.mp hd
      refine small_tup_of (n := 6) (by simp) fun d hd => ?_
      have hd : d = .str p.1 ∨ d = .int p.2 := by simpa using hd
      rcases hd with rfl | rfl
      · exact names8_small p.1 (hS.sub.subset (h2 p hp)) _
      · rfl
def kvI (ss : List Str) (ns : List Int) : List (Key × D) := (ss.zip ns).map fun p => (.inr p.1, .int p.2)
theorem prs_int (l : List (Str × Int)) : prsD (l.map dPair) = some (l.map fun p => (.inr p.1, .int p.2)) := prs_box l
theorem look_kvI {ss : List Str} {ns : List Int} (nd : ss.Nodup) (hl : ns.length = ss.length) (hn : ∀ n ∈ ns, n.natAbs ≤ 2) : RunOk ss (mergeD [] (kvI ss ns)) := by
  intro s hs
  obtain ⟨i, hi, rfl⟩ := List.mem_iff_getElem.mp hs
  have hk : (kvI ss ns).map (·.1) = ss.map fun s => (Sum.inr s : Key) := by
    unfold kvI
    rw [List.map_map]
    rw [show ((fun x => x.1) ∘ fun p : Str × Int => ((Sum.inr p.1 : Key), D.int p.2)) = (fun s => (Sum.inr s : Key)) ∘ Prod.fst from rfl, ← List.map_map, List.map_fst_zip (by omega)]
  have hnd : ((kvI ss ns).map (·.1)).Nodup := by
    rw [hk, List.nodup_iff_pairwise_ne, List.pairwise_map]
    exact (List.nodup_iff_pairwise_ne.mp nd).imp fun h e => h (Sum.inr.inj e)
  have hi2 : i < ns.length := by omega
  refine ⟨ns[i], ?_, hn _ (List.getElem_mem hi2)⟩
  rw [look_mergeN _ _ _ hnd, look_of hnd (d := .int ns[i]) ?_]
  · rfl
  · unfold kvI
    refine List.mem_map.mpr ⟨(ss[i], ns[i]), ?_, rfl⟩
    exact List.mem_of_getElem? (i := i) (List.getElem?_zip_eq_some.mpr ⟨List.getElem?_eq_getElem hi, List.getElem?_eq_getElem hi2⟩)
theorem small_le {d : D} {n m : Nat} (h : small n d = true) (hm : n ≤ m) : small m d = true := by
  induction hm with
  | refl => exact h
  | step _ ih => exact small_mono _ _ ih
theorem plain_boxes {ss : List Str} {bs : List (List (Str × Int))} (hS : ShOk ss) (hb : bs.length ≤ 8) (h : ∀ b ∈ bs, boxD ss (dBox b) = true) : plain 64 (.lst (bs.map dBox)) = true := by
  have hs := (net_ok hS hb h).sm
  obtain ⟨m, hm, _, h1⟩ := small_tup hs
  have h2 := h1 (.tup (bs.map dBox)) (by simp)
  obtain ⟨j, hj, _, h3⟩ := small_tup h2
  show plains 63 (bs.map dBox) = true
  exact smalls_plain _ _ (smalls_iff.mpr fun d hd => small_le (h3 d hd) (by omega))
theorem cd12 {t b : Int} (ht : t.natAbs ≤ 6) (h1 : 1 ≤ b) (h4 : b ≤ 4) : Cd 72 12 (Rat.divInt t b) := by
  have hb : b = 1 ∨ b = 2 ∨ b = 3 ∨ b = 4 := by omega
  rw [Rat.divInt_eq_div]
  rcases hb with rfl | rfl | rfl | rfl
  · exact ⟨t * 12, by omega, by push_cast; grind⟩
  · exact ⟨t * 6, by omega, by push_cast; grind⟩
  · exact ⟨t * 4, by omega, by push_cast; grind⟩
  · exact ⟨t * 3, by omega, by push_cast; grind⟩
theorem cd12i {n : Int} (hn : n.natAbs ≤ 6) : Cd 72 12 ((n : Int) : Rat) := ⟨n * 12, by omega, by push_cast; grind⟩
theorem small_dQ {n : Nat} (q : Rat) : small (n + 1) (dQ q) = true := by
  unfold dQ
  refine small_tup_of (by simp) fun d hd => ?_
  have hd : d = .int q.num ∨ d = .int (q.den : Nat) := by simpa using hd
  rcases hd with rfl | rfl <;> rfl
theorem hands_ok {N : Net} {h : Hands} {M d : Nat} (hS : ShOk N.shafts) (hs : (takenOf h).Sublist N.shafts) (hd : 0 < d) (hdM : d ≤ M) (hM : M ≤ 2 ^ 1000) (hq : ∀ q ∈ speedsOf h, Cd M d q) : HandsOk N h where
  ok := by
    unfold dHands pairsD
    dsimp only
    have h1 : (h.map dHand).all pairD = true := by rw [List.all_map, List.all_eq_true]; intro p _; rfl
    have h2 : (h.map dHand).all (fun p => fracD (sndD p)) = true := by rw [List.all_map, List.all_eq_true]; intro p _; exact frac_dQ p.2
    rw [h1, h2]
    have e : ((h.map dHand).map fstD) = (takenOf h).map dS := by unfold takenOf; rw [List.map_map, List.map_map]; rfl
    rw [e]
    unfold ofD risingD
    dsimp only
    rw [unS_map]
    dsimp only
    rw [rising_of (hS.lt.sublist hs)]
    have : ((takenOf h).map dS).all (inD N.shafts) = true := by
      rw [List.all_map, List.all_eq_true]
      intro s m
      exact decide_eq_true (hs.subset m)
    rw [this]; rfl
  sm := by
    have hl : (takenOf h).length ≤ 8 := Nat.le_trans hs.length_le hS.len
    have hl2 : h.length ≤ 8 := by unfold takenOf at hl; rw [List.length_map] at hl; exact hl
    refine small_tup_of (n := 9) (by rw [List.length_map]; omega) fun d hd => ?_
    obtain ⟨p, hp, rfl⟩ := List.mem_map.mp hd
    refine small_tup_of (n := 8) (by simp) fun d hd => ?_
    have hd : d = .str p.1 ∨ d = dQ p.2 := by simpa using hd
    rcases hd with rfl | rfl
    · exact names8_small p.1 (hS.sub.subset (hs.subset (List.mem_map.mpr ⟨p, hp, rfl⟩))) _
    · exact small_dQ p.2
  bd := ⟨d, hd, Nat.le_trans hdM hM, fun q hm => (hq q hm).mono hM⟩
end Bx
end

section
/-! The law's sums over boxes. -/
namespace Bx
open PySem L2
theorem bN_lt : bN < 2 ^ 2400 := by decide +kernel
theorem gN_le : gN ≤ bN := by decide +kernel
def YsIn (ys : List Rat) : Prop := ∃ d, 0 < d ∧ d ≤ bN ∧ ∀ y ∈ ys, Cd bN d y
/-- numbers of pairs with this name, times many -/
def addB (s : Str) (acc y : Rat) : List (Str × Int) → Rat
  | [] => acc
  | p :: b => addB s (if p.1 = s then acc + ((p.2 : Int) : Rat) * y else acc) y b
theorem coef_none {b : List (Str × Int)} {s : Str} (h : s ∉ b.map (·.1)) : coef b s = 0 := by
  unfold coef
  rw [look_box]
  have : ∀ (l : List (Str × Int)), s ∉ l.map (·.1) → ∀ o : Option Int, l.foldl (fun o p => if s = p.1 then some p.2 else o) o = o := by
    intro l
    induction l with
    | nil => intro _ o; rfl
    | cons p l ih =>
      intro h o
      simp only [List.map_cons, List.mem_cons, not_or] at h
      rw [List.foldl_cons, if_neg h.1]
      exact ih h.2 o
  rw [this b h]; rfl
theorem coef_cons {b : List (Str × Int)} {p : Str × Int} {s : Str} (nd : ((p :: b).map (·.1)).Nodup) : coef (p :: b) s = if p.1 = s then p.2 else coef b s := by
  simp only [List.map_cons, List.nodup_cons] at nd
  unfold coef
  rw [look_box, look_box, List.foldl_cons]
  have key : ∀ (l : List (Str × Int)) (o : Option Int), s ∉ l.map (·.1) → l.foldl (fun o p => if s = p.1 then some p.2 else o) o = o := by
    intro l
    induction l with
    | nil => intro o _; rfl
    | cons q l ih =>
      intro o h
      simp only [List.map_cons, List.mem_cons, not_or] at h
      rw [List.foldl_cons, if_neg h.1]
      exact ih o h.2
  by_cases e : p.1 = s
  · subst e
    rw [if_pos rfl, if_pos rfl, key b _ nd.1]; rfl
  · rw [if_neg (Ne.symm e), if_neg e]
theorem addB_eq {s : Str} {y : Rat} : ∀ (b : List (Str × Int)) (acc : Rat), (b.map (·.1)).Nodup → addB s acc y b = acc + ((coef b s : Int) : Rat) * y
  | [], acc, _ => by
    have : coef [] s = 0 := rfl
    rw [this]; simp only [addB]; grind
  | p :: b, acc, nd => by
    have nd' := nd
    simp only [List.map_cons, List.nodup_cons] at nd'
    rw [addB, addB_eq b _ nd'.2, coef_cons nd]
    by_cases e : p.1 = s
    · rw [if_pos e, if_pos e]
      subst e
      rw [coef_none nd'.1]; grind
    · rw [if_neg e, if_neg e]
theorem box_nodup {ss : List Str} {b : List (Str × Int)} (h : boxD ss (dBox b) = true) : (b.map (·.1)).Nodup := by
  unfold dBox boxD at h
  dsimp only at h
  simp only [Bool.and_eq_true] at h
  have h4 := h.2.2.2
  unfold ofD risingD at h4
  dsimp only at h4
  have e : ((b.map dPair).map fstD) = (b.map (·.1)).map dS := by rw [List.map_map, List.map_map]; rfl
  rw [e, unS_map] at h4
  simp only [Bool.and_eq_true] at h4
  exact rising_nodup h4.2
def partN (N : Net) (ys : List Rat) (i : Nat) (s : Str) : Rat := dotA 0 ((N.boxes.take i).map fun b => ((coef b s : Int) : Rat)) (ys.take i)
theorem dotA_app : ∀ (a b : List Rat) (x y acc : Rat), a.length = b.length → dotA acc (a ++ [x]) (b ++ [y]) = dotA acc a b + x * y
  | [], [], x, y, acc, _ => by simp [dotA]
  | p :: a, q :: b, x, y, acc, h => by simp only [List.cons_append, dotA]; exact dotA_app a b x y _ (by simpa using h)
theorem partN_succ {N : Net} {ys : List Rat} {i : Nat} {b : List (Str × Int)} {y : Rat} {s : Str} (hb : N.boxes[i]? = some b) (hy : ys[i]? = some y) : partN N ys (i + 1) s = partN N ys i s + ((coef b s : Int) : Rat) * y := by
  unfold partN
  have h1 := (List.getElem?_eq_some_iff.mp hb).1
  have h2 := (List.getElem?_eq_some_iff.mp hy).1
  rw [List.take_succ, hb, List.take_succ, hy, List.map_append]
  refine dotA_app _ _ _ _ _ ?_
  rw [List.length_map, List.length_take, List.length_take]; omega
/-- sizes of partial sums -/
theorem addB_cd {s : Str} {y : Rat} {d : Nat} (hy : Cd bN d y) : ∀ (b : List (Str × Int)) (acc : Rat) (Z : Nat), (∀ p ∈ b, p.2.natAbs ≤ 20) → Cd Z d acc → Cd (Z + b.length * (20 * bN)) d (addB s acc y b)
  | [], acc, Z, _, h => by simpa [addB] using h
  | p :: b, acc, Z, hp, h => by
    have hn := hp p List.mem_cons_self
    have h2 : Cd (Z + 20 * bN) d (if p.1 = s then acc + ((p.2 : Int) : Rat) * y else acc) := by
      split
      · obtain ⟨n, n1, n2⟩ := h
        obtain ⟨m, m1, m2⟩ := hy
        refine ⟨n + p.2 * m, ?_, ?_⟩
        · have h1 := Int.natAbs_add_le n (p.2 * m)
          have h2 := Nat.mul_le_mul hn m1
          rw [Int.natAbs_mul] at h1
          omega
        · rw [Rat.intCast_add, Rat.intCast_mul, ← n2, ← m2]; grind
      · exact h.mono (by omega)
    have ih := addB_cd (s := s) hy b _ (Z + 20 * bN) (fun q hq => hp q (List.mem_cons_of_mem _ hq)) h2
    rw [addB]
    refine ih.mono ?_
    generalize 20 * bN = w
    rw [List.length_cons, Nat.add_mul, Nat.one_mul]; omega
theorem addB_snoc {s : Str} {y : Rat} (p : Str × Int) : ∀ (b : List (Str × Int)) (acc : Rat), addB s acc y (b ++ [p]) = if p.1 = s then addB s acc y b + ((p.2 : Int) : Rat) * y else addB s acc y b
  | [], acc => by simp only [List.nil_append, addB]
  | q :: b, acc => by simp only [List.cons_append, addB]; exact addB_snoc p b _
theorem coef_mem {b : List (Str × Int)} {p : Str × Int} : ∀ (_ : (b.map (·.1)).Nodup) (_ : p ∈ b), coef b p.1 = p.2 := by
  induction b with
  | nil => intro _ h; exact absurd h List.not_mem_nil
  | cons q b ih =>
    intro nd h
    rw [coef_cons nd]
    simp only [List.map_cons, List.nodup_cons] at nd
    rcases List.mem_cons.mp h with rfl | h
    · rw [if_pos rfl]
    · rw [if_neg (fun e : q.1 = p.1 => nd.1 (e ▸ List.mem_map_of_mem (f := (·.1)) h))]
      exact ih nd.2 h
theorem box_le {ss : List Str} {b : List (Str × Int)} (h : boxD ss (dBox b) = true) {p : Str × Int} (hp : p ∈ b) : p.2.natAbs ≤ 20 := by
  rw [← coef_mem (box_nodup h) hp]; exact coef_le h _
theorem putD_len {kvs : List (Key × D)} {k : Key} {x d : D} (h : look k kvs = some x) : (putD kvs k d).length = kvs.length := by
  unfold putD
  rw [look_any, h]
  simp
theorem putD_le {kvs : List (Key × D)} {k : Key} {d : D} : (putD kvs k d).length ≤ kvs.length + 1 := by
  unfold putD
  split
  · rw [List.length_map]; omega
  · rw [List.length_append]; simp
theorem mergeD_le : ∀ (more acc : List (Key × D)), (mergeD acc more).length ≤ acc.length + more.length
  | [], acc => Nat.le_refl _
  | (j, x) :: more, acc => by
    have h1 := mergeD_le more (putD acc j x)
    have h2 := @putD_le acc j x
    show (mergeD (putD acc j x) more).length ≤ _
    rw [List.length_cons]; omega
theorem prs_const (x : D) : ∀ ss : List Str, prsD (ss.map fun s => .tup [dS s, x]) = some (ss.map fun s => (.inr s, x))
  | [] => rfl
  | s :: ss => by simp only [List.map_cons, dS, prsD, keyD]; rw [show prsD (ss.map fun s => .tup [.str s, x]) = some (ss.map fun s => (.inr s, x)) from prs_const x ss]
theorem look_const (x : D) {s : Str} {ss : List Str} (nd : ss.Nodup) (h : s ∈ ss) : look (.inr s) (mergeD [] (ss.map fun s => (.inr s, x))) = some x := by
  have e : (ss.map fun s => ((.inr s : Key), x)).map (·.1) = ss.map fun s => (.inr s : Key) := by rw [List.map_map]; rfl
  have hnd : (ss.map fun s => (Sum.inr s : Key)).Nodup := by
    rw [List.nodup_iff_pairwise_ne, List.pairwise_map]
    exact (List.nodup_iff_pairwise_ne.mp nd).imp fun h e => h (Sum.inr.inj e)
  rw [look_mergeN _ _ _ (by rw [e]; exact hnd), look_of (by rw [e]; exact hnd) (List.mem_map_of_mem (f := fun s => ((.inr s : Key), x)) h)]
  rfl
/-- a dict of speeds or sums -/
def DictOf (kvs : List (Key × D)) (ss : List Str) (f : Str → Rat) : Prop := ∀ s ∈ ss, look (.inr s) kvs = some (dQ (f s))
def sp__law_sum_for : Spec := fun args own Q _ => ∃ (N : Net) (ys : List Rat), args = [.d (dNet N), .d (.tup (ys.map dQ))] ∧ own = [] ∧ NetOk N ∧ ys.length = N.boxes.length ∧ YsIn ys ∧ ∀ kvs, DictOf kvs N.shafts (partAt N ys) → Q (.d (.dct kvs)) []
theorem len__law_sum_for {args own Q E} (z : sp__law_sum_for args own Q E) : args.length = 2 := by obtain ⟨a, b, rfl, _⟩ := z; rfl
def goesB (N : Net) (f : Str → Rat) : Bool := N.boxes.all fun b => decide (dotA 0 (b.map fun p => ((p.2 : Int) : Rat)) (b.map fun p => f p.1) = 0)
def GoIn (N : Net) (f : Str → Rat) : Prop := ∀ b ∈ N.boxes, DotOk 0 (b.map fun p => ((p.2 : Int) : Rat)) (b.map fun p => f p.1)
def sp__law_goes : Spec := fun args own Q _ => ∃ (N : Net) (kvs : List (Key × D)) (f : Str → Rat), args = [.d (dNet N), .d (.dct kvs)] ∧ own = [] ∧ NetOk N ∧ DictOf kvs N.shafts f ∧ GoIn N f ∧ Q (.d (.bl (goesB N f))) []
theorem len__law_goes {args own Q E} (z : sp__law_goes args own Q E) : args.length = 2 := by obtain ⟨a, b, f, rfl, _⟩ := z; rfl
end Bx
end

section
/-! The law's null space. -/
namespace Bx
open PySem L2
def sp__law_null : Spec := fun args own Q _ => ∃ (R : List (List Rat)) (wide M : Nat), args = [.d (.lst (R.map dV)), .d (dN wide)] ∧ own = [] ∧ RowsIn R wide M ∧ wide ≤ 1000 ∧ R.length ≤ 1000 ∧ gr M (min wide R.length) < 2 ^ 1900 ∧ 1 ≤ M ∧
  ∀ T P, LedInv R wide wide T P (gr M P.length) → Q (.d (.lst ((freeF P wide).map fun f => dV (vecF T P wide f P.length)))) []
theorem len__law_null {args own Q E} (z : sp__law_null args own Q E) : args.length = 2 := by obtain ⟨a, b, M, rfl, _⟩ := z; rfl
theorem ledInv_perm {R : List (List Rat)} {wide p M : Nat} {T T' : Tab} {P : List Nat} (σ τ : Nat → Nat) (I : LedInv R wide p T P M) (hl : T'.length = R.length) (row : ∀ k, k < R.length → rowT T' k = rowT T (σ k))
    (rl : ∀ k, k < R.length → σ k < R.length) (tl : ∀ k, k < R.length → τ k < R.length) (st : ∀ k, k < R.length → σ (τ k) = k) (lo : ∀ k, k < P.length → σ k = k) (hi : ∀ k, P.length ≤ k → P.length ≤ σ k) : LedInv R wide p T' P M := by
  refine ⟨hl, fun k hk => by rw [row k hk]; exact I.wd _ (rl k hk), I.pl, I.lt, I.inc, fun i q hq k hk => ?_, fun k hk1 hk j hj => ?_, fun x e => ?_, ?_, I.fit⟩
  · have hi' := (List.getElem?_eq_some_iff.mp hq).1
    unfold cA
    rw [row k hk]
    have := I.pc i q hq _ (rl k hk)
    unfold cA at this
    rw [this]
    have e3 : (σ k = i) ↔ k = i := by
      by_cases h : k < P.length
      · rw [lo k h]
      · have := hi k (by omega)
        constructor <;> intro e <;> omega
    simp only [e3]
  · unfold cA
    rw [row k hk]
    exact I.zr _ (hi k hk1) (rl k hk) j hj
  · rw [← I.eqv x e]
    have tr : ∀ k, k < R.length → (sumN wide (fun j => cA T' k j * x j) = sumN wide fun j => cA T (σ k) j * x j) ∧
        sumN R.length (fun i => cB T' k i * e i) = sumN R.length fun i => cB T (σ k) i * e i := fun k hk =>
      ⟨sumN_congr fun j _ => by unfold cA; rw [row k hk], sumN_congr fun j _ => by unfold cB; rw [row k hk]⟩
    constructor
    · intro q k hk
      have := q _ (tl k hk)
      rw [(tr _ (tl k hk)).1, (tr _ (tl k hk)).2, st k hk] at this
      exact this
    · intro q k hk
      rw [(tr k hk).1, (tr k hk).2]
      exact q _ (rl k hk)
  · obtain ⟨d, d0, dm, hd⟩ := I.bd
    refine ⟨d, d0, dm, fun k hk => ?_⟩
    unfold cA cB
    rw [row k hk]
    exact hd _ (rl k hk)
def rotT (T : Tab) (r s : Nat) : Tab := (T.eraseIdx s).insertIdx r (rowT T s)
def rotI (r s k : Nat) : Nat := if k < r then k else if k = r then s else if k ≤ s then k - 1 else k
def rotJ (r s k : Nat) : Nat := if k < r then k else if k = s then r else if k < s then k + 1 else k
theorem rot_len {T : Tab} {r s : Nat} (h : r ≤ s) (hs : s < T.length) : (rotT T r s).length = T.length := by
  unfold rotT
  rw [List.length_insertIdx, List.length_eraseIdx, if_pos hs, if_pos (by omega)]; omega
theorem rot_get {T : Tab} {r s k : Nat} (h : r ≤ s) (hs : s < T.length) (hk : k < T.length) : (rotT T r s)[k]? = some (rowT T (rotI r s k)) := by
  unfold rotT
  rw [List.getElem?_insertIdx]
  unfold rotI
  by_cases h1 : k < r
  · rw [if_pos h1, if_pos h1, List.getElem?_eraseIdx, if_pos (by omega)]
    exact rowT_get hk
  · rw [if_neg h1, if_neg h1]
    by_cases h2 : k = r
    · rw [if_pos h2, if_pos h2, List.length_eraseIdx, if_pos hs, if_pos (by omega)]
    · rw [if_neg h2, if_neg h2, List.getElem?_eraseIdx]
      by_cases h3 : k ≤ s
      · rw [if_pos h3, if_pos (by omega)]
        exact rowT_get (by omega)
      · rw [if_neg h3, if_neg (by omega), show k - 1 + 1 = k by omega]
        exact rowT_get hk
theorem ledInv_rot {R : List (List Rat)} {wide p M s : Nat} {T : Tab} {P : List Nat} (I : LedInv R wide p T P M) (h1 : P.length ≤ s) (h2 : s < R.length) : LedInv R wide p (rotT T P.length s) P M := by
  have hs : s < T.length := by rw [I.len]; exact h2
  refine ledInv_perm (rotI P.length s) (rotJ P.length s) I (by rw [rot_len h1 hs, I.len]) (fun k hk => rowT_of (rot_get h1 hs (by rw [I.len]; exact hk))) ?_ ?_ ?_ ?_ ?_
  all_goals intro k hk
  all_goals try unfold rotI
  all_goals try unfold rotJ
  all_goals repeat' split
  all_goals omega
def dT1 (T : Tab) : D := .lst (T.map fun t => dV t.1)
theorem initT_fst (R : List (List Rat)) : R.map dV = (initT R).map fun t => dV t.1 := by
  unfold initT
  rw [List.map_map]
  apply List.ext_getElem?
  intro i
  rw [List.getElem?_map, List.getElem?_map, List.getElem?_zipIdx]
  cases R[i]? <;> rfl
theorem pivT_len {T : Tab} {r place : Nat} : (pivT T r place).length = T.length := by simp [pivT]
def restN (T : Tab) (s place : Nat) : List (List Rat) := ((T.map (·.1)).eraseIdx s).map fun a => moreR a ((rowT T s).1.map (1 / cA T s place * ·)) (el a place)
theorem restN_get {T : Tab} {s place m : Nat} (hs : s < T.length) (hm : m + 1 < T.length) : (restN T s place)[m]? = some (moreR (rowT T (if m < s then m else m + 1)).1 ((rowT T s).1.map (1 / cA T s place * ·)) (el (rowT T (if m < s then m else m + 1)).1 place)) := by
  unfold restN
  rw [List.getElem?_map, List.getElem?_eraseIdx]
  by_cases h : m < s
  · rw [if_pos h, if_pos h, List.getElem?_map, rowT_get (by omega)]; rfl
  · rw [if_neg h, if_neg h, List.getElem?_map, rowT_get hm]; rfl
theorem restN_len {T : Tab} {s place : Nat} (hs : s < T.length) : (restN T s place).length = T.length - 1 := by
  unfold restN
  rw [List.length_map, List.length_eraseIdx, List.length_map, if_pos hs]
theorem rot_piv {T : Tab} {r s place : Nat} (h : r ≤ s) (hs : s < T.length) :
    (restN T s place).take r ++ [(rowT T s).1.map (1 / cA T s place * ·)] ++ (restN T s place).drop r = (pivT (rotT T r s) r place).map (·.1) := by
  have hl := restN_len (place := place) hs
  have hrl : (rotT T r s).length = T.length := rot_len h hs
  have top : rowT (rotT T r s) r = rowT T s := by
    have := rowT_of (rot_get h hs (k := r) (by omega))
    rw [this]; unfold rotI; rw [if_neg (by omega), if_pos rfl]
  apply List.ext_getElem?
  intro k
  by_cases hk : k < T.length
  · rw [List.getElem?_map, rowT_get (by rw [pivT_len, hrl]; exact hk), pivT_row (by rw [hrl]; exact hk)]
    have hc : cA (rotT T r s) r place = cA T s place := by unfold cA; rw [top]
    rw [top, hc]
    unfold cA
    rw [rowT_of (rot_get h hs hk)]
    by_cases h1 : k < r
    · rw [List.append_assoc, List.getElem?_append_left (by rw [List.length_take]; omega), List.getElem?_take_of_lt h1, restN_get hs (by omega), if_pos (by omega), if_neg (by omega)]
      unfold rotI; rw [if_pos h1]; rfl
    · by_cases h2 : k = r
      · subst h2
        rw [if_pos rfl, List.append_assoc, List.getElem?_append_right (by rw [List.length_take]; omega)]
        rw [List.length_take, show k - min k (restN T s place).length = 0 by omega]; rfl
      · rw [if_neg h2, List.getElem?_append_right (by rw [List.length_append, List.length_take, List.length_singleton]; omega), List.getElem?_drop, List.length_append, List.length_take, List.length_singleton,
          show r + (k - (min r (restN T s place).length + 1)) = k - 1 by omega, restN_get hs (by omega)]
        unfold rotI
        rw [if_neg h1, if_neg h2]
        by_cases h3 : k ≤ s
        · rw [if_pos h3, if_pos (by omega)]; rfl
        · rw [if_neg h3, if_neg (by omega), show k - 1 + 1 = k by omega]; rfl
  · rw [List.getElem?_eq_none (by rw [List.length_append, List.length_append, List.length_take, List.length_drop, List.length_singleton]; omega), List.getElem?_eq_none (by rw [List.length_map, pivT_len]; omega)]
theorem filter_first {p : Nat → Bool} {n j0 : Nat} {rest : List Nat} (h : (List.range n).filter p = j0 :: rest) : j0 < n ∧ p j0 = true ∧ ∀ j, j < j0 → p j = false := by
  have hm : j0 ∈ (List.range n).filter p := by rw [h]; exact List.mem_cons_self
  rw [List.mem_filter, List.mem_range] at hm
  refine ⟨hm.1, hm.2, fun j hj => ?_⟩
  have hs : ((List.range n).filter p).Pairwise (· < ·) := List.Pairwise.filter _ List.pairwise_lt_range
  rw [h] at hs
  cases e : p j with
  | false => rfl
  | true =>
    have : j ∈ (List.range n).filter p := by rw [List.mem_filter, List.mem_range]; exact ⟨by omega, e⟩
    rw [h] at this
    rcases List.mem_cons.mp this with h1 | h1
    · omega
    · have := (List.pairwise_cons.mp hs).1 j h1
      omega
theorem drop_rows {T : Tab} {r : Nat} (h : r ≤ T.length) : (T.map fun t => dV t.1).drop r = (List.range (T.length - r)).map fun j => dV (rowT T (r + j)).1 := by
  apply List.ext_getElem?
  intro i
  rw [List.getElem?_drop, List.getElem?_map, List.getElem?_map]
  by_cases hi : i < T.length - r
  · rw [List.getElem?_range hi, rowT_get (by omega)]; rfl
  · rw [List.getElem?_eq_none (by omega), List.getElem?_eq_none (by rw [List.length_range]; omega)]; rfl
theorem getI_tab1 {T : Tab} {k : Nat} (h : k < T.length) : getI (T.map fun t => dV t.1) (k : Int) = some (dV (rowT T k).1) := by
  rw [getI_nat, List.getElem?_map, rowT_get h]; rfl
theorem deq_dV_ne {a b : List Rat} {j : Nat} (ha : j < a.length) (hb : j < b.length) (h : el a j ≠ el b j) : deq (dV a) (dV b) = false := by
  rw [← Bool.not_eq_true]
  intro e
  have key : ∀ (a b : List Rat), deq (dV a) (dV b) = true → a = b := by
    intro a
    induction a with
    | nil => intro b e; cases b with
      | nil => rfl
      | cons => simp [dV, deq, deqs] at e
    | cons x a ih => intro b e; cases b with
      | nil => simp [dV, deq, deqs] at e
      | cons y b =>
        have e2 : deq (dQ x) (dQ y) = true ∧ deq (dV a) (dV b) = true := by
          simpa [dV, deq, deqs] using e
        rw [deq_dQ] at e2
        rw [of_decide_eq_true e2.1, ih b e2.2]
  exact h (by rw [key a b e])
theorem plains_dVf {α : Type} (n : Nat) (f : α → List Rat) : ∀ l : List α, plains (n + 2) (l.map fun t => dV (f t)) = true
  | [] => rfl
  | q :: v => by simp only [List.map_cons, plains, plain_dV, Bool.true_and]; exact plains_dVf n f v
theorem plain_dVs {α : Type} (n : Nat) (f : α → List Rat) (l : List α) : plain (n + 3) (.lst (l.map fun t => dV (f t))) = true := by simp only [plain]; exact plains_dVf n f l
theorem deq_dV_self (v : List Rat) : deq (dV v) (dV v) = true := by
  induction v with
  | nil => rfl
  | cons q v ih =>
    have h1 : deq (dQ q) (dQ q) = true := by rw [deq_dQ]; exact decide_eq_true rfl
    have h2 : deqs (v.map dQ) (v.map dQ) = true := by simpa [dV, deq] using ih
    simp [dV, deq, deqs, h1, h2]
theorem posQ_is {x : D} : ∀ {ds : List D} {s : Nat} {y : D}, (∀ m z, m < s → ds[m]? = some z → deq z x = false) → ds[s]? = some y → deq y x = true → posQ x ds = some s
  | [], _, _, _, h, _ => by simp at h
  | d :: ds, 0, y, _, h, e => by
    simp at h; subst h
    unfold posQ; rw [e]
  | d :: ds, s + 1, y, h1, h, e => by
    unfold posQ
    rw [h1 0 d (by omega) rfl]
    rw [posQ_is (ds := ds) (s := s) (y := y) (fun m z hm hz => h1 (m + 1) z (by omega) (by simpa using hz)) (by simpa using h) e]
    rfl
theorem divInt_inv (q : Rat) : Rat.divInt (q.den : Int) q.num = 1 / q := by
  rw [Rat.div_def, Rat.one_mul, Rat.inv_def]
theorem rot_top {T : Tab} {r s : Nat} (h : r ≤ s) (hs : s < T.length) : rowT (rotT T r s) r = rowT T s := by
  have := rowT_of (rot_get h hs (k := r) (by omega))
  rw [this]; unfold rotI; rw [if_neg (by omega), if_pos rfl]
theorem rotIJ {r s k : Nat} (h : r ≤ s) : rotI r s (rotJ r s k) = k := by
  unfold rotI rotJ
  repeat' split
  all_goals omega
theorem rotJ_lt {r s k n : Nat} (h : r ≤ s) (hs : s < n) (hk : k < n) : rotJ r s k < n := by
  unfold rotJ
  repeat' split
  all_goals omega
theorem rot_row {T : Tab} {r s k : Nat} (h : r ≤ s) (hs : s < T.length) (hk : k < T.length) : rowT (rotT T r s) (rotJ r s k) = rowT T k := by
  rw [rowT_of (rot_get h hs (rotJ_lt h hs hk)), rotIJ h]
theorem rot_sm {R : List (List Rat)} {wide p M s : Nat} {T : Tab} {P : List Nat} (I : LedInv R wide p T P M) (h1 : P.length ≤ s) (h2 : s < R.length) (hp : p < wide) (hne : cA T s p ≠ 0) (hM : 2 * M * M < 2 ^ 4000) :
    Sm (1 / cA T s p) ∧ ∀ j, j < wide → Sm (1 / cA T s p * cA T s j) ∧ ∀ k, k < R.length → Sm (cA T k p * (1 / cA T s p * cA T s j)) := by
  have hs : s < T.length := by rw [I.len]; exact h2
  have I1 := ledInv_rot I h1 h2
  have et : ∀ j, cA (rotT T P.length s) P.length j = cA T s j := fun j => by unfold cA; rw [rot_top h1 hs]
  have hps := piv_sm I1 (by omega) hp (by rw [et]; exact hne) hM
  rw [et] at hps
  refine ⟨hps.1, fun j hj => ?_⟩
  have := hps.2 (cA T s j) (.inl ⟨j, hj, (et j).symm⟩)
  refine ⟨this.1, fun k hk => ?_⟩
  have h3 := this.2 (rotJ P.length s k) (rotJ_lt h1 h2 hk)
  have ek : cA (rotT T P.length s) (rotJ P.length s k) p = cA T k p := by unfold cA; rw [rot_row h1 hs (by rw [I.len]; exact hk)]
  rw [ek] at h3
  exact h3
theorem gr_sq {g : Nat} (hgM : g < 2 ^ 1900) : 2 * g * g < 2 ^ 4000 := by
  have : g * g < 2 ^ 1900 * 2 ^ 1900 := Nat.mul_lt_mul'' hgM hgM
  rw [← Nat.pow_add] at this
  rw [Nat.mul_assoc]
  have h2 : (2 : Nat) ^ 4000 = 2 * 2 ^ (1900 + 1900) * 2 ^ 199 := by rw [← Nat.pow_succ', ← Nat.pow_add]
  have h3 : 1 ≤ 2 ^ 199 := Nat.one_le_two_pow
  have h4 : 2 * 2 ^ (1900 + 1900) * 1 ≤ 2 * 2 ^ (1900 + 1900) * 2 ^ 199 := Nat.mul_le_mul_left _ h3
  omega
theorem null_ne {R : List (List Rat)} {wide p M s : Nat} {T : Tab} {P : List Nat} (I : LedInv R wide p T P M) (h1 : P.length ≤ s) (h2 : s < R.length) (hp : p < wide) (hne : cA T s p ≠ 0) (hz : ∀ m, P.length ≤ m → m < s → cA T m p = 0) :
    ∀ m z, m < s → (T.map fun t => dV t.1)[m]? = some z → deq z (dV (rowT T s).1) = false := by
  intro m z hm hmz
  rw [List.getElem?_map, rowT_get (by rw [I.len]; omega)] at hmz
  cases hmz
  have w1 := (I.wd m (by omega)).1
  have w2 := (I.wd s h2).1
  by_cases h : m < P.length
  · have hq : P[m]? = some P[m] := List.getElem?_eq_getElem h
    have hqp := I.lt _ (List.mem_of_getElem? hq)
    have a1 := I.pc m _ hq m (by omega)
    have a2 := I.pc m _ hq s h2
    rw [if_pos rfl] at a1
    rw [if_neg (by omega)] at a2
    unfold cA at a1 a2
    refine deq_dV_ne (j := P[m]) (by omega) (by omega) ?_
    rw [a1, a2]; decide
  · have a1 := hz m (by omega) hm
    unfold cA at a1 hne
    refine deq_dV_ne (j := p) (by omega) (by omega) ?_
    rw [a1]; exact Ne.symm hne
end Bx
end

section
/-! a, b = x, y where a name is read by a block: the pair is made and taken apart. -/
namespace Bx
open PySem L2 PySem.Spec PyProof.Rows
theorem pp_parC {X : Cx} {W : WX} {i j : Nat} {tg : Expr} {a b : Expr} {pa : TPa} {k2 pt2} {pos : Pos} (ha : PPa X [a, b] pa) (hg : PG X tg (gTup X.K 2 (gCons (gName i) (gCons (gName j) gNil))))
    (hw : swappedStores [tg] (.Tuple [a, b] k2 pt2) X.env = pure none := by rfl)
    (hs : swapsWithSole [tg] (.Tuple [a, b] k2 pt2) pos.line X.env = pure false := by rfl) (h1 : (assignEach [tg] X.env).map (·.2) = [assign tg X.env] := by rfl) :
    PPs X W (.Assign [tg] (.Tuple [a, b] k2 pt2) pos) (wPar i j pa) :=
  PSw (ps_asg (pe_tupP ha) hg hs hw h1) fun D σ H ⟨g, s, E, hd, hp, k, kx⟩ => ⟨g, s, _, hd, hp, fun vs H' cs g' s' hd' a' r hq => by
    split at hq
    · cases r with
      | cons r1 t =>
        cases t with
        | cons r2 t =>
          cases t
          rename_i v1 v2
          refine ⟨by show 2 ≤ sizeLine; decide, fun p o ho hf => ?_⟩
          refine ⟨p, [v1, v2], rfl, .inl (.inr ⟨o, ?_⟩), rfl, v1, [v2], rfl, v2, [], rfl, rfl, ?_⟩
          · simp [upd]
          · have av : Adv g' s' H' g' s' (upd H' p (.frz o (.tup [v1, v2]))) := adv_fresh hf
            refine k.nx (((hd'.fresh hf).set i (RepV.adv r1 av)).set j (c := _) ?_) (a'.trans (av.trans (adv_env.trans adv_env))) hq
            exact RepV.adv (RepV.adv r2 av) adv_env
    · exact hq.elim⟩
end Bx
end

section
/-! Sums over shafts; turnings as functions of shafts. -/
namespace Bx
open PySem L2
/-! ### sums over names -/
def sumS : List Str → (Str → Rat) → Rat
  | [], _ => 0
  | s :: r, g => g s + sumS r g
theorem sumS_cons (s : Str) (r : List Str) (g : Str → Rat) : sumS (s :: r) g = g s + sumS r g := rfl
theorem sumS_nil (g : Str → Rat) : sumS [] g = 0 := rfl
theorem sumS_congr : ∀ {ss : List Str} {f g : Str → Rat}, (∀ s ∈ ss, f s = g s) → sumS ss f = sumS ss g
  | [], _, _, _ => rfl
  | s :: r, f, g, h => by
    rw [sumS_cons, sumS_cons, h s List.mem_cons_self, sumS_congr fun x hx => h x (List.mem_cons_of_mem _ hx)]
theorem sumS_zero {ss : List Str} {f : Str → Rat} (h : ∀ s ∈ ss, f s = 0) : sumS ss f = 0 := by
  rw [sumS_congr (g := fun _ => 0) h]
  clear h
  induction ss with
  | nil => rfl
  | cons s r ih => rw [sumS_cons, ih]; grind
theorem sumS_add (f g : Str → Rat) : ∀ ss, sumS ss (fun s => f s + g s) = sumS ss f + sumS ss g
  | [] => by unfold sumS; grind
  | s :: r => by rw [sumS_cons, sumS_cons, sumS_cons, sumS_add f g r]; grind
theorem sumS_sub (f g : Str → Rat) : ∀ ss, sumS ss (fun s => f s - g s) = sumS ss f - sumS ss g
  | [] => by unfold sumS; grind
  | s :: r => by rw [sumS_cons, sumS_cons, sumS_cons, sumS_sub f g r]; grind
theorem sumS_mul (c : Rat) (f : Str → Rat) : ∀ ss, sumS ss (fun s => c * f s) = c * sumS ss f
  | [] => by unfold sumS; grind
  | s :: r => by rw [sumS_cons, sumS_cons, sumS_mul c f r]; grind
theorem sumS_filter (p : Str → Bool) (f : Str → Rat) : ∀ ss, sumS (ss.filter p) f = sumS ss fun s => if p s = true then f s else 0
  | [] => rfl
  | s :: r => by
    rw [List.filter_cons]
    by_cases h : p s = true
    · rw [if_pos h, sumS_cons, sumS_cons, if_pos h, sumS_filter p f r]
    · rw [if_neg h, sumS_cons, if_neg h, sumS_filter p f r]; grind
theorem sumS_single {t : Str} {f : Str → Rat} : ∀ {ss : List Str}, ss.Nodup → t ∈ ss → (∀ s ∈ ss, s ≠ t → f s = 0) → sumS ss f = f t
  | s :: r, nd, ht, h => by
    have nd' := List.nodup_cons.mp nd
    rw [sumS_cons]
    by_cases e : s = t
    · subst e
      rw [sumS_zero fun x hx => h x (List.mem_cons_of_mem _ hx) (fun z => nd'.1 (z ▸ hx))]; grind
    · have ht' : t ∈ r := by cases ht with
        | head => exact absurd rfl e
        | tail _ h => exact h
      rw [h s List.mem_cons_self e, sumS_single nd'.2 ht' fun x hx => h x (List.mem_cons_of_mem _ hx)]; grind
theorem sumS_append (g : Str → Rat) : ∀ a b : List Str, sumS (a ++ b) g = sumS a g + sumS b g
  | [], b => by rw [List.nil_append, show sumS [] g = 0 from rfl]; grind
  | s :: a, b => by
    rw [List.cons_append, sumS_cons, sumS_cons, sumS_append g a b]; grind
/-- over some of the names -/
theorem sumS_sub_of {ss : List Str} (nd : ss.Nodup) (f : Str → Rat) : ∀ {ts : List Str}, ts.Nodup → (∀ t ∈ ts, t ∈ ss) → sumS ts f = sumS ss fun s => if s ∈ ts then f s else 0
  | [], _, _ => by rw [sumS_zero (ss := ss)]; rfl; intro s _; rw [if_neg List.not_mem_nil]
  | t :: ts, nt, h => by
    have nt' := List.nodup_cons.mp nt
    have e : sumS ss (fun s => if s ∈ t :: ts then f s else 0) = sumS ss (fun s => (if s = t then f s else 0) + (if s ∈ ts then f s else 0)) := by
      refine sumS_congr fun s _ => ?_
      by_cases e1 : s = t
      · subst e1
        rw [if_pos List.mem_cons_self, if_pos rfl, if_neg nt'.1]; grind
      · rw [if_neg e1]
        by_cases e2 : s ∈ ts
        · rw [if_pos (List.mem_cons_of_mem _ e2), if_pos e2]; grind
        · rw [if_neg e2, if_neg (fun z => by cases z with
            | head => exact e1 rfl
            | tail _ z => exact e2 z)]; grind
    rw [e, sumS_add, ← sumS_sub_of nd f nt'.2 fun x hx => h x (List.mem_cons_of_mem _ hx)]
    rw [sumS_single (t := t) nd (h t List.mem_cons_self) (fun s _ z => if_neg z), if_pos rfl]
    rfl
theorem sumS_comm (n : Nat) (g : Nat → Str → Rat) : ∀ ss, sumN n (fun i => sumS ss (g i)) = sumS ss fun s => sumN n fun i => g i s
  | [] => sumN_zero fun _ _ => rfl
  | s :: r => by
    simp only [sumS_cons]
    rw [sumN_add, sumS_comm n g r]
theorem sumN_sumS (g : Str → Rat) : ∀ ss : List Str, sumN ss.length (fun j => g (ss.getD j default)) = sumS ss g
  | [] => rfl
  | s :: r => by
    rw [List.length_cons, sumN_front, sumS_cons, ← sumN_sumS g r]
    rfl
/-! ### numbers at names -/
def atS (ss : List Str) (v : List Rat) (s : Str) : Rat := el v (ss.idxOf s)
theorem idxOf_at {ss : List Str} (nd : ss.Nodup) {j : Nat} (hj : j < ss.length) : ss.idxOf (ss.getD j default) = j := by
  rw [List.getD, List.getElem?_eq_getElem hj, Option.getD_some]
  exact List.Nodup.idxOf_getElem nd j hj
theorem getD_idx {ss : List Str} {s : Str} (h : s ∈ ss) : ss.getD (ss.idxOf s) default = s := by
  rw [List.getD, List.getElem?_eq_getElem (List.idxOf_lt_length_of_mem h), Option.getD_some]
  exact List.getElem_idxOf _
theorem atS_get {ss : List Str} (nd : ss.Nodup) {v : List Rat} {j : Nat} (hj : j < ss.length) : atS ss v (ss.getD j default) = el v j := by
  unfold atS; rw [idxOf_at nd hj]
theorem atS_at {ss : List Str} (nd : ss.Nodup) {v : List Rat} {j : Nat} {s : Str} (h : ss[j]? = some s) : atS ss v s = el v j := by
  have hj := (List.getElem?_eq_some_iff.mp h).1
  have := atS_get nd (v := v) hj
  rw [List.getD, h, Option.getD_some] at this
  exact this
theorem sum_atS {ss : List Str} (nd : ss.Nodup) (c : Str → Rat) (v : List Rat) : sumN ss.length (fun j => c (ss.getD j default) * el v j) = sumS ss fun s => c s * atS ss v s := by
  rw [← sumN_sumS]
  refine sumN_congr fun j hj => ?_
  rw [atS_get nd hj]
/-! ### turnings -/
def cf (N : Net) (i : Nat) (s : Str) : Rat := ((coef (N.boxes.getD i []) s : Int) : Rat)
def TurnN (N : Net) (f : Str → Rat) : Prop := ∀ i, i < N.boxes.length → sumS N.shafts (fun s => cf N i s * f s) = 0
theorem nul_rows {N : Net} {ss : List Str} {x : Nat → Rat} : Nul (rowsOf N ss) ss.length x ↔ ∀ i, i < N.boxes.length → sumN ss.length (fun j => cf N i (ss.getD j default) * x j) = 0 := by
  unfold Nul
  rw [rows_len]
  constructor
  · intro h i hi
    rw [← h i hi]
    exact sumN_congr fun j hj => by rw [cR_rows hi hj]; rfl
  · intro h i hi
    rw [← h i hi]
    exact sumN_congr fun j hj => by rw [cR_rows hi hj]; rfl
theorem nul_fun {N : Net} {ss : List Str} {f : Str → Rat} : Nul (rowsOf N ss) ss.length (fun j => f (ss.getD j default)) ↔ ∀ i, i < N.boxes.length → sumS ss (fun s => cf N i s * f s) = 0 := by
  rw [nul_rows]
  constructor
  · intro h i hi; rw [← h i hi, ← sumN_sumS]
  · intro h i hi; rw [← h i hi, ← sumN_sumS]
theorem nul_vec {N : Net} {ss : List Str} (nd : ss.Nodup) {v : List Rat} : Nul (rowsOf N ss) ss.length (el v) ↔ ∀ i, i < N.boxes.length → sumS ss (fun s => cf N i s * atS ss v s) = 0 := by
  rw [nul_rows]
  constructor
  · intro h i hi; rw [← h i hi, sum_atS nd]
  · intro h i hi; rw [← h i hi, sum_atS nd]
/-- all ways of nought -/
structure NullOk (R : List (List Rat)) (wide : Nat) (lot : List (List Rat)) (Fr : List Nat) : Prop where
  ll : ∀ v ∈ lot, v.length = wide
  frl : Fr.length = lot.length
  frw : ∀ f ∈ Fr, f < wide
  frn : Fr.Nodup
  one : ∀ (l k : Nat) (v : List Rat) (f : Nat), lot[l]? = some v → Fr[k]? = some f → el v f = if l = k then 1 else 0
  nul : ∀ v ∈ lot, Nul R wide (el v)
  all : ∀ x, Nul R wide x → ∀ j, j < wide → x j = sumN lot.length fun l => x (Fr.getD l 0) * el (lot.getD l []) j
theorem SolOk.null {R : List (List Rat)} {ends : List Rat} {wide : Nat} {found : List Rat} {lot : List (List Rat)} {Fr : List Nat} (h : SolOk R ends wide found lot Fr) : NullOk R wide lot Fr :=
  ⟨h.ll, h.frl, h.frw, h.frn, h.one, h.nul, h.all⟩
theorem getD_mem {α : Type} {l : List α} {i : Nat} {d : α} (h : i < l.length) : l.getD i d ∈ l := by
  rw [List.getD, List.getElem?_eq_getElem h]; exact List.getElem_mem h
/-- what moves in some way of nought moves in one of the lot -/
theorem NullOk.moves {R : List (List Rat)} {wide : Nat} {lot : List (List Rat)} {Fr : List Nat} (h : NullOk R wide lot Fr) {k : Nat} (hk : k < wide) : (∃ v ∈ lot, el v k ≠ 0) ↔ ∃ x, Nul R wide x ∧ x k ≠ 0 := by
  constructor
  · rintro ⟨v, hv, hn⟩
    exact ⟨el v, h.nul v hv, hn⟩
  · rintro ⟨x, hx, hn⟩
    apply Classical.byContradiction
    intro hno
    apply hn
    rw [h.all x hx k hk]
    refine sumN_zero fun l hl => ?_
    have : el (lot.getD l []) k = 0 := Classical.byContradiction fun z => hno ⟨_, getD_mem hl, z⟩
    rw [this]; grind
/-! ### the ways of hands -/
theorem loose_nd {N : Net} {h : Hands} (nd : N.shafts.Nodup) : (looseOf N h).Nodup := nd.filter _
theorem mem_loose {N : Net} {h : Hands} {s : Str} : s ∈ looseOf N h ↔ s ∈ N.shafts ∧ s ∉ takenOf h := by
  unfold looseOf; rw [List.mem_filter]
  constructor
  · rintro ⟨a, b⟩; exact ⟨a, of_decide_eq_true b⟩
  · rintro ⟨a, b⟩; exact ⟨a, decide_eq_true b⟩
/-- the speed that hands have at a shaft -/
def spAt : Hands → Str → Rat
  | [], _ => 0
  | p :: h, s => if p.1 = s then p.2 else spAt h s
theorem look_kvsH (s : Str) : ∀ h : Hands, look (.inr s) (kvsH h) = if s ∈ takenOf h then some (dQ (spAt h s)) else none
  | [] => rfl
  | p :: h => by
    have e : kvsH (p :: h) = (.inr p.1, dQ p.2) :: kvsH h := rfl
    have e2 : takenOf (p :: h) = p.1 :: takenOf h := rfl
    rw [e, e2]
    simp only [look, spAt]
    by_cases q : p.1 = s
    · subst q
      rw [if_pos rfl, if_pos List.mem_cons_self, if_pos rfl]
    · rw [if_neg (fun z => q (Sum.inr.inj z)), if_neg q, look_kvsH s h]
      by_cases m : s ∈ takenOf h
      · rw [if_pos m, if_pos (List.mem_cons_of_mem _ m)]
      · rw [if_neg m, if_neg (fun z => by cases z with
          | head => exact q rfl
          | tail _ z => exact m z)]
theorem kvsH_keys (h : Hands) : (kvsH h).map (·.1) = (takenOf h).map .inr := by
  unfold kvsH takenOf; rw [List.map_map, List.map_map]; rfl
theorem nodup_inr {l : List Str} (h : l.Nodup) : (l.map (Sum.inr : Str → Key)).Nodup :=
  List.Pairwise.map _ (fun a b hab e => hab (Sum.inr.inj e)) h
theorem look_hands {h : Hands} (nd : (takenOf h).Nodup) (s : Str) : look (.inr s) (mergeD [] (kvsH h)) = if s ∈ takenOf h then some (dQ (spAt h s)) else none := by
  rw [look_mergeN _ _ _ (by rw [kvsH_keys]; exact nodup_inr nd), look_kvsH]
  split <;> rfl
theorem sum_hands (c : Str → Rat) : ∀ h : Hands, (takenOf h).Nodup → dotA 0 ((takenOf h).map c) (speedsOf h) = sumS (takenOf h) fun s => c s * spAt h s := by
  intro h nd
  rw [dotR h.length (by unfold takenOf; rw [List.length_map, List.length_map]) (by unfold speedsOf; rw [List.length_map])]
  induction h with
  | nil => rfl
  | cons p h ih =>
    have e2 : takenOf (p :: h) = p.1 :: takenOf h := rfl
    have e3 : speedsOf (p :: h) = p.2 :: speedsOf h := rfl
    rw [e2] at nd
    have nd' := List.nodup_cons.mp nd
    rw [List.length_cons, sumN_front, e2, e3, List.map_cons, sumS_cons]
    have t1 : ∀ i, el (c p.1 :: (takenOf h).map c) (i + 1) = el ((takenOf h).map c) i := fun _ => rfl
    have t2 : ∀ i, el (p.2 :: speedsOf h) (i + 1) = el (speedsOf h) i := fun _ => rfl
    simp only [t1, t2]
    rw [ih nd'.2]
    have t3 : el (c p.1 :: (takenOf h).map c) 0 = c p.1 := rfl
    have t4 : el (p.2 :: speedsOf h) 0 = p.2 := rfl
    rw [t3, t4]
    congr 1
    · unfold spAt; rw [if_pos rfl]
    · refine sumS_congr fun s hs => ?_
      have : p.1 ≠ s := fun z => nd'.1 (z ▸ hs)
      rw [show spAt (p :: h) s = spAt h s by simp only [spAt]; rw [if_neg this]]
/-- the sum at a shaft -/
theorem partAt_sum {N : Net} {ys : List Rat} (hl : ys.length = N.boxes.length) (s : Str) : partAt N ys s = sumN N.boxes.length fun i => cf N i s * el ys i := by
  unfold partAt
  rw [dotR N.boxes.length (by rw [List.length_map]) hl]
  refine sumN_congr fun i hi => ?_
  congr 1
  apply el_get
  rw [List.getElem?_map, List.getElem?_eq_getElem hi]
  unfold cf
  rw [List.getD, List.getElem?_eq_getElem hi]; rfl
theorem el_ends {N : Net} {h : Hands} (nd : (takenOf h).Nodup) {i : Nat} (hi : i < N.boxes.length) : el (endsOf N h) i = 0 - sumS (takenOf h) fun s => cf N i s * spAt h s := by
  apply el_get
  unfold endsOf rowsOf
  rw [List.getElem?_map, List.getElem?_map, List.getElem?_eq_getElem hi]
  simp only [Option.map_some]
  unfold rowOf
  rw [sum_hands (fun s => ((coef N.boxes[i] s : Int) : Rat)) h nd]
  congr 1
  congr 1
  refine sumS_congr fun s _ => ?_
  unfold cf
  rw [List.getD, List.getElem?_eq_getElem hi]; rfl
/-- a sum over all shafts: with hands, without -/
theorem sum_split {N : Net} {h : Hands} (hN : NetOk N) (H : HandsOk N h) (g : Str → Rat) : sumS N.shafts g = sumS (takenOf h) g + sumS (looseOf N h) g := by
  obtain ⟨hs, nd⟩ := hands_of H
  rw [sumS_sub_of hN.nodup g nd hs]
  unfold looseOf
  rw [sumS_filter, ← sumS_add]
  refine sumS_congr fun s _ => ?_
  by_cases m : s ∈ takenOf h
  · rw [if_pos m, if_neg (fun z => absurd m (of_decide_eq_true z))]; grind
  · rw [if_neg m, if_pos (decide_eq_true m)]; grind
/-- how all turn, by hands and the rest -/
def wF (N : Net) (h : Hands) (found : List Rat) (s : Str) : Rat := if s ∈ takenOf h then spAt h s else atS (looseOf N h) found s
section
variable {N : Net} {h : Hands} {found : List Rat} {lot : List (List Rat)} {Fr : List Nat}
theorem wF_turn (hN : NetOk N) (H : HandsOk N h) (hs : ∀ i, i < (rowsOf N (looseOf N h)).length → sumN (looseOf N h).length (fun j => cR (rowsOf N (looseOf N h)) i j * el found j) = el (endsOf N h) i) : TurnN N (wF N h found) := by
  intro i hi
  obtain ⟨hm, nd⟩ := hands_of H
  rw [sum_split hN H]
  have e1 : sumS (takenOf h) (fun s => cf N i s * wF N h found s) = sumS (takenOf h) fun s => cf N i s * spAt h s := sumS_congr fun s hs => by unfold wF; rw [if_pos hs]
  have e2 : sumS (looseOf N h) (fun s => cf N i s * wF N h found s) = sumS (looseOf N h) fun s => cf N i s * atS (looseOf N h) found s := sumS_congr fun s hs => by unfold wF; rw [if_neg (mem_loose.mp hs).2]
  have e3 := hs i (by rw [rows_len]; exact hi)
  rw [el_ends nd hi] at e3
  have e4 : sumN (looseOf N h).length (fun j => cR (rowsOf N (looseOf N h)) i j * el found j) = sumS (looseOf N h) fun s => cf N i s * atS (looseOf N h) found s := by
    rw [← sum_atS (loose_nd hN.nodup)]
    exact sumN_congr fun j hj => by rw [cR_rows hi hj]; rfl
  rw [e1, e2, ← e4, e3]; grind
theorem WaysOk.turn (hN : NetOk N) (H : HandsOk N h) (w : WaysOk N h found lot Fr) : TurnN N (wF N h found) := wF_turn hN H w.ok.sol
theorem wF_taken {s : Str} (hs : s ∈ takenOf h) : wF N h found s = spAt h s := by unfold wF; rw [if_pos hs]
/-- still at the hands' shafts: a way of nought of the rest -/
theorem still_loose (hN : NetOk N) (H : HandsOk N h) {f : Str → Rat} (z : ∀ s ∈ takenOf h, f s = 0) : TurnN N f ↔ Nul (rowsOf N (looseOf N h)) (looseOf N h).length fun j => f ((looseOf N h).getD j default) := by
  rw [nul_fun]
  have e : ∀ i, sumS N.shafts (fun s => cf N i s * f s) = sumS (looseOf N h) (fun s => cf N i s * f s) := fun i => by
    rw [sum_split hN H, sumS_zero (ss := takenOf h) fun s hs => by rw [z s hs]; grind]; grind
  constructor
  · intro t i hi; rw [← e]; exact t i hi
  · intro t i hi; rw [e]; exact t i hi
/-- what moves with hands' shafts still -/
def Moves (N : Net) (ss : List Str) (s : Str) : Prop := ∃ f, TurnN N f ∧ (∀ x ∈ ss, f x = 0) ∧ f s ≠ 0
theorem WaysOk.moves (hN : NetOk N) (H : HandsOk N h) (w : WaysOk N h found lot Fr) {k : Nat} {s : Str} (hk : (looseOf N h)[k]? = some s) : (∃ v ∈ lot, el v k ≠ 0) ↔ Moves N (takenOf h) s := by
  have hkl := (List.getElem?_eq_some_iff.mp hk).1
  have hsl : s ∈ looseOf N h := List.mem_of_getElem? hk
  have hks : (looseOf N h).getD k default = s := by rw [List.getD, hk]; rfl
  rw [w.ok.null.moves hkl]
  constructor
  · rintro ⟨x, hx, hn⟩
    have ef : ∀ j, j < (looseOf N h).length → (if (looseOf N h).getD j default ∈ takenOf h then (0 : Rat) else x ((looseOf N h).idxOf ((looseOf N h).getD j default))) = x j := fun j hj => by
      rw [if_neg (mem_loose.mp (getD_mem hj)).2, idxOf_at (loose_nd hN.nodup) hj]
    refine ⟨fun s => if s ∈ takenOf h then 0 else x ((looseOf N h).idxOf s), ?_, fun y hy => if_pos hy, ?_⟩
    · rw [still_loose hN H (fun y hy => if_pos hy), nul_rows]
      intro i hi
      exact Eq.trans (sumN_congr fun j hj => by rw [ef j hj]) ((nul_rows.mp hx) i hi)
    · have := ef k hkl
      rw [hks] at this
      dsimp only
      rw [this]; exact hn
  · rintro ⟨f, hf, hz, hn⟩
    exact ⟨_, (still_loose hN H hz).mp hf, by rw [hks]; exact hn⟩
/-- what bars lets no turning be -/
theorem BarOk.parts (hN : NetOk N) {t : List Rat} (b : BarOk N h t) : ∀ s ∈ looseOf N h, partAt N t s = 0 := by
  intro s hs
  have nd := loose_nd (h := h) hN.nodup
  have hk := List.idxOf_lt_length_of_mem hs
  have := b.bar fun j => if j = (looseOf N h).idxOf s then 1 else 0
  rw [partAt_sum b.len, ← this]
  refine sumN_congr fun i hi => ?_
  rw [sumN_single hk (fun j _ hj => by rw [if_neg hj]; grind), if_pos rfl, cR_rows hi hk, getD_idx hs]
  unfold cf; grind
theorem bar_total (H : HandsOk N h) {t : List Rat} (hl : t.length = N.boxes.length) : dotA 0 t (endsOf N h) = 0 - sumS (takenOf h) fun s => partAt N t s * spAt h s := by
  obtain ⟨hm, nd⟩ := hands_of H
  rw [dotR N.boxes.length hl ends_len]
  have e : sumN N.boxes.length (fun i => el t i * el (endsOf N h) i) = sumN N.boxes.length (fun i => 0 - sumS (takenOf h) fun s => el t i * (cf N i s * spAt h s)) := by
    refine sumN_congr fun i hi => ?_
    rw [el_ends nd hi, sumS_mul]; grind
  rw [e, sumN_sub, sumN_zero (fun _ _ => rfl), sumS_comm]
  congr 1
  refine sumS_congr fun s _ => ?_
  rw [partAt_sum hl]
  rw [show (sumN N.boxes.length fun i => cf N i s * el t i) * spAt h s = spAt h s * sumN N.boxes.length fun i => cf N i s * el t i by grind, ← sumN_mul]
  exact sumN_congr fun i _ => by grind
/-- in a turning the sum of boxes comes to nought -/
theorem work_zero {f : Str → Rat} (hf : TurnN N f) {t : List Rat} (hl : t.length = N.boxes.length) : sumS N.shafts (fun s => partAt N t s * f s) = 0 := by
  have e : sumS N.shafts (fun s => partAt N t s * f s) = sumN N.boxes.length fun i => el t i * sumS N.shafts fun s => cf N i s * f s := by
    have : ∀ i, el t i * sumS N.shafts (fun s => cf N i s * f s) = sumS N.shafts fun s => el t i * (cf N i s * f s) := fun i => (sumS_mul _ _ _).symm
    simp only [this]
    rw [sumS_comm]
    refine sumS_congr fun s _ => ?_
    rw [partAt_sum hl, show (sumN N.boxes.length fun i => cf N i s * el t i) * f s = f s * sumN N.boxes.length fun i => cf N i s * el t i by grind, ← sumN_mul]
    exact sumN_congr fun i _ => by grind
  rw [e]
  exact sumN_zero fun i hi => by rw [hf i hi]; grind
theorem bar_none (hN : NetOk N) (H : HandsOk N h) {t : List Rat} (hl : t.length = N.boxes.length) (hp : ∀ s ∈ looseOf N h, partAt N t s = 0) {f : Str → Rat} (hf : TurnN N f) (hh : ∀ s ∈ takenOf h, f s = spAt h s) :
    sumS (takenOf h) (fun s => partAt N t s * spAt h s) = 0 := by
  have := work_zero hf hl
  rw [sum_split hN H, sumS_zero (ss := looseOf N h) fun s hs => by rw [hp s hs]; grind] at this
  rw [← sumS_congr (f := fun s => partAt N t s * f s) fun s hs => by rw [hh s hs]]
  grind
theorem bar_not (hN : NetOk N) (H : HandsOk N h) {t : List Rat} (b : BarOk N h t) {f : Str → Rat} (hf : TurnN N f) (hh : ∀ s ∈ takenOf h, f s = spAt h s) : False := by
  apply b.ne
  rw [bar_total H b.len, bar_none hN H b.len (b.parts hN) hf hh]; grind
theorem bar_ways (hN : NetOk N) (H : HandsOk N h) {t : List Rat} (b : BarOk N h t) (w : WaysOk N h found lot Fr) : False :=
  bar_not hN H b (w.turn hN H) fun s hs => wF_taken hs
end
end Bx
end

section
/-! The law's lots of turnings; bars, reasons, ways: specs and what they rest on. -/
namespace Bx
open PySem L2
theorem el_zeros (n i : Nat) : el (List.replicate n 0) i = 0 := by
  unfold el
  rw [List.getD, List.getElem?_replicate]
  split <;> rfl
theorem zeros_in (n : Nat) : EndsIn (List.replicate n 0) 1 := ⟨1, by decide, by decide, fun q hq => ⟨0, by decide, by
  rw [(List.mem_replicate.mp hq).2]; grind⟩⟩
section
variable {R : List (List Rat)} {wide M : Nat} {T : Tab} {P : List Nat}
theorem null_of (I : LedInv R wide wide T P M) : NullOk R wide ((freeF P wide).map fun f => vecF T P wide f P.length) (freeF P wide) := by
  refine (solOk_of (ends := List.replicate R.length 0) I List.length_replicate fun k _ hk => ?_).null
  rw [rhs_sum I List.length_replicate hk]
  exact sumN_zero fun i _ => by rw [el_zeros]; grind
theorem null_bd (I : LedInv R wide wide T P M) (hn : R.length ≤ 1000) (hM : M < 2 ^ 1900) (h1 : 1 ≤ M) : ∃ d, 0 < d ∧ d ≤ M ∧ ∀ v ∈ (freeF P wide).map (fun f => vecF T P wide f P.length), ∀ j, j < wide → Cd M d (el v j) :=
  (bdL_of (ends := List.replicate R.length 0) I List.length_replicate (zeros_in _) hn hM (by decide) h1).1
end
/-! ### the rows of boxes and of still shafts -/
def stillRows (N : Net) (ss : List Str) : List (List Rat) := rowsOf N N.shafts ++ ss.map (unitS N.shafts)
theorem still_len {N : Net} {ss : List Str} : (stillRows N ss).length = N.boxes.length + ss.length := by
  unfold stillRows; rw [List.length_append, rows_len, List.length_map]
theorem cR_still1 {N : Net} {ss : List Str} {k j : Nat} (hk : k < N.boxes.length) : cR (stillRows N ss) k j = cR (rowsOf N N.shafts) k j := by
  unfold cR stillRows
  rw [List.getD, List.getElem?_append_left (by rw [rows_len]; exact hk)]; rfl
theorem el_unitS {ss : List Str} {s : Str} {j : Nat} (hj : j < ss.length) : el (unitS ss s) j = if ss.getD j default = s then 1 else 0 := by
  unfold unitS
  apply el_get
  rw [List.getElem?_map, List.getD, List.getElem?_eq_getElem hj]; rfl
theorem cR_still2 {N : Net} {ss : List Str} {m j : Nat} (hm : m < ss.length) (hj : j < N.shafts.length) : cR (stillRows N ss) (N.boxes.length + m) j = if N.shafts.getD j default = ss.getD m default then 1 else 0 := by
  unfold cR stillRows
  have e : ss[m]? = some (ss.getD m default) := by rw [List.getD, List.getElem?_eq_getElem hm]; rfl
  rw [List.getD, List.getElem?_append_right (by rw [rows_len]; omega), rows_len, show N.boxes.length + m - N.boxes.length = m by omega, List.getElem?_map, e]
  rw [show (some (ss.getD m default)).map (unitS N.shafts) = some (unitS N.shafts (ss.getD m default)) from rfl, Option.getD_some, el_unitS hj]
theorem stillIn {N : Net} (h : NetOk N) (ss : List Str) : RowsIn (stillRows N ss) N.shafts.length 20 := by
  obtain ⟨h1, _⟩ := rowsIn_net h N.shafts
  refine ⟨fun r hr => ?_, 1, by decide, by decide, fun k hk j hj => ?_⟩
  · unfold stillRows at hr
    rcases List.mem_append.mp hr with hr | hr
    · exact h1 r hr
    · obtain ⟨s, _, rfl⟩ := List.mem_map.mp hr
      unfold unitS; rw [List.length_map]
  · rw [still_len] at hk
    by_cases hb : k < N.boxes.length
    · rw [cR_still1 hb, cR_rows hb hj]
      exact cd_int (coef_le (h.parts.2.2 _ (getD_mem hb)) _)
    · rw [show k = N.boxes.length + (k - N.boxes.length) by omega, cR_still2 (by omega) hj]
      split
      · exact ⟨1, by decide, by grind⟩
      · exact ⟨0, by decide, by grind⟩
theorem nul_still {N : Net} (nd : N.shafts.Nodup) {ss : List Str} (hs : ∀ s ∈ ss, s ∈ N.shafts) {x : Nat → Rat} : Nul (stillRows N ss) N.shafts.length x ↔ Nul (rowsOf N N.shafts) N.shafts.length x ∧ ∀ s ∈ ss, x (N.shafts.idxOf s) = 0 := by
  have two : ∀ m, m < ss.length → sumN N.shafts.length (fun j => cR (stillRows N ss) (N.boxes.length + m) j * x j) = x (N.shafts.idxOf (ss.getD m default)) := fun m hm => by
    have hk := List.idxOf_lt_length_of_mem (hs _ (getD_mem (d := default) hm))
    rw [sumN_single hk]
    · rw [cR_still2 hm hk, getD_idx (hs _ (getD_mem hm)), if_pos rfl]; grind
    · intro j hj hne
      rw [cR_still2 hm hj, if_neg]
      · grind
      · intro e; exact hne (by rw [← e, idxOf_at nd hj])
  constructor
  · intro h
    refine ⟨fun i hi => ?_, fun s hsm => ?_⟩
    · rw [rows_len] at hi
      rw [← h i (by rw [still_len]; omega)]
      exact sumN_congr fun j _ => by rw [cR_still1 hi]
    · have hm := List.idxOf_lt_length_of_mem hsm
      have := two _ hm
      rw [h _ (by rw [still_len]; omega), getD_idx hsm] at this
      exact this.symm
  · rintro ⟨h1, h2⟩ i hi
    rw [still_len] at hi
    by_cases hb : i < N.boxes.length
    · rw [← h1 i (by rw [rows_len]; exact hb)]
      exact sumN_congr fun j _ => by rw [cR_still1 hb]
    · rw [show i = N.boxes.length + (i - N.boxes.length) by omega, two _ (by omega)]
      exact h2 _ (getD_mem (by omega))
/-! ### lots -/
structure LotOk (N : Net) (ss : List Str) (lot : List (List Rat)) (Fr : List Nat) : Prop where
  ok : NullOk (stillRows N ss) N.shafts.length lot Fr
  bd : ∃ d, 0 < d ∧ d ≤ gN ∧ ∀ v ∈ lot, ∀ j, j < N.shafts.length → Cd gN d (el v j)
theorem LotOk.moves {N : Net} (hN : NetOk N) {ss : List Str} (hs : ∀ s ∈ ss, s ∈ N.shafts) {lot : List (List Rat)} {Fr : List Nat} (L : LotOk N ss lot Fr) {s : Str} (h : s ∈ N.shafts) : (∃ v ∈ lot, atS N.shafts v s ≠ 0) ↔ Moves N ss s := by
  have nd := hN.nodup
  have hk := List.idxOf_lt_length_of_mem h
  unfold atS
  rw [L.ok.moves hk]
  constructor
  · rintro ⟨x, hx, hn⟩
    obtain ⟨h1, h2⟩ := (nul_still nd hs).mp hx
    refine ⟨fun s => x (N.shafts.idxOf s), ?_, fun y hy => h2 y hy, hn⟩
    refine nul_fun.mp ?_
    rw [nul_rows] at h1 ⊢
    intro i hi
    rw [← h1 i hi]
    exact sumN_congr fun j hj => by rw [idxOf_at nd hj]
  · rintro ⟨f, hf, hz, hn⟩
    refine ⟨fun j => f (N.shafts.getD j default), (nul_still nd hs).mpr ⟨nul_fun.mpr hf, fun y hy => ?_⟩, ?_⟩
    · rw [getD_idx (hs y hy)]; exact hz y hy
    · show f (N.shafts.getD (N.shafts.idxOf s) default) ≠ 0
      rw [getD_idx h]; exact hn
theorem LotOk.turn {N : Net} (hN : NetOk N) {ss : List Str} (hs : ∀ s ∈ ss, s ∈ N.shafts) {lot : List (List Rat)} {Fr : List Nat} (L : LotOk N ss lot Fr) {v : List Rat} (hv : v ∈ lot) : TurnN N (atS N.shafts v) ∧ ∀ s ∈ ss, atS N.shafts v s = 0 := by
  obtain ⟨h1, h2⟩ := (nul_still hN.nodup hs).mp (L.ok.nul v hv)
  exact ⟨(nul_vec hN.nodup).mp h1, fun s hss => h2 s hss⟩
/-- a row by names -/
def tabV (N : Net) (v : List Rat) : List (Key × D) := mergeD [] (zipK (N.shafts.map fun s => .inr s) (v.map dQ))
def dLot (N : Net) (lot : List (List Rat)) : D := .lst (lot.map fun v => .dct (tabV N v))
theorem look_zip {N : Net} (nd : N.shafts.Nodup) {ds : List D} (hl : ds.length = N.shafts.length) {s : Str} (hs : s ∈ N.shafts) : look (.inr s) (mergeD [] (zipK (N.shafts.map fun s => .inr s) ds)) = some (ds.getD (N.shafts.idxOf s) .non) := by
  have hk := List.idxOf_lt_length_of_mem hs
  have ek : (zipK (N.shafts.map fun s => (.inr s : Key)) ds).map (·.1) = N.shafts.map fun s => (.inr s : Key) := zipK_keys (by rw [List.length_map]; exact hl.symm)
  have e1 : ds[N.shafts.idxOf s]? = some (ds.getD (N.shafts.idxOf s) .non) := by
    rw [List.getD, List.getElem?_eq_getElem (by omega)]; rfl
  have e2 : (N.shafts.map fun s => (.inr s : Key))[N.shafts.idxOf s]? = some (.inr s) := by
    rw [List.getElem?_map, List.getElem?_eq_getElem hk, List.getElem_idxOf]; rfl
  rw [look_mergeN _ _ _ (by rw [ek]; exact nodup_inr nd), look_of (by rw [ek]; exact nodup_inr nd) (List.mem_of_getElem? (zipK_get e2 e1))]
  rfl
theorem tab_of {N : Net} (nd : N.shafts.Nodup) {v : List Rat} (hl : v.length = N.shafts.length) : DictOf (tabV N v) N.shafts (atS N.shafts v) := by
  intro s hs
  have hk := List.idxOf_lt_length_of_mem hs
  unfold tabV
  rw [look_zip nd (by rw [List.length_map]; exact hl) hs]
  unfold atS el
  rw [List.getD, List.getD, List.getElem?_map, List.getElem?_eq_getElem (by omega)]; rfl
theorem zip_dict {N : Net} (nd : N.shafts.Nodup) (f : Str → Rat) : DictOf (mergeD [] (zipK (N.shafts.map fun s => .inr s) (N.shafts.map fun s => dQ (f s)))) N.shafts f := by
  intro s hs
  have hk := List.idxOf_lt_length_of_mem hs
  rw [look_zip nd (by rw [List.length_map]) hs]
  rw [List.getD, List.getElem?_map, List.getElem?_eq_getElem hk, List.getElem_idxOf]; rfl
def sp__law_lot : Spec := fun args own Q _ => ∃ (N : Net) (ss : List Str) (k : Bool), args = [.d (dNet N), .d (sq k (ss.map dS))] ∧ own = [] ∧ NetOk N ∧ ss.length ≤ 8 ∧ ∀ lot Fr, LotOk N ss lot Fr → Q (.d (dLot N lot)) []
theorem len__law_lot {args own Q E} (z : sp__law_lot args own Q E) : args.length = 2 := by obtain ⟨_, _, _, rfl, _⟩ := z; rfl
/-! ### boxes and turnings -/
theorem dot_names (f c : Str → Rat) : ∀ (b : List (Str × Int)) (acc : Rat), (∀ p ∈ b, c p.1 = ((p.2 : Int) : Rat)) → dotA acc (b.map fun p => ((p.2 : Int) : Rat)) (b.map fun p => f p.1) = acc + sumS (b.map (·.1)) fun s => c s * f s
  | [], acc, _ => by simp only [List.map_nil, dotA, sumS]; grind
  | p :: b, acc, h => by
    simp only [List.map_cons, dotA, sumS]
    rw [dot_names f c b _ fun q hq => h q (List.mem_cons_of_mem _ hq), h p List.mem_cons_self]; grind
theorem box_sum {ss : List Str} (nd : ss.Nodup) {b : List (Str × Int)} (hb : boxD ss (dBox b) = true) (f : Str → Rat) : dotA 0 (b.map fun p => ((p.2 : Int) : Rat)) (b.map fun p => f p.1) = sumS ss fun s => ((coef b s : Int) : Rat) * f s := by
  have bn := box_nodup hb
  rw [dot_names f (fun s => ((coef b s : Int) : Rat)) b 0 fun p hp => by rw [coef_mem bn hp]]
  rw [sumS_sub_of nd _ bn fun s hs => by
    obtain ⟨p, hp, rfl⟩ := List.mem_map.mp hs
    exact (boxD_names hb).2 p hp]
  have : sumS ss (fun s => if s ∈ b.map (·.1) then ((coef b s : Int) : Rat) * f s else 0) = sumS ss fun s => ((coef b s : Int) : Rat) * f s := by
    refine sumS_congr fun s _ => ?_
    by_cases m : s ∈ b.map (·.1)
    · rw [if_pos m]
    · rw [if_neg m, coef_none m]
      have : ((0 : Int) : Rat) = 0 := rfl
      rw [this]; grind
  rw [this]; grind
theorem goes_iff {N : Net} (hN : NetOk N) (f : Str → Rat) : goesB N f = true ↔ TurnN N f := by
  have e : ∀ i (hi : i < N.boxes.length), dotA 0 (N.boxes[i].map fun p => ((p.2 : Int) : Rat)) (N.boxes[i].map fun p => f p.1) = sumS N.shafts fun s => cf N i s * f s := fun i hi => by
    rw [box_sum hN.nodup (hN.parts.2.2 _ (List.getElem_mem hi)) f]
    refine sumS_congr fun s _ => ?_
    unfold cf
    rw [List.getD, List.getElem?_eq_getElem hi]; rfl
  unfold goesB TurnN
  rw [List.all_eq_true]
  constructor
  · intro h i hi
    rw [← e i hi]
    exact of_decide_eq_true (h _ (List.getElem_mem hi))
  · intro h b hb
    obtain ⟨i, hi, rfl⟩ := List.getElem_of_mem hb
    apply decide_eq_true
    rw [e i hi]
    exact h i hi
/-! ### sizes -/
theorem Cd.add {M M' d : Nat} {p q : Rat} (h : Cd M d p) (h' : Cd M' d q) : Cd (M + M') d (p + q) := by
  obtain ⟨n, n1, n2⟩ := h
  obtain ⟨m, m1, m2⟩ := h'
  exact ⟨n + m, by omega, by rw [Rat.intCast_add, ← n2, ← m2]; grind⟩
theorem Cd.sub {M M' d : Nat} {p q : Rat} (h : Cd M d p) (h' : Cd M' d q) : Cd (M + M') d (p - q) := by
  obtain ⟨n, n1, n2⟩ := h
  obtain ⟨m, m1, m2⟩ := h'
  exact ⟨n - m, by omega, by rw [Rat.intCast_sub, ← n2, ← m2]; grind⟩
theorem Cd.mul {M M' d d' : Nat} {p q : Rat} (h : Cd M d p) (h' : Cd M' d' q) : Cd (M * M') (d * d') (p * q) := by
  obtain ⟨n, n1, n2⟩ := h
  obtain ⟨m, m1, m2⟩ := h'
  refine ⟨n * m, by rw [Int.natAbs_mul]; exact Nat.mul_le_mul n1 m1, ?_⟩
  rw [Rat.intCast_mul, ← n2, ← m2]
  have : ((d * d' : Nat) : Int) = (d : Int) * (d' : Int) := by simp
  rw [this, Rat.intCast_mul]; grind
theorem Cd.zero (M d : Nat) : Cd M d 0 := ⟨0, Nat.zero_le _, by grind⟩
theorem Cd.int {M : Nat} {n : Int} (d : Nat) (h : n.natAbs ≤ M) {N : Nat} {q : Rat} (hq : Cd N d q) : Cd (M * N) d (((n : Int) : Rat) * q) := by
  have := (cd_int h).mul hq
  rw [Nat.one_mul] at this
  exact this
theorem sumS_cd {M d : Nat} {g : Str → Rat} : ∀ {ss : List Str}, (∀ s ∈ ss, Cd M d (g s)) → Cd (ss.length * M) d (sumS ss g)
  | [], _ => Cd.zero _ _
  | s :: r, h => by
    unfold sumS
    have h1 := (h s List.mem_cons_self).add (sumS_cd (ss := r) fun x hx => h x (List.mem_cons_of_mem _ hx))
    refine h1.mono ?_
    rw [List.length_cons, Nat.add_mul, Nat.one_mul]; omega
theorem sumN_cd {M d : Nat} {g : Nat → Rat} : ∀ {n : Nat}, (∀ i, i < n → Cd M d (g i)) → Cd (n * M) d (sumN n g)
  | 0, _ => Cd.zero _ _
  | n + 1, h => by
    unfold sumN
    have h1 := (sumN_cd (n := n) fun i hi => h i (by omega)).add (h n (by omega))
    refine h1.mono ?_
    rw [Nat.add_mul, Nat.one_mul]; omega
theorem cf_le {N : Net} (hN : NetOk N) {i : Nat} (hi : i < N.boxes.length) (s : Str) : (coef (N.boxes.getD i []) s).natAbs ≤ 20 := coef_le (hN.parts.2.2 _ (getD_mem hi)) s
theorem partAt_cd {N : Net} (hN : NetOk N) {ys : List Rat} (hl : ys.length = N.boxes.length) {M d : Nat} (h : ∀ y ∈ ys, Cd M d y) (s : Str) : Cd (160 * M) d (partAt N ys s) := by
  rw [partAt_sum hl]
  have h8 := hN.parts.2.1
  have h1 : Cd (N.boxes.length * (20 * M)) d (sumN N.boxes.length fun i => cf N i s * el ys i) := sumN_cd fun i hi => Cd.int d (cf_le hN hi s) (h _ (getD_mem (by omega)))
  refine h1.mono ?_
  have : N.boxes.length * (20 * M) ≤ 8 * (20 * M) := Nat.mul_le_mul_right _ h8
  omega
theorem spAt_mem : ∀ {h : Hands} {s : Str}, s ∈ takenOf h → spAt h s ∈ speedsOf h
  | p :: h, s, hs => by
    unfold spAt
    split
    · exact List.mem_cons_self
    · rename_i ne
      refine List.mem_cons_of_mem _ (spAt_mem (h := h) ?_)
      cases hs with
      | head => exact absurd rfl ne
      | tail _ z => exact z
theorem spAt_none : ∀ {h : Hands} {s : Str}, s ∉ takenOf h → spAt h s = 0
  | [], _, _ => rfl
  | p :: h, s, hs => by
    have e : takenOf (p :: h) = p.1 :: takenOf h := rfl
    rw [e] at hs
    unfold spAt
    rw [if_neg (fun z => hs (by rw [z]; exact List.mem_cons_self)), spAt_none fun z => hs (List.mem_cons_of_mem _ z)]
theorem spAt_cd {h : Hands} {M d : Nat} (hd : ∀ q ∈ speedsOf h, Cd M d q) (s : Str) : Cd M d (spAt h s) := by
  by_cases m : s ∈ takenOf h
  · exact hd _ (spAt_mem m)
  · rw [spAt_none m]; exact Cd.zero _ _
/-- functions of shafts, over one denominator -/
def FIn (N : Net) (f : Str → Rat) : Prop := ∃ d, 0 < d ∧ d ≤ 2 ^ 3900 ∧ ∀ s ∈ N.shafts, Cd (2 ^ 3900) d (f s)
theorem FIn.sm {N : Net} {f : Str → Rat} (h : FIn N f) {s : Str} (hs : s ∈ N.shafts) : Sm (f s) := by
  obtain ⟨d, d0, dm, hd⟩ := h
  exact (hd s hs).sm d0 dm (Nat.pow_lt_pow_right (by decide) (by decide))
theorem sm_int {n : Int} (h : n.natAbs ≤ 2 ^ 100) : Sm ((n : Int) : Rat) := by
  refine ⟨?_, ?_⟩
  · rw [Rat.num_intCast]; exact Nat.lt_of_le_of_lt h (Nat.pow_lt_pow_right (by decide) (by decide))
  · rw [Rat.den_intCast]; exact Nat.one_lt_two_pow (by decide)
theorem go_in {N : Net} (hN : NetOk N) {f : Str → Rat} (h : FIn N f) : GoIn N f := by
  obtain ⟨d, d0, dm, hd⟩ := h
  intro b hb
  have hbo := hN.parts.2.2 b hb
  have big0 : 100 * 2 ^ 3900 < 2 ^ 4000 := by decide +kernel
  obtain ⟨B, hB⟩ : ∃ B : Nat, B = 2 ^ 3900 := ⟨_, rfl⟩
  rw [← hB] at dm hd big0
  clear hB
  have key : ∀ (l : List (Str × Int)) (acc : Rat) (Z : Nat), (∀ p ∈ l, p.2.natAbs ≤ 20 ∧ p.1 ∈ N.shafts) → Cd Z d acc → Z + l.length * (20 * B) ≤ 100 * B → DotOk acc (l.map fun p => ((p.2 : Int) : Rat)) (l.map fun p => f p.1) := by
    have big : 100 * B < 2 ^ 4000 := big0
    clear big0
    have dm' : d ≤ 100 * B := by clear big; omega
    intro l
    induction l with
    | nil => intros; trivial
    | cons p l ih =>
      intro acc Z hl ha hz
      rw [List.length_cons, Nat.add_mul, Nat.one_mul] at hz
      obtain ⟨hp, hps⟩ := hl p List.mem_cons_self
      have hd' := hd p.1 hps
      have hpr := Cd.int d hp hd'
      refine ⟨(ha.mono (by clear big; omega)).sm d0 dm' big, sm_int (Nat.le_trans hp (by decide)), (hd'.mono (by clear big; omega)).sm d0 dm' big, (hpr.mono (by clear big; omega)).sm d0 dm' big, ?_⟩
      exact ih _ (Z + 20 * B) (fun q hq => hl q (List.mem_cons_of_mem _ hq)) (ha.add hpr) (by clear big; omega)
  refine key b 0 0 (fun p hp => ⟨box_le hbo hp, (boxD_names hbo).2 p hp⟩) (Cd.zero _ _) ?_
  have := (boxD_names hbo).1
  have h3 : b.length * (20 * B) ≤ 3 * (20 * B) := Nat.mul_le_mul_right _ this
  omega
/-! ### numbers -/
def FracsIn (d : D) : Prop := ∀ ds, d = .tup ds → ∀ e ∈ ds, ∀ a b, e = .tup [.int a, .int b] → b.natAbs < 2 ^ 8001
theorem fracs_in {ys : List Rat} (h : ∀ y ∈ ys, Sm y) : FracsIn (.tup (ys.map dQ)) := by
  intro ds e x hx a b ex
  cases e
  obtain ⟨q, hq, rfl⟩ := List.mem_map.mp hx
  unfold dQ at ex
  cases ex
  have := (h q hq).2
  show ((q.den : Nat) : Int).natAbs < _
  rw [Int.natAbs_natCast]
  exact Nat.lt_trans this (Nat.pow_lt_pow_right (by decide) (by decide))
theorem YsIn.sm {ys : List Rat} (h : YsIn ys) : ∀ y ∈ ys, Sm y := by
  obtain ⟨d, d0, dm, hd⟩ := h
  exact fun y hy => (hd y hy).sm d0 dm (Nat.lt_trans bN_lt (by decide))
theorem ys_small {ys : List Rat} (hl : ys.length ≤ 1000) : small 10 (.tup (ys.map dQ)) = true := by
  refine small_tup_of (by rw [List.length_map]; exact hl) fun d hd => ?_
  obtain ⟨q, _, rfl⟩ := List.mem_map.mp hd
  exact small_dQ q
def sp__law_numbers : Spec := fun args own Q _ => ∃ (d : D) (m n : Nat), args = [.d d, .d (dN m)] ∧ own = [] ∧ small n d = true ∧ n ≤ 60 ∧ FracsIn d ∧ Q (.d (.bl (fracsD m d))) []
theorem len__law_numbers {args own Q E} (z : sp__law_numbers args own Q E) : args.length = 2 := by obtain ⟨_, _, _, rfl, _⟩ := z; rfl
theorem plains_all {n : Nat} : ∀ {ds : List D}, (∀ d ∈ ds, plain n d = true) → plains n ds = true
  | [], _ => by unfold plains; rfl
  | d :: ds, h => by
    unfold plains
    rw [h d List.mem_cons_self, plains_all fun x hx => h x (List.mem_cons_of_mem _ hx)]; rfl
def nfrac (d : D) : Bool := !fracD d
theorem filt_empty : ∀ l : List D, (l.filter nfrac).isEmpty = l.all fracD
  | [] => rfl
  | d :: l => by
    rw [List.filter_cons, List.all_cons]
    unfold nfrac
    cases fracD d with
    | true => rw [if_neg (by simp)]; exact filt_empty l
    | false => rw [if_pos (by simp)]; rfl
def sp__law_barred_so : Spec := fun args own Q _ => ∃ (N : Net) (h : Hands) (d : D) (n : Nat), args = [.d (dNet N), .d (dHands h), .d d] ∧ own = [] ∧ NetOk N ∧ HandsOk N h ∧ small n d = true ∧ n ≤ 60 ∧ FracsIn d ∧
  (∀ ys, d = .tup (ys.map dQ) → ys.length = N.boxes.length → YsIn ys) ∧ Q (.d (.bl (barsB N h d))) []
theorem len__law_barred_so {args own Q E} (z : sp__law_barred_so args own Q E) : args.length = 3 := by obtain ⟨_, _, _, _, rfl, _⟩ := z; rfl
/-! ### bars -/
theorem part_hands {N : Net} {h : Hands} (H : HandsOk N h) (ys : List Rat) : dotA 0 ((takenOf h).map (partAt N ys)) (speedsOf h) = sumS (takenOf h) fun s => partAt N ys s * spAt h s := sum_hands _ _ (hands_of H).2
theorem bars_in {N : Net} {h : Hands} (hN : NetOk N) (H : HandsOk N h) {ys : List Rat} (hl : ys.length = N.boxes.length) (hy : YsIn ys) : BarsIn N h ys := by
  obtain ⟨d, d0, dm, hd⟩ := hy
  obtain ⟨e, e0, em, he⟩ := H.bd
  have hb := bN_lt
  have h8 := hN.parts.2.1
  refine ⟨fun s hs => ?_, ?_⟩
  · refine (dot_cd (M := 20) (d := 1) (Me := bN) (e := d) (B := 200 * bN) (by decide) d0 (by decide) dm ?_ ?_ ?_ ?_ _ _ 0 0 ?_ ?_ hd (Cd.zero _ _) ?_).1
    · have : 200 * 2 ^ 2400 < 2 ^ 4000 := by decide +kernel
      omega
    · have : 1 ≤ bN := by omega
      omega
    · omega
    · omega
    · rw [List.length_map]; exact hl.symm
    · intro q hq
      obtain ⟨b, hb, rfl⟩ := List.mem_map.mp hq
      exact cd_int (coef_le (hN.parts.2.2 b hb) s)
    · rw [List.length_map]
      have : N.boxes.length * (20 * bN) ≤ 8 * (20 * bN) := Nat.mul_le_mul_right _ h8
      omega
  · have hh : h.length ≤ 8 := by
      obtain ⟨hm, nd⟩ := hands_of H
      have h1 := List.Nodup.length_le_of_subset nd (fun s hs => hm s hs)
      have h2 := hN.few
      have e : (takenOf h).length = h.length := by unfold takenOf; rw [List.length_map]
      omega
    have b2 : 160 * bN * 2 ^ 1000 ≤ 160 * 2 ^ 2400 * 2 ^ 1000 := Nat.mul_le_mul_right _ (by omega)
    refine (dot_cd (M := 160 * bN) (d := d) (Me := 2 ^ 1000) (e := e) (B := 8 * (160 * 2 ^ 2400 * 2 ^ 1000)) d0 e0 (by omega) em ?_ ?_ ?_ ?_ _ _ 0 0 ?_ ?_ he (Cd.zero _ _) ?_).1
    · decide +kernel
    · exact Nat.le_trans (Nat.mul_le_mul_left 160 (Nat.le_of_lt hb)) (by decide +kernel)
    · decide +kernel
    · exact Nat.le_trans b2 (Nat.le_mul_of_pos_left _ (by decide))
    · unfold takenOf speedsOf; rw [List.length_map, List.length_map, List.length_map]
    · intro q hq
      obtain ⟨s, hs, rfl⟩ := List.mem_map.mp hq
      exact partAt_cd hN hl hd s
    · rw [List.length_map]
      have e1 : (takenOf h).length = h.length := by unfold takenOf; rw [List.length_map]
      rw [e1, Nat.zero_add]
      exact Nat.mul_le_mul hh b2
theorem BarOk.ys {N : Net} {h : Hands} {t : List Rat} (b : BarOk N h t) : YsIn t := by
  obtain ⟨d, d0, dm, hd⟩ := b.bd
  have := gN_le
  refine ⟨d, d0, by omega, fun y hy => ?_⟩
  obtain ⟨i, hi, rfl⟩ := mem_el hy
  exact (hd i (by rw [← b.len]; exact hi)).mono this
theorem BarOk.bars {N : Net} {h : Hands} (hN : NetOk N) (H : HandsOk N h) {t : List Rat} (b : BarOk N h t) : barsB N h (.tup (t.map dQ)) = true := by
  unfold barsB
  rw [rats_dQ, fracs_dQ, decide_eq_true b.len, Bool.true_and]
  unfold barV
  rw [Bool.and_eq_true]
  refine ⟨List.all_eq_true.mpr fun s hs => decide_eq_true (b.parts hN s hs), ?_⟩
  rw [part_hands H]
  rw [decide_eq_false, Bool.not_false]
  intro z
  apply b.ne
  rw [bar_total H b.len, z]; grind
/-- the sums of work are small -/
theorem work_sm {N : Net} {h : Hands} (hN : NetOk N) (H : HandsOk N h) {ys : List Rat} (hl : ys.length = N.boxes.length) (hy : YsIn ys) :
    (∀ s, Sm (partAt N ys s)) ∧ (∀ s, Sm (spAt h s)) ∧ (∀ s, Sm (partAt N ys s * spAt h s)) ∧ ∀ l : List Str, l.length ≤ 8 → ∀ p : Str → Prop, ∀ _ : DecidablePred p, Sm (sumS l fun s => if p s then partAt N ys s * spAt h s else 0) ∧ Sm (0 - sumS l fun s => if p s then partAt N ys s * spAt h s else 0) := by
  obtain ⟨d, d0, dm, hd⟩ := hy
  obtain ⟨e, e0, em, he⟩ := H.bd
  have hb := bN_lt
  have p1 : ∀ s, Cd (160 * bN) d (partAt N ys s) := fun s => partAt_cd hN hl hd s
  have p2 := fun s => spAt_cd (h := h) he s
  have p3 : ∀ s, Cd (160 * bN * 2 ^ 1000) (d * e) (partAt N ys s * spAt h s) := fun s => (p1 s).mul (p2 s)
  have de0 : 0 < d * e := Nat.mul_pos d0 e0
  have b2 : 160 * bN * 2 ^ 1000 ≤ 160 * 2 ^ 2400 * 2 ^ 1000 := Nat.mul_le_mul_right _ (by omega)
  have dm2 : d * e ≤ 160 * 2 ^ 2400 * 2 ^ 1000 := Nat.mul_le_mul (by omega) em
  have big : 8 * (160 * 2 ^ 2400 * 2 ^ 1000) < 2 ^ 4000 := by decide +kernel
  have big2 : 160 * 2 ^ 2400 < 2 ^ 4000 := by decide +kernel
  refine ⟨fun s => (p1 s).sm d0 (by omega) (by omega), fun s => (p2 s).sm e0 em (Nat.pow_lt_pow_right (by decide) (by decide)), fun s => ((p3 s).mono b2).sm de0 dm2 (by omega), fun l hl p _ => ?_⟩
  have c1 : Cd (8 * (160 * 2 ^ 2400 * 2 ^ 1000)) (d * e) (sumS l fun s => if p s then partAt N ys s * spAt h s else 0) := by
    have := sumS_cd (ss := l) (M := 160 * bN * 2 ^ 1000) (d := d * e) (g := fun s => if p s then partAt N ys s * spAt h s else 0) fun s _ => by
      split
      · exact p3 s
      · exact Cd.zero _ _
    exact this.mono (Nat.mul_le_mul hl b2)
  exact ⟨c1.sm de0 (by omega) big, c1.neg.sm de0 (by omega) big⟩
end Bx
end

section
/-! Where an exception is handled: zip over two lists comes to its end; a comprehension over such. -/
namespace Bx
open PySem L2 PySem.Spec PyProof.Rows HotX
/-- the handled exception's object: nothing stands behind it -/
def HotH (x1 : Addr) (h : Heap) : Prop := ∃ (o : Obj) (vs : Array Value), h.get? x1 = some o ∧ o.data = .fields vs ∧ vs[2]? = some .none
section
variable {prog : Program} {w : World} {A : Around} {E : Value → Shared → Prop} {s : Shared}
theorem list_end_hot {it l x1 : Addr} {i : Nat} {its : Array Value} {Q : Value → Shared → Prop} (hh : A.handled = some (.ref x1)) (hx1 : HotH x1 s.heap) (hit : s.heap.IsListIter it l i) (hl : s.heap.IsList l its) (hne : x1 ≠ it) (hx : its[i]? = none)
    (hE : ∀ h' e, Heap.ExtBut it s.heap h' → (∃ o, h'.get? e = some o ∧ o.cls = .type "StopIteration") → E (.ref e) { s with heap := h' }) : wpAny (model prog w) A (Builtin.SmallTypes.nextOf (.ref it)) Q E s := by
  obtain ⟨oi, hoi, hci, hdi⟩ := id hit
  obtain ⟨oq, hoq, _, nq, hdq⟩ := hl
  obtain ⟨o1, vs1, g1, d1, c1⟩ := hx1
  unfold Builtin.SmallTypes.nextOf
  refine wpAny_bind (wpAny_callSpecial?_slot (name := Str.ofString "__next__") hit.typeIs slot_listiter_next (wpAny_call_entry slot_listiter_next hit.typeIs entry_listiter_next ?_ (args_listiter_next _)))
  refine (show wpAny _ _ (field (.ref it) 0 >>= _) _ _ s from wpAny_bind (wpAny_field hoi hdi (x := .ref l) rfl ?_))
  refine (show wpAny _ _ (if (Value.ref l == Value.none) = true then _ else _) _ _ s from ?_)
  rw [if_neg (by simp)]
  refine (show wpAny _ _ (field (.ref it) 1 >>= _) _ _ s from wpAny_bind (wpAny_field hoi hdi (x := .int i 0) rfl ?_))
  refine (show wpAny _ _ (seqItems? (.ref l) >>= _) _ _ s from wpAny_bind (wpAny_seqItems hoq hdq ?_))
  simp only [Int.toNat_natCast, hx]
  refine wpAny_bind (wpAny_rule (wpAny_bind (wpAny_setField hoi hdi (by simp) ?_)))
  refine (show wpAny _ _ (newExc (.type "StopIteration") [] >>= _) _ _ _ from wpAny_bind ?_)
  simp only [newExc, newTuple]
  refine wpAny_bind (wpAny_newObj_type ?_ (by size_fits))
  refine wpAny_bind (m := firstArgMember _ _) (wpAny_of_eq (a := Value.none) (by first | rfl | (simp only [firstArgMember]; rfl)) (wpAny_newObj_type ?_ (by size_fits)))
  have u1 : Heap.ExtBut it s.heap (s.heap.update it (Obj.mapFields (·.setIfInBounds 0 .none))) := (Heap.SameBut.update ..).extBut
  refine raiseNew_hot ⟨hh, o1, vs1, Heap.get?_push_of_some _ (Heap.get?_push_of_some _ (u1 _ _ hne g1)), d1, c1⟩ (Nat.ne_of_lt (Heap.lt_size (Heap.get?_push_of_some _ (u1 _ _ hne g1)))) (Heap.get?_push_size _ rfl) rfl (by first | (simp; done) | (simp; omega)) ?_
  refine hE _ _ (fun b o hb e => ?_) ⟨_, Heap.get?_update_self _ (Heap.get?_push_size _ rfl) rfl, rfl⟩
  have e2 := Heap.get?_push_of_some { cls := .type "tuple", data := .seq (([] : List Value).toArray) } (u1 b o hb e)
  rw [Heap.get?_update_other _ _ (Nat.ne_of_gt (Heap.lt_size e2))]
  exact Heap.get?_push_of_some _ e2
end
theorem drawsH {prog : Program} {w : World} {A : Around} {x1 : Addr} (hh : A.handled = some (.ref x1)) (it l : Addr) (hne : l ≠ it) (h1 : x1 ≠ it) (its : Array Value) :
    Draws prog w A it [it, l, x1] its.size (fun i v => its[i]? = some v) (fun i h => (h.IsListIter it l i ∧ h.IsList l its) ∧ HotH x1 h) where
  live := fun _ _ st => let ⟨o, ho, _⟩ := st.1.1; ⟨o, ho⟩
  frame := fun _ _ _ ⟨⟨a, b⟩, o, vs, g, r⟩ hk => ⟨⟨a.at fun o e => hk it (by simp) o e, b.at fun o e => hk l (by simp) o e⟩, o, vs, hk x1 (by simp) o g, r⟩
  item := fun i s Q E hi ⟨⟨a, b⟩, o, vs, g, r⟩ hQ => by
    refine wpAny_nextOf_list_item a b (x := its[i]) (by simp [hi]) fun h' hit' hs' => ?_
    exact hQ _ h' s.toks (by simp [hi]) ⟨⟨hit', b.extBut hs'.extBut hne⟩, o, vs, hs'.extBut _ _ h1 g, r⟩ hs'
  done := fun s Q E ⟨⟨a, b⟩, hot⟩ hE => list_end_hot hh hot a b h1 (by simp) hE
/-- turns of what is walked, where x1 is handled -/
structure TurnE (P : Program) (w : World) (K : PySem.W.Frag) (tg : Expr) (J : It) (fp : List Addr) (it : Addr) (tn : Nat → Heap → Prop) : Prop where
  mem : it ∈ fp
  obj : ∀ i h, tn i h → ∀ b ∈ fp, ∃ o, h.get? b = some o ∧ ∀ v, o.data ≠ .cell v
  keep : ∀ i h h', tn i h → (∀ b ∈ fp, ∀ o, h.get? b = some o → h'.get? b = some o) → tn i h'
  item : ∀ (X : Cx) (x1 : Addr), X.prog = P → X.w = w → X.K = K → X.A.handled = some (.ref x1) → (∀ b ∈ fp, x1 ≠ b) → ∀ (i : Nat) (pins : List (Addr × Obj)) (s : Shared) (σ : L2.St) (H : Hp) (E : Value → Shared → Prop), HotH x1 s.heap → Inv X pins σ H s → (∀ b ∈ fp, FpOk X pins H b) → tn i s.heap → J.go i H →
    wpAny (model P w) X.A (pyNext (.ref it)) (fun r s1 => ∃ u, r = some u ∧ wpAny (model P w) X.A (letOwnedTupleGo tg (.ref it) u) (fun _ s2 => ∃ x H', Inv X pins σ H' s2 ∧ RelV x u ∧ J.yld i H x H' ∧ tn (i + 1) s2.heap ∧ ∀ b ∈ fp, H' b = none) E s1) E s
  done : ∀ (X : Cx) (x1 : Addr), X.prog = P → X.w = w → X.K = K → X.A.handled = some (.ref x1) → (∀ b ∈ fp, x1 ≠ b) → ∀ (i : Nat) (pins : List (Addr × Obj)) (s : Shared) (σ : L2.St) (H : Hp) (E : Value → Shared → Prop), HotH x1 s.heap → Inv X pins σ H s → (∀ b ∈ fp, FpOk X pins H b) → tn i s.heap → J.stop i H →
    wpAny (model P w) X.A (pyNext (.ref it)) (fun r s1 => r = none ∧ Inv X pins σ H s1) E s
  self : ∀ (A : Around) (i : Nat) (s : Shared) (Q : Value → Shared → Prop) (E : Value → Shared → Prop), tn i s.heap → Q (.ref it) s → wpAny (model P w) A (pyIter (.ref it)) Q E s
theorem sepH {z TI TO i1 i2 a b x1 : Addr} (D : ZipCells z TI TO i1 i2 a b) (hx : ∀ c ∈ [z, TI, TO, i1, i2], x1 ≠ c) : ZipSep2 z TI TO i1 i2 [i1, a, x1] [i2, b, x1] := by
  have e1 := hx z (by simp)
  have e3 := hx TO (by simp)
  have e4 := hx i1 (by simp)
  have e5 := hx i2 (by simp)
  have m := D.S
  have f1 := m.zf1
  have f2 := m.zf2
  have g1 := m.Tf1
  have g2 := m.Tf2
  have k1 := m.sep1_2
  have k2 := m.sep2_1
  simp only [List.mem_cons, List.not_mem_nil, or_false, not_or] at f1 f2 g1 g2 k1 k2
  exact ⟨m.TIz, m.TOz, m.TITO, m.TIi1, List.mem_cons_self, by simp [f1, e1.symm], by simp [g1, e3.symm], m.TIi2, List.mem_cons_self, by simp [f2, e1.symm], by simp [g2, e3.symm], by simp [k1, e4.symm], by simp [k2, e5.symm]⟩
theorem turn_zipE {P : Program} {w : World} {K : PySem.W.Frag} {elts : List Expr} {kk : Nat} {tpos : Pos} {a b z TI TO i1 i2 : Addr} (D : ZipCells z TI TO i1 i2 a b) :
    TurnE P w K (.Tuple elts kk tpos) (ItZ true true K a b) [z, TI, TO, i1, i2] z (ZipSt true true z TI TO i1 i2 a b) where
  mem := (turn_zipB (P := P) (w := w) (K := K) (elts := elts) (kk := kk) (tpos := tpos) true true D).mem
  obj := (turn_zipB (P := P) (w := w) (K := K) (elts := elts) (kk := kk) (tpos := tpos) true true D).obj
  keep := (turn_zipB (P := P) (w := w) (K := K) (elts := elts) (kk := kk) (tpos := tpos) true true D).keep
  self := (turn_zipB (P := P) (w := w) (K := K) (elts := elts) (kk := kk) (tpos := tpos) true true D).self
  done := by
    intro X x1 hP hw hK hh hx i pins s σ H E hot I hf ⟨hz, hTI, ⟨x0, y0, hTO⟩, h1, h2⟩ hg
    subst hP hw hK
    obtain ⟨xs, ys, hqx, hqy, b1, b2, hend⟩ := hg
    obtain ⟨us, rv, p1, _⟩ := sqB_seq I hqx
    obtain ⟨ws, rv2, p2, _⟩ := sqB_seq I hqy
    have e1 : us.toArray.size = xs.length := by rw [List.size_toArray]; exact rv.length.symm
    have e2 : ws.toArray.size = ys.length := by rw [List.size_toArray]; exact rv2.length.symm
    refine wpAny_pyNext_zipD2_end (sepH D hx) (drawsH (A := X.A.in1) hh i1 a D.a1 (hx i1 (by simp)) us.toArray) (drawsH (A := X.A.in1) hh i2 b D.b2 (hx i2 (by simp)) ws.toArray) hz hTI hTO ⟨⟨h1, p1⟩, hot⟩ ⟨⟨h2, p2⟩, hot⟩ (by rw [e1]; exact b1) (by rw [e2]; exact b2) (by rw [e1, e2]; exact hend) fun h' tk hk => ?_
    exact ⟨rfl, I.turnedL (t' := tk) (ch := [z, TI, TO, i1, i2]) (fun c o hb q => by
      simp only [List.mem_cons, List.not_mem_nil, or_false, not_or] at hb
      exact hk c o hb.1 hb.2.2.1 hb.2.2.2.1 hb.2.2.2.2 q) hf⟩
  item := by
    intro X x1 hP hw hK hh hx i pins s σ H E hot I hf ⟨hz, hTI, ⟨x0, y0, hTO⟩, h1, h2⟩ hg
    subst hP hw hK
    obtain ⟨xs, ys, x, y, hqx, hqy, hx', hy⟩ := hg
    obtain ⟨us, rv, p1, _⟩ := sqB_seq I hqx
    obtain ⟨ws, rv2, p2, _⟩ := sqB_seq I hqy
    obtain ⟨u, hu, ru⟩ := rv.get hx'
    obtain ⟨u2, hu2, ru2⟩ := rv2.get hy
    have hzl : z < s.heap.objs.size := Heap.lt_size hz
    have l1 : i < us.toArray.size := by simpa using (List.getElem?_eq_some_iff.mp hu).1
    have l2 : i < ws.toArray.size := by simpa using (List.getElem?_eq_some_iff.mp hu2).1
    refine wpAny_pyNext_zipD2_item (sepH D hx) (drawsH (A := X.A.in1) hh i1 a D.a1 (hx i1 (by simp)) us.toArray) (drawsH (A := X.A.in1) hh i2 b D.b2 (hx i2 (by simp)) ws.toArray) hz hTI hTO ⟨⟨h1, p1⟩, hot⟩ ⟨⟨h2, p2⟩, hot⟩ l1 l2 fun v1 v2 h' tk e1 e2 z' TO' s1 s2 hT hsz hk => ?_
    have ev1 : u = v1 := by rw [show us.toArray[i]? = us[i]? by simp, hu] at e1; exact Option.some.inj e1
    have ev2 : u2 = v2 := by rw [show ws.toArray[i]? = ws[i]? by simp, hu2] at e2; exact Option.some.inj e2
    subst ev1 ev2
    refine ⟨_, rfl, wpAny_letOwnedTupleGo_zip (s := { s with heap := h', toks := tk }) z' fun h'' z'' sb => ?_⟩
    have old : ∀ c o, c ≠ z → h'.get? c = some o → h''.get? c = some o := fun c o hcz q => (sb.2 c hcz).trans q
    have new : ObjOk X.prog X.w (upd H s.heap.objs.size (.frz { cls := .type "tuple", data := .seq #[u, u2] } (.tup [x, y]))) h'' s.heap.objs.size (.frz { cls := .type "tuple", data := .seq #[u, u2] } (.tup [x, y])) :=
      ⟨old _ _ (Nat.ne_of_gt hzl) hT, (by decide : 2 ≤ sizeLine), [u, u2], .cons ru (.cons ru2 .nil), ⟨_, old _ _ (Nat.ne_of_gt hzl) hT, rfl, _, rfl⟩⟩
    have I1 : Inv X pins σ (upd H s.heap.objs.size (.frz { cls := .type "tuple", data := .seq #[u, u2] } (.tup [x, y]))) { s with heap := h'', toks := tk } :=
      I.turnedNew (t' := tk) (ch := [z, TI, TO, i1, i2]) (fun c o hb q => by
        simp only [List.mem_cons, List.not_mem_nil, or_false, not_or] at hb
        exact old c o hb.1 (hk c o hb.1 hb.2.2.1 hb.2.2.2.1 hb.2.2.2.2 q)) hf (Nat.le_refl _) new
    refine ⟨.ref s.heap.objs.size, _, I1, rfl, ⟨_, _, x, y, rfl, rfl, I.hok.fresh (Nat.le_refl _), rfl, fun l hl => by rw [sqB_inj I hl hqx]; exact hx', fun l hl => by rw [sqB_inj I hl hqy]; exact hy⟩, ⟨z'', ?_, ⟨u, u2, old _ _ D.S.TOz TO'⟩, ?_, ?_⟩, fun c hcm => ?_⟩
    · exact old _ _ D.S.TIz (hk _ _ D.S.TIz D.S.TITO D.S.TIi1 D.S.TIi2 hTI)
    · exact itB_at (k := true) s1.1.1 fun o q => old _ o D.S.zi1.symm q
    · exact itB_at (k := true) s2.1.1 fun o q => old _ o D.S.zi2.symm q
    · have hlt : c < s.heap.objs.size := by
        simp only [List.mem_cons, List.not_mem_nil, or_false] at hcm
        rcases hcm with q | q | q | q | q <;> rw [q]
        · exact hzl
        · exact Heap.lt_size hTI
        · exact Heap.lt_size hTO
        · obtain ⟨_, e, _⟩ := itB_obj h1; exact Heap.lt_size e
        · obtain ⟨_, e, _⟩ := itB_obj h2; exact Heap.lt_size e
      rw [upd_ne (Nat.ne_of_lt hlt)]
      exact (hf c hcm).1
end Bx
end

section
/-! A comprehension where an exception is handled. -/
namespace Bx
open PySem L2 PySem.Spec PyProof.Rows HotX
/-- an iterator where an exception is handled -/
structure PIe (X : Cx) (tg iter : Expr) (wi : TI) : Prop where
  run : ∀ (pins : List (Addr × Obj)) (s : Shared) (σ : L2.St) (H : Hp) (R : It → Hp → Prop), Inv X pins σ H s → wi σ H R →
    wpAny (model X.prog X.w) X.A (eval iter X.env) (fun v s1 => wpAny (model X.prog X.w) X.A (pyIter v) (fun itv s2 => ∃ (it : Addr) (fp : List Addr) (tn : Nat → Heap → Prop) (J : It) (H' : Hp), itv = .ref it ∧ Inv X pins σ H' s2 ∧
      TurnE X.prog X.w X.K tg J fp it tn ∧ tn 0 s2.heap ∧ (∀ b ∈ fp, FpOk X pins H' b) ∧ R J H') X.xe s1) X.xe s
/-- the context bears the handled exception, of the class C -/
structure HotX1 (X : Cx) (p : Addr × Obj) : Prop where
  hh : X.A.handled = some (.ref p.1)
  mem : p ∈ X.pn
  dat : ∃ vs : Array Value, p.2.data = .fields vs ∧ vs[2]? = some .none
/-- the handled exception's object stands wherever the context's states are -/
structure HotB (X : Cx) (x1 : Addr) : Prop where
  hh : X.A.handled = some (.ref x1)
  at_ : ∀ (pins : List (Addr × Obj)) (σ : L2.St) (H : Hp) (s : Shared), Inv X pins σ H s → HotH x1 s.heap
section
variable {X : Cx}
theorem lc_hot {p : Addr × Obj} (hot : HotX1 X p) {elt tg iter : Expr} {ifs : List Expr} {scope : Scope} {own : List (Str × Nat)} {pos : Pos} {wi : TI} {g : TG} {tt : TT} {te : TE} (hN : X.N.Nodup) (hi : PIe X tg iter wi) (ok : BlkOk X.N X.env.scope scope own)
    (hg : ∀ (s : Shared) (H : Hp) (C : Addr) (cl : List (Str × Addr)) (fp : List Addr), HotB (X.blk s H scope (compEnvC scope cl C X.env) fp) p.1 → PG (X.blk s H scope (compEnvC scope cl C X.env) fp) tg g)
    (ht : ∀ (s : Shared) (H : Hp) (C : Addr) (cl : List (Str × Addr)) (fp : List Addr), PTs (X.blk s H scope (compEnvC scope cl C X.env) fp) ifs tt)
    (he : ∀ (s : Shared) (H : Hp) (C : Addr) (cl : List (Str × Addr)) (fp : List Addr), PE (X.blk s H scope (compEnvC scope cl C X.env) fp) elt te) (hs : ∀ x, foldedSetIterable iter X.env x = pure x := by intro _; rfl) :
    PE X (.ListComp elt [⟨tg, iter, ifs, 0⟩] scope pos) (tLc wi g tt te (own.map (·.2))) := by
  obtain ⟨hh, hmem, vs1, d1, c1⟩ := hot
  refine ⟨fun pins s σ H Q I h => ?_⟩
  rw [eval_ListComp]
  have hfree : ∀ y ∈ scope.names, y.2 = .free → ∃ c, X.env.cells.lookup y.1 = some c := fun y hy e => (ok.free y hy e).elim (fun k => I.ok.has _ (.inl k)) fun k => I.ok.has _ (.inr k)
  refine wpAny_comprehension_free (use := none) rfl hs (closure_ok hfree) ok.kind (fun y hy e => by rw [ok.uniq y hy, e]) (thn (hi.run pins s σ H _ I h) fun xv r1 hx => thn hx fun itv r2 hq => ?_)
  obtain ⟨it, fp, tn, J, G2, e, I2, T, st2, f2, q⟩ := hq
  subst e
  refine wpAny_newObj_type (newEnv_comp ?_) (by show 0 ≤ sizeLine; decide)
  obtain ⟨D, hD⟩ : ∃ D, D = r2.heap.objs.size := ⟨_, rfl⟩
  have hDn : G2 D = none := I2.hok.fresh (Nat.le_of_eq hD.symm)
  obtain ⟨W, ⟨m0, w0⟩, turn⟩ := q D hDn
  rw [← hD]
  obtain ⟨r3, hr3⟩ : ∃ r3 : Shared, r3 = { r2 with heap := r2.heap.push { cls := .type "list", data := .seq ([] : List Value).toArray } } := ⟨_, rfl⟩
  have hp3 : r3.heap = r2.heap.push { cls := .type "list", data := .seq ([] : List Value).toArray } := by rw [hr3]
  have J3 : Inv X pins σ (upd G2 D (.lst [])) r3 := by
    rw [hr3]
    refine I2.laid (t' := r2.toks) (fun b o e => Heap.get?_push_of_some _ e) (Nat.le_of_eq hD.symm) ⟨Nat.zero_le _, [], 0, .nil, ?_⟩
    rw [hD]; exact Heap.get?_push_size _ rfl
  have x1 : ∀ b ∈ fp, p.1 ≠ b := fun b hb => (f2 b hb).2.2.2.2.2 p (List.mem_append_left _ hmem)
  have f3 : ∀ b ∈ fp, FpOk X pins (upd G2 D (.lst [])) b ∧ b < r3.heap.objs.size := fun b hb => by
    obtain ⟨o, eo, _⟩ := T.obj _ _ st2 b hb
    have hlt : b < r2.heap.objs.size := Heap.lt_size eo
    refine ⟨⟨?_, (f2 b hb).2⟩, by rw [hp3, Heap.size_push]; exact Nat.lt_succ_of_lt hlt⟩
    rw [upd_ne (by rw [hD]; exact Nat.ne_of_lt hlt)]; exact (f2 b hb).1
  have st3 : tn 0 r3.heap := T.keep _ _ _ st2 fun b _ o e => by rw [hp3]; exact Heap.get?_push_of_some _ e
  have J4 := block_start J3 ok hN f3
  have pin3 := J3.pin p (List.mem_append_left _ hmem)
  rw [← hr3]
  have pg := hg r3 (upd G2 D (.lst [])) r3.heap.objs.size (cellsFrom (r3.heap.objs.size + 1) scope.names (cloFrom X.env.cells scope.names [])) fp
  have pt := ht r3 (upd G2 D (.lst [])) r3.heap.objs.size (cellsFrom (r3.heap.objs.size + 1) scope.names (cloFrom X.env.cells scope.names [])) fp
  have pe := he r3 (upd G2 D (.lst [])) r3.heap.objs.size (cellsFrom (r3.heap.objs.size + 1) scope.names (cloFrom X.env.cells scope.names [])) fp
  have nfp : ∀ b ∈ fp, (upd G2 D (.lst [])) b = none := fun b hb => (f3 b hb).1.1
  refine (show codeAny (model X.prog X.w) X.A (.compStart (.ListComp elt [⟨tg, iter, ifs, 0⟩] scope pos) 0 (.ref it) (.ref D) (compEnvC scope (cellsFrom (r3.heap.objs.size + 1) scope.names (cloFrom X.env.cells scope.names [])) r3.heap.objs.size X.env))
    (compPost (model X.prog X.w) X.A X.xe none (EP X pins σ Q) (.ref D) r3.heap.objs.size) { r3 with heap := pushCells (r3.heap.push { cls := .type "dict", data := .dict #[] }) scope.names } from ?_)
  generalize hce : compEnvC scope (cellsFrom (r3.heap.objs.size + 1) scope.names (cloFrom X.env.cells scope.names [])) r3.heap.objs.size X.env = ce at J4 pg pt pe ⊢
  have cL : ce.locals = r3.heap.objs.size := by subst hce; rfl
  generalize hH3 : upd G2 D (.lst []) = G3 at J3 J4 pg pt pe w0 nfp f3 pin3
  generalize hr4 : ({ r3 with heap := pushCells (r3.heap.push { cls := .type "dict", data := .dict #[] }) scope.names } : Shared) = r4 at J4 ⊢
  have st4 : tn 0 r4.heap := T.keep _ _ _ st3 fun b _ o e => by rw [← hr4]; exact pushCells_keeps _ _ _ _ (Heap.get?_push_of_some _ e)
  -- the handled exception stands, whatever the block does
  have stands : ∀ {σ' : L2.St} {H' : Hp} {s' : Shared} {pl : List (Addr × Obj)}, Inv (X.blk r3 G3 scope ce fp) pl σ' H' s' → HotH p.1 s'.heap := fun {σ' H' s' pl} I' => by
    have nfs : p.1 ∉ frs X.stack := fun hm => (List.mem_cons.mp (J3.stkSub p.1 hm)).elim pin3.2.2.1 pin3.2.2.2.1
    exact ⟨p.2, vs1, I'.base.keep p.1 p.2 pin3.1 pin3.2.1 nfs (fun hm => x1 _ hm rfl), d1, c1⟩
  have pg := pg ⟨hh, fun _ _ _ _ J => stands J⟩
  have foot : ∀ {σ' : L2.St} {H' : Hp} {s' : Shared}, Inv (X.blk r3 G3 scope ce fp) [] σ' H' s' → (∀ b ∈ fp, H' b = none) → ∀ b ∈ fp, FpOk (X.blk r3 G3 scope ce fp) [] H' b := fun {σ' H' s'} I' hn b hb =>
    ⟨hn b hb, (I'.ok.exf b hb).1, I'.ok.exfs b hb, .inl hb, fun x c e => (I'.ok.exf b hb).2 x c e, fun q hq => nomatch hq⟩
  have loop : codeAny (model X.prog X.w) X.A (.compLoop (.ListComp elt [⟨tg, iter, ifs, 0⟩] scope pos) 0 (.ref it) (.ref D) ce) (compPost (model X.prog X.w) X.A X.xe none (EP X pins σ Q) (.ref D) r3.heap.objs.size) r4 := by
    refine compLoop_any (fun n s' => ∃ i H', Inv (X.blk r3 G3 scope ce fp) [] (wipe σ (own.map (·.2))) H' s' ∧ tn i s'.heap ∧ (∀ b ∈ fp, H' b = none) ∧ W i n H') ?_ m0 ⟨0, G3, J4, st4, nfp, w0⟩
    rintro n r5 ⟨i, G5, J5, st5, n5, w5⟩
    rcases turn i n G5 w5 with ⟨stop, qq⟩ | ⟨go, Nx, hNx, step⟩
    · refine thnF (T.done (X.blk r3 G3 scope ce fp) p.1 rfl rfl rfl hh x1 i [] r5 _ G5 (fun _ _ => False) (stands J5) J5 (foot J5 n5) st5 stop) fun r r6 ⟨hr, J6⟩ => ?_
      subst hr
      have J7 : Inv X pins σ G5 r6 := J3.call' (ch := fp) J6.os J6.base J6.hok J6.bare fun b hb => by
        have z := (f3 b hb).1
        exact ⟨z.2.2.2.1, z.2.1, z.2.2.2.2.1, z.2.2.2.2.2⟩
      have nC : G5 r3.heap.objs.size = none := by rw [← cL]; exact J6.free
      obtain ⟨m, hn, _⟩ := J6.loc
      have hn : r6.heap.Ns ce.locals m := hn
      rw [cL] at hn
      refine ⟨m, hn, fun h'' sb => ?_⟩
      obtain ⟨f0, fa, fb, fc, fd, ff⟩ := J3.fpOk (H' := G5) (Nat.le_refl _) nC
      exact ⟨.ref D, G5, J7.turned (t' := r6.toks) (fun b o hb e => (sb.2 b hb).trans e) f0 fa fc fd ff, rfl, qq⟩
    · refine thnF (T.item (X.blk r3 G3 scope ce fp) p.1 rfl rfl rfl hh x1 i [] r5 _ G5 (fun _ _ => False) (stands J5) J5 (foot J5 n5) st5 go) fun r r6 ⟨u, hr, h6⟩ => ?_
      subst hr
      refine thnF h6 fun _ r7 ⟨x, G7, J7, v7, y7, st7, n7⟩ => thnF (pg.run _ r7 _ G7 x u _ (J7.pinned (foot J7 n7) (T.obj _ _ st7)) v7 (step x G7 y7)) fun _ r8 ⟨σ8, G8, J8, hw8, q8⟩ => ?_
      refine thnF (pt.run _ r8 σ8 G8 _ J8 q8) fun b r9 ⟨G9, J9, q9⟩ => ?_
      have fin : ∀ {s' : Shared} {H' : Hp}, Inv (X.blk r3 G3 scope ce fp) ([] ++ pinsAt fp r7.heap) σ8 H' s' → Nx H' → ∃ m, m < n ∧ ∃ i H', Inv (X.blk r3 G3 scope ce fp) [] (wipe σ (own.map (·.2))) H' s' ∧ tn i s'.heap ∧ (∀ b ∈ fp, H' b = none) ∧ W i m H' := fun {s' H'} I' nx => by
        obtain ⟨m', hm, w'⟩ := hNx H' nx
        have pinned : ∀ b ∈ fp, ∀ o, r7.heap.get? b = some o → s'.heap.get? b = some o ∧ H' b = none := fun b hb o e => by
          have z := I'.pin (b, o) (List.mem_append_right _ (List.mem_append_right _ (mem_pinsAt hb e)))
          exact ⟨z.1, z.2.1⟩
        refine ⟨m', hm, i + 1, H', (I'.unpinned (pins := [])).weak (by rw [← hw8, wipe_length]) (fun j v e => by rw [← hw8] at e; exact (wipe_some e).1), T.keep _ _ _ st7 fun b hb o e => (pinned b hb o e).1, fun b hb => ?_, w'⟩
        obtain ⟨o, e, _⟩ := T.obj _ _ st7 b hb
        exact (pinned b hb o e).2
      cases b with
      | false =>
        simp only [Bool.false_eq_true, if_false] at q9 ⊢
        exact fin J9 q9
      | true =>
        simp only [if_true] at q9 ⊢
        exact thnF (pe.run _ r9 σ8 G9 _ J9 q9) fun z r10 ⟨yv, G10, J10, v10, acc, hD10, hz10, nx⟩ => app_ok (X := X.blk r3 G3 scope ce fp) J10 hD10 hz10 v10 fun r11 J11 => fin J11 nx
  exact codeAny_compStart_list loop (T.self X.A 0 _ _ _ st4 loop)
end
end Bx
end

section
/-! Over data, where an exception is handled: zip of two lists, comprehensions, isinstance of the exception, defs that are called with it. -/
namespace Bx
open PySem L2 PySem.Spec PyProof.Rows HotX L2H
/-! ### zip of two lists, comprehensions -/
def iZL (K : PySem.W.Frag) (ta : TA) : TI := fun σ H R => ta σ H fun vs H1 => ∃ a b xs ys, vs = [.ref a, .ref b] ∧ SqL K H1 a xs ∧ SqL K H1 b ys ∧ R (ItZ true true K a b) H1
theorem pi_zipE {X : Cx} {e e2 : Expr} {ta : TA} {p pos tpos : Pos} {elts : List Expr} {kk : Nat} (hg : Gl X "zip") (hm : X.mg "zip" = none) (ha : PA X [e, e2] ta)
    (hs : starEach [e, e2] X.env = (false, eval e X.env) :: starEach [e2] X.env := by rfl) (hpl : (backTo pos (starEach [e2] X.env)).any (·.1) = false := by rfl) :
    PIe X (.Tuple elts kk tpos) (.Call (.Name "zip" p) [e, e2] [] pos) (iZL X.K ta) := by
  refine ⟨fun pins s σ H R I h => Call_ (ld_blt I hg hm PyProof.Rows.boot_zip (PyProof.Rows.callWith_type1 (thn (ha.run pos pins s σ H _ I h) fun us s1 ⟨vs, H1, I1, r1, q1⟩ => ?_) hs hpl))⟩
  obtain ⟨a, b, xs, ys, rfl, hqx, hqy, q⟩ := q1
  cases r1 with
  | cons r t =>
    cases t with
    | cons r' t =>
      cases t; cases r; cases r'
      obtain ⟨us, rv, p1, _⟩ := sqB_seq (k := true) I1 hqx
      obtain ⟨ws, rv2, p2, _⟩ := sqB_seq (k := true) I1 hqy
      have la := seqB_lt (k := true) p1
      have lb := seqB_lt (k := true) p2
      refine zip_begins2 (beginsB true a us.toArray) (beginsB true b ws.toArray) p1 p2 fun h' hz hTI hTO h1 h2 hsz hk => wpAny_pyIter_zip hz ?_
      generalize hN : s1.heap.objs.size = N at *
      have I2 : Inv X pins σ H1 { s1 with heap := h' } := I1.kept (t' := s1.toks) hk
      refine ⟨N + 4, [N + 4, N + 2, N + 3, N, N + 1], _, _, H1, rfl, I2, turn_zipE (TI := N + 2) (TO := N + 3) (i1 := N) (i2 := N + 1) (zipCells_new la lb), ⟨hz, hTI, ⟨_, _, hTO⟩, itB_new true h1, itB_new true h2⟩, fun c hcm => ?_, q⟩
      have hle : s1.heap.objs.size ≤ c := by
        rw [hN]; exact cells_le5 hcm
      exact I1.fpOk hle (I1.hok.fresh hle)
def asLstD : Val → Option (List D)
  | .d (.lst ds) => some ds
  | _ => none
def wZipL (pa : TPa) : TPi := fun s Q => pa s fun cs s1 => match cs with
  | [c, d] => match asLstD c, asLstD d with
    | some xs, some ys => Q (zipD xs ys) s1
    | _, _ => False
  | _ => False
abbrev PPe (X : Cx) (tg e : Expr) (p : TPi) : Prop := PIe X tg e (liftI X.K p)
theorem PIe.w {X : Cx} {tg e : Expr} {t t' : TI} (h : PIe X tg e t) (w : ∀ σ H R, t' σ H R → t σ H R) : PIe X tg e t' := ⟨fun pins s σ H R I q => h.run pins s σ H R I (w _ _ _ q)⟩
theorem asLstD_q {K : PySem.W.Frag} {g : G} {s : S} {H : Hp} {v : V} {c : Val} {ds : List D} (r : RepV K g s H v c) (e : asLstD c = some ds) :
    ∃ a xs, v = .ref a ∧ SqL K H a xs ∧ xs.length ≤ sizeLine ∧ Reps K (Ov g s) H xs ds ∧ ∀ H', (∀ a, ¬ Ov g s a → ∀ o, H a = some o → H' a = some o) → SqL K H' a xs := by
  unfold asLstD at e
  split at e
  · cases e
    cases r with
    | lst a xs ds hO h hl r => exact ⟨a, xs, rfl, .of h, hl, r, fun H' kp => .of (kp a hO _ h)⟩
  · cases e
theorem ppe_zip {X : Cx} {e e2 : Expr} {pa : TPa} {p' pos tpos : Pos} {elts : List Expr} {kk : Nat} (T : Blt X.mg) (hg : Gl X "zip") (ha : PPa X [e, e2] pa) (hs : starEach [e, e2] X.env = (false, eval e X.env) :: starEach [e2] X.env := by rfl) (hpl : (backTo pos (starEach [e2] X.env)).any (·.1) = false := by rfl) :
    PPe X (.Tuple elts kk tpos) (.Call (.Name "zip" p') [e, e2] [] pos) (wZipL pa) := by
  refine (pi_zipE hg T.zip ha hs hpl).w fun σ H R ⟨g, s, Qp, hd, hp, k⟩ => ⟨g, s, _, hd, hp, fun vs H' cs g' s' hd' a' r hq => ?_⟩
  split at hq
  · rename_i c d
    split at hq
    · rename_i xs ys e1 e2
      cases r with
      | cons r t =>
        cases t with
        | cons r2 t =>
          cases t
          obtain ⟨a, us, rfl, h1, l1, rr1, st1⟩ := asLstD_q r e1
          obtain ⟨b, ws, rfl, h2, l2, rr2, st2⟩ := asLstD_q r2 e2
          refine ⟨a, b, us, ws, rfl, h1, h2, k _ _ _ _ _ hd' a' ⟨?_, fun i O' H2 kp ov tr => ⟨fun hi => ⟨us, ws, st1 H2 kp, st2 H2 kp, ?_⟩, fun x hx => ?_⟩⟩ hq⟩
          · rw [zipD_length, ← rr1.length]; omega
          · rw [zipD_length, ← rr1.length, ← rr2.length] at hi
            omega
          · obtain ⟨x1, y1, f1, f2, rfl⟩ := zipD_get hx
            obtain ⟨u, g1, g2⟩ := rr1.get f1
            obtain ⟨v, g3, g4⟩ := rr2.get f2
            refine ⟨⟨us, ws, u, v, st1 H2 kp, st2 H2 kp, g1, g3⟩, fun z H3 ⟨T, o', u', v', ez, ho, hT, eH, q1, q2⟩ => ?_⟩
            subst ez eH
            have e3 := q1 us (st1 H2 kp)
            rw [g1] at e3; cases e3
            have e4 := q2 ws (st2 H2 kp)
            rw [g3] at e4; cases e4
            exact ⟨upd_keeps hT, fresh_tup2 ho hT (fun z => tr T z hT) (g2.stay kp ov) (g4.stay kp ov)⟩
    · exact hq.elim
  · exact hq.elim
theorem pp_lcE {X : Cx} {p : Addr × Obj} (hot : HotX1 X p) {elt tg iter : Expr} {ifs : List Expr} {scope : Scope} {own : List (Str × Nat)} {pos : Pos} {pi : TPi} {tt : TPt} {te : TP} (k : Bool) (t : Tg) (hN : X.N.Nodup) (hi : PPe X tg iter pi) (ok : BlkOk X.N X.env.scope scope own) (hsl : ∀ j ∈ t.slots, j ∈ own.map (·.2))
    (hg : ∀ (s : Shared) (H : Hp) (C : Addr) (cl : List (Str × Addr)) (fp : List Addr), HotB (X.blk s H scope (compEnvC scope cl C X.env) fp) p.1 → PG (X.blk s H scope (compEnvC scope cl C X.env) fp) tg (t.H X.K)) (ht : ∀ (s : Shared) (H : Hp) (C : Addr) (cl : List (Str × Addr)) (fp : List Addr), PTs (X.blk s H scope (compEnvC scope cl C X.env) fp) ifs (liftT X.K tt))
    (he : ∀ (s : Shared) (H : Hp) (C : Addr) (cl : List (Str × Addr)) (fp : List Addr), PP (X.blk s H scope (compEnvC scope cl C X.env) fp) elt te) (hs : ∀ x, foldedSetIterable iter X.env x = pure x := by intro _; rfl) :
    PP X (.ListComp elt [⟨tg, iter, ifs, 0⟩] scope pos) (wLc (own.map (·.2)) k pi t.w tt te) := PEw (lc_hot hot hN hi ok hg ht he hs) (lift_lc k _ hsl)
/-! ### text.split(text) -/
def wSplit (p q : TP) : TP := fun s Q => p s fun c s1 => match c with
  | .d (.str a) => q s1 fun d s2 => match d with
    | .d (.str b) => ((b.length == 0) = false ∧ a.length + 2 ≤ sizeLine ∧ (Txt.split a b).length ≤ sizeLine) ∧ Q (.d (.lst ((Txt.split a b).map D.str))) s2
    | _ => False
  | _ => False
theorem pp_split {X : Cx} {o e : Expr} {p q : TP} {apos pos : Pos} (ho : PP X o p) (he : PP X e q) (hs : starEach [e] X.env = [(false, eval e X.env)] := by rfl) (hbase : attributeBase o "split" X.env (eval o X.env) = eval o X.env := by rfl) (hline : (apos.endLine == pos.line) = true := by rfl) :
    PP X (.Call (.Attribute o "split" apos) [e] [] pos) (wSplit p q) :=
  PEw (pe_split ho he hs hbase hline) fun σ H Q ⟨g, s, Qp, hd, hp, k⟩ => ⟨g, s, _, hd, hp, fun v H1 c g1 s1 hd1 a1 r1 hq => by
    split at hq
    · rename_i a
      cases r1
      refine ⟨⟨a, rfl⟩, g1, s1, _, hd1, hq, fun y H2 d g2 s2 hd2 a2 r2 hq2 => ?_⟩
      split at hq2
      · rename_i b
        cases r2
        obtain ⟨⟨z1, z2, z3⟩, q⟩ := hq2
        refine ⟨a, b, rfl, rfl, z1, z2, fun p hp => ?_⟩
        exact new_o (K := X.K) (o := .lst ((Txt.split a b).map V.str)) (d := .lst ((Txt.split a b).map D.str)) false hd2 ((k.after a1).after a2) ⟨by rw [List.length_map]; exact z3, reps_str _⟩ q p hp
      · exact hq2.elim
    · exact hq.elim⟩
/-! ### isinstance of the handled exception -/
def fIsE (a : Addr) (kit : V → Option Bool) : BN := fun cs s Q => match cs with
  | [.d (.raw (.ref b)), .d (.raw c)] => b = a ∧ ∃ bb, kit c = some bb ∧ Q (.d (.bl bb)) s
  | _ => False
/-- the class that a value names -/
def clsV : V → Option Value
  | .ref c => some (.ref c)
  | .ty n => some (.type n)
  | _ => none
def kitV (K : PySem.W.Frag) (C : Addr) (c : V) : Option Bool := (clsV c).bind fun cv => PySem.W.kitOne K (.ref C) cv
def rIsX (K : PySem.W.Frag) (C a : Addr) : List V → Hp → VK → Prop := fun xs H Q => ∃ c b, xs = [.ref a, c] ∧ kitV K C c = some b ∧ Q (.bl b) H
theorem call_isX {X : Cx} {p : Addr × Obj} {C : Addr} (c : ExcC X.K C) (hp : p ∈ X.pn) (hz : Zc (.ref C) none p.2) (hf : ∃ vs, p.2.data = .fields vs) : CallR X (.builtin "isinstance") (rIsX X.K C p.1) := by
  intro pins s σ H xs us Q I r h
  obtain ⟨cv, b, rfl, e, q⟩ := h
  cases r with
  | cons rx rr =>
    cases rr with
    | cons rt rr =>
      cases rr
      cases rx
      have hget := (I.pin p (List.mem_append.mpr (.inl hp))).1
      obtain ⟨vs, hv⟩ := hf
      have J : PySem.W.InstAt s.heap p.1 p.2 C none := by
        obtain ⟨pa, oc, od, oda, osl⟩ := p
        obtain ⟨h1, h2⟩ := hz
        dsimp only at h1 h2 hv
        subst h1 h2 hv
        exact ⟨hget, rfl, rfl, trivial⟩
      have kx := PySem.W.handS_kitx_exc (x := p.1) (ox := p.2) c.hg c.hk c.hs c.hd c.ha c.hn c.ht c.hm
      cases cv with
      | ref d =>
        cases rt
        exact PySem.W.kia_one kx I.kIn J e (fun z => nomatch z) fun tk => ⟨.bl b, H, I.kept (t' := tk) fun _ _ z => z, rfl, q⟩
      | ty n =>
        cases rt
        exact PySem.W.kia_one kx I.kIn J e (fun z => nomatch z) fun tk => ⟨.bl b, H, I.kept (t' := tk) fun _ _ z => z, rfl, q⟩
      | _ => simp [kitV, clsV] at e
theorem fi_isX {K : PySem.W.Frag} {C a : Addr} : ArgI K (rIsX K C a) (fIsE a (kitV K C)) := fun g s σ H xs cs Qp Q hd rs hb kt => by
  unfold fIsE at hb
  split at hb
  · rename_i b c
    obtain ⟨rfl, bb, e, q⟩ := hb
    cases rs with
    | cons r t =>
      cases t with
      | cons r2 t =>
        cases t; cases r; cases r2
        exact ⟨c, bb, rfl, e, kt _ _ (.d _) _ _ hd .refl (.bl _) q⟩
  · exact hb.elim
theorem pp_isE {X : Cx} {p : Addr × Obj} {C : Addr} {e e2 : Expr} {pa : TPa} {p' pos : Pos} (c : ExcC X.K C) (hp : p ∈ X.pn) (hz : Zc (.ref C) none p.2) (hf : ∃ vs, p.2.data = .fields vs) (T : Blt X.mg) (hg : Gl X "isinstance") (ha : PPa X [e, e2] pa)
    (he : starEach [e, e2] X.env = (false, eval e X.env) :: starEach [e2] X.env := by rfl) (hpl : (backTo pos (starEach [e2] X.env)).any (·.1) = false := by rfl) : PP X (.Call (.Name "isinstance" p') [e, e2] [] pos) (wArg (fIsE p.1 (kitV X.K C)) pa) :=
  pp_callB (call_isX c hp hz hf) fi_isX hg T.isinstance (by decide +kernel) ha (he := he) (hpl := hpl)
/-- a class of the top as a value -/
theorem pp_cls {X : Cx} {x : Str} {C : Addr} {pos : Pos} (h : X.mg x = some (.ref C)) (hg : Gl X x) (hd : (x == ("__debug__" : Str)) = false := by decide) : PP X (.Name x pos) (wC (.raw (.ref C))) :=
  PEw (pe_glob (v := .ref C) hg h rfl hd) fun σ H Q ⟨g, s, Qp, hd, hp, k⟩ => k _ H (.d _) g s hd .refl (.raw _) hp
theorem pp_eqU {X : Cx} {a b : Expr} {p q : TP} {pos : Pos} (hu : X.A.units + 64 < cLine) (ha : PP X a p) (hb : PP X b q) : PP X (.Compare a [.Eq] [b] pos) (wBin cEq p q) := pp_cmp (op_eq.or (op_eqD hu)) ci_eq ha hb (nomark _)
theorem ppt_eqU {X : Cx} {a b : Expr} {p q : TP} {pos : Pos} (hu : X.A.units + 64 < cLine) (ha : PP X a p) (hb : PP X b q) : PPt X (.Compare a [.Eq] [b] pos) (wTest (wBin cEq p q)) := ppt_cmp (op_eq.or (op_eqD hu)) ci_eq ha hb (nomark _)
end Bx
end

section
/-! Defs called with the handled exception; try .. except .. as e: return f(e). -/
namespace Bx
open PySem L2 PySem.Spec PyProof.Rows HotX L2H
/-- a def that is called with the handled exception, of the class C -/
structure FnE (P : Program) (w : World) (K : PySem.W.Frag) (mg : Str → Option Value) (base : Heap) (k : Nat) (f : Addr) (fd : FuncData) (ps : List Str) (C : Addr) (sp : Addr → Spec) : Prop where
  len : ∀ a args own Q E, sp a args own Q E → args.length = ps.length
  run : ∀ (A : Around) (outer : List Env) (s : Shared) (H : Hp) (args : Args) (us : List Value) (vs : List V) (Q : VK) (p : Addr × Obj), RoomH k A → Hot1 A p → Zc (.ref C) none p.2 → PinOk outer H s p → Env0 P w K mg base A outer s H →
    BindsTo s fd args (ps.zip us) → Vals vs us → liftF K (sp p.1) vs H Q E0 → codeAny (model P w) A (.call (.ref f) args) (CR CX0 outer P w H s Q E0) s
/-- .. stands at the top under its name -/
structure CalE (P : Program) (w : World) (K : PySem.W.Frag) (mg : Str → Option Value) (base : Heap) (k : Nat) (name : Str) (ps : List Str) (C : Addr) (sp : Addr → Spec) : Prop where
  ex : ∃ f fd, FnE P w K mg base k f fd ps C sp ∧ mg name = some (.ref f) ∧ PySem.W.keepIn K (.ref f) = true ∧ Binds K fd ps []
section
variable {P : Program} {w : World} {K : PySem.W.Frag} {mg : Str → Option Value} {base : Heap} {C : Addr}
theorem fnE {x qual : Str} {st : Stmt} {f : Addr} {fd : FuncData} {N ps : List Str} {k : Nat} {sp : Addr → Spec} {p : Addr → TPs} (F : Fun K x qual st f fd) (S : FnScope N ps (defScope st)) (len : ∀ a args own Q E, sp a args own Q E → args.length = ps.length)
    (hb : ∀ (cdv : Value) (A : Around) (outer : List Env) (s : Shared) (H : Hp) (q : Addr × Obj), Hot1 A q → Zc (.ref C) none q.2 → RoomH k (A.deeper (envOfC qual (defScope st) s.heap.objs.size f cdv)) →
      PPss (cxH CX0 P w K mg base N qual (defScope st) f cdv A outer s H E0 q).nox (fun _ _ _ _ => False) (defBody st) (p q.1))
    (hp : ∀ a args own Q E, sp a args own Q E → p a (endsF own.length Q fun _ _ => False) ⟨startE N args, own.map some⟩) : FnE P w K mg base (k + 1) f fd ps C sp := by
  obtain ⟨oc, od, kV, doc, pm, an, cdv, ct, osl, rfl, lk, hcd⟩ := F.ex
  refine ⟨len, fun A outer s H args us vs Q q hr hot hz hpin e0 bd r hsp => ?_⟩
  obtain ⟨g, cs, own, Qp, Ep, hd, h, k1, k2⟩ := id hsp
  have hl : vs.length = ps.length := by
    have := hd.len
    simp only [List.length_map] at this
    rw [this]; exact len _ _ _ _ _ h
  have kin : K.In s.heap := e0.mod.kin.keeps fun b o e => (e0.bs b o e).1
  have lim : s.heap.NoLimit := e0.mod.nolimit.keeps fun b o e => (e0.bs b o e).1
  have kinds : ∀ y ∈ ps.zip us, (defScope st).names.lookup y.1 = some .local ∨ ((defScope st).names.lookup y.1 = some .cell ∧ ((cellsFrom (s.heap.objs.size + 1) (defScope st).names []).lookup y.1).isSome = true) := fun y hy => by
    have hm := (List.of_mem_zip (show (y.1, y.2) ∈ ps.zip us from hy)).1
    exact (S.par y.1 hm).elim .inl fun z => .inr ⟨z, PySem.W.cellsFrom_some _ _ _ (.inl z)⟩
  refine codeAny_call_function hr.depth (kin _ _ lk) rfl S.co S.gen rfl (PySem.W.codeRec_of kin hcd) (bd _ _ _ _ (wpAny_newFunctionEnv_cells S.kind kinds fun env he s1 x => ?_))
  subst he
  refine ⟨lim.keeps x.toInCall.keep, codeAny_func ?_⟩
  have body := PSs.nox (hb cdv A outer s H q hot hz (hr.deeper _))
  have I := inv_startH (CX := CX0) (E := E0) S hpin e0 hl r x
  have wish : liftS K (fun _ _ _ _ => False) (p q.1) { nx := fun _ H' => Q .non H', rt := Q } (L2.start N vs) H := ⟨g, _, _, hd.start, hp _ _ _ _ _ h, fin_ok hd k1, fun σ' H' g' s' C' hd' a' z => by
    have z' : (match takeAll own.length s'.own with | none => False | some _ => False) := z
    split at z' <;> exact z'.elim⟩
  refine wpAny_mono (body.run [] s1 (L2.start N vs) H _ I wish) (fun fl s' hs => ?_) fun _ _ z => z
  cases fl with
  | ret u => obtain ⟨v, σ', H', J, rv, z⟩ := hs; exact ⟨v, H', J.os, J.bare, J.base, J.hok, rv, z⟩
  | next => obtain ⟨σ', H', J, z⟩ := hs; exact ⟨.non, H', J.os, J.bare, J.base, J.hok, rfl, z⟩
  | brk => obtain ⟨_, _, _, z⟩ := hs; exact z.elim
  | cont => obtain ⟨_, _, _, z⟩ := hs; exact z.elim
theorem mkE {name : Str} {st : Stmt} {N ps : List Str} {k : Nat} {sp : Addr → Spec} {p : Addr → TPs} (h : Has K mg name st ps) (S : FnScope N ps (defScope st)) (len : ∀ a args own Q E, sp a args own Q E → args.length = ps.length)
    (hb : ∀ (f : Addr) (cdv : Value) (A : Around) (outer : List Env) (s : Shared) (H : Hp) (q : Addr × Obj), Hot1 A q → Zc (.ref C) none q.2 → RoomH k (A.deeper (envOfC name (defScope st) s.heap.objs.size f cdv)) →
      PPss (cxH CX0 P w K mg base N name (defScope st) f cdv A outer s H E0 q).nox (fun _ _ _ _ => False) (defBody st) (p q.1))
    (hp : ∀ a args own Q E, sp a args own Q E → p a (endsF own.length Q fun _ _ => False) ⟨startE N args, own.map some⟩) : CalE P w K mg base (k + 1) name ps C sp := by
  obtain ⟨f, fd, F, hm, b⟩ := h.ex
  exact ⟨f, fd, fnE F S len (fun cdv A outer s H q h1 h2 hr => hb f cdv A outer s H q h1 h2 hr) hp, hm, F.kp, b⟩
end
section
variable {X : Cx} {e : Expr} {es : List Expr} {pa : TPa} {k j : Nat} {ps : List Str} {C : Addr} {sp : Addr → Spec} {x : Str} {pos cpos : Pos}
/-- f(..) where p is handled -/
theorem pp_callE (c : CalE X.prog X.w X.K X.mg X.base j x ps C sp) {p : Addr × Obj} (hr : RoomH k X.A) (hj : j ≤ k) (hot : Hot1 X.A p) (hz : Zc (.ref C) none p.2) (hp : p ∈ X.pn) (hg : Gl X x) (ha : PPa X (e :: es) pa)
    (hdb : (x == ("__debug__" : Str)) = false := by decide) (he : starEach (e :: es) X.env = (false, eval e X.env) :: starEach es X.env := by rfl) (hpl : (backTo cpos (starEach es X.env)).any (·.1) = false := by rfl) : PP X (.Call (.Name x pos) (e :: es) [] cpos) (wCall (sp p.1) pa) := by
  obtain ⟨f, fd, F, hm, hk, hb⟩ := c.ex
  refine ⟨fun pins s σ H Q I ⟨g, s0, Qp, hd, hq, kt⟩ => wpAny_Call_Name_kw (ld_glob I hg hm ?_ hdb)⟩
  refine PySem.W.callWith_K (h₀ := X.base) I.ok.mod.kin hk (thn (ha.run cpos pins s σ H (fun vs H1 => liftF X.K (sp p.1) vs H1 Q E0) I ⟨g, s0, _, hd, hq, fun vs H1 cs g1 s1 hd1 a1 rs q1 => callW_ok hd1 rs q1 (kt.after a1) fun _ _ _ _ _ _ z => z.elim⟩) fun us s1 ⟨vs, H1, I1, r, q⟩ => ⟨I1.kIn, ?_⟩) he hpl
  have hl : us.length = ps.length := by
    obtain ⟨g', cs', own', _, _, hd', h', _⟩ := q
    have l1 := hd'.len
    simp only [List.length_map] at l1
    rw [← r.length, l1]; exact F.len _ _ _ _ _ h'
  have b := hb s1 us I1.kIn (by rw [List.append_nil]; exact hl)
  rw [List.append_nil] at b
  have P1 := I1.pin p (List.mem_append_left _ hp)
  have pin : PinOk X.stack H1 s1 p := ⟨P1.1, P1.2.1, fun m => (List.mem_cons.mp (I1.stkSub p.1 m)).elim P1.2.2.1 P1.2.2.2.1, P1.2.2.2.2⟩
  refine wpAny_call (codeAny_mono (F.run X.A X.stack s1 H1 ⟨us, []⟩ us vs Q p (hr.mono hj) hot hz pin I1.env0 b r q) fun rr s' hq => ?_)
  match rr, hq with
  | .ok (.ret u), hq => exact I1.after hq
  | .error e, hq => exact hq.elim
end
/-! ### try -/
/-- word C: what is told of an exception of the class C -/
def wTry (word : Addr → Option Str) (tb : TPs) : TPs := fun E s => tb { E with ex := fun C s1 => ∃ w, word C = some w ∧ E.rt (.d (.str w)) s1 } s
/-- what the suite tells: f(e) -/
def spRef (w : Str) : Addr → Spec := fun a args own Q _ => args = [.d (.raw (.ref a))] ∧ own = [] ∧ Q (.d (.str w)) []
def tSuite (word : Addr → Option Str) (i : Nat) (a : Addr) (cls : Value) (d : Option Addr) : TS := fun D σ H => ∃ (C : Addr) (w : Str) (σ0 : L2.St), cls = .ref C ∧ d = none ∧ word C = some w ∧ σ = σ0.set i (some (.ref a)) ∧ ∀ H', (∀ b o, H b = some o → H' b = some o) → D.rt (.str w) H'
section
variable {X : Cx} {W : WX} {word : Addr → Option Str} {i j k : Nat} {tb : TPs} {CS : Addr} {body : List Stmt} {fx n xs : Str} {np q1 q2 q3 rpos pos pos' : Pos}
theorem suite_ok (hr : Room k X.A) (hj : j ≤ k) (hi : X.N[i]? = some n) (hln : X.env.kindOf n = some .local) (hdn : (n == ("__debug__" : Str)) = false) (hcn : (n == ("__classdict__" : Str)) = false) (hgf : Gl X fx) (hdf : (fx == ("__debug__" : Str)) = false)
    (ref : ∀ C w, word C = some w → CalE X.prog X.w X.K X.mg X.base j fx [n] C (spRef w)) (a : Addr) (oe : Obj) (cls : Value) (d : Option Addr) (pn : List (Addr × Obj)) (hz : L2N.Zn cls d oe) (hf : ∃ vs, oe.data = .fields vs)
    (hse : starEach [.Name n q2] X.env = (false, eval (.Name n q2) X.env) :: starEach [] X.env) :
    PSs (X.suite a ((a, oe) :: pn)) [.Return (some (.Call (.Name fx q1) [.Name n q2] [] q3)) rpos] (tSuite word i a cls d) := by
  refine ⟨fun pins s σ H D I ⟨C, w, σ0, e1, e2, hw, es, hq⟩ => ?_⟩
  subst e1 e2
  obtain ⟨vs, hv⟩ := hf
  have hlen : i < (σ0.set i (some (V.ref a))).length := by
    have h1 : σ.length = X.N.length := I.len
    rw [es] at h1
    have h2 := (List.getElem?_eq_some_iff.mp hi).1
    omega
  have hsl : σ[i]? = some (some (.ref a)) := by
    rw [es, List.getElem?_set_self (by simpa using hlen)]
  have call : PP (X.suite a ((a, oe) :: pn)) (.Call (.Name fx q1) [.Name n q2] [] q3) (wCall (spRef w a) (wCons (wVar i) wNil)) :=
    pp_callE (X := X.suite a ((a, oe) :: pn)) (p := (a, oe)) (j := j) (k := k) (ref C w hw) ⟨hr.dp, hr.un⟩ hj ⟨rfl, vs, hv, hz.2.2 vs hv⟩ ⟨hz.1, hz.2.1⟩ List.mem_cons_self hgf (ppa_cons (ppv i hi (.inl hln) hdn hcn) ppa_nil hse) hdf (he := hse)
  refine (pss_one (ps_ret call)).run pins s σ H D I ?_
  have hd0 : Hold X.K ⟨fun _ => False, []⟩ ⟨(List.replicate σ.length none).set i (some (.d (.raw (.ref a)))), []⟩ σ H := by
    refine ⟨by simp, fun m c hc => ?_, fun m d b hd => by simp at hd, rfl, List.nodup_nil, fun _ z => z.elim, fun _ z => by simp at z, fun _ z => by simp at z⟩
    by_cases e : i = m
    · subst e
      have hl : i < (List.replicate σ.length (none : Option Val)).length := by
        have := (List.getElem?_eq_some_iff.mp hsl).1
        simpa using this
      have hc : ((List.replicate σ.length (none : Option Val)).set i (some (.d (.raw (.ref a)))))[i]? = some (some c) := hc
      rw [List.getElem?_set_self hl] at hc
      injection hc with hc
      injection hc with hc
      subst hc
      exact ⟨_, hsl, .raw _⟩
    · have hc : ((List.replicate σ.length (none : Option Val)).set i (some (.d (.raw (.ref a)))))[m]? = some (some c) := hc
      rw [List.getElem?_set_ne e, List.getElem?_replicate] at hc
      split at hc <;> cases hc
  refine ⟨_, _, fun c s' => c = .d (.str w), hd0, ?_, fun v H' c g' s' hd' av rv ec => ?_⟩
  · have hn : nth ((List.replicate σ.length (none : Option Val)).set i (some (.d (.raw (.ref a))))) i = some (some (.d (.raw (.ref a)))) := by
      rw [nth_eq]
      exact List.getElem?_set_self (by
        have := (List.getElem?_eq_some_iff.mp hsl).1
        simpa using this)
    dsimp only [wCall, wCons, wVar, wNil]
    rw [hn]
    exact ⟨rfl, rfl, rfl⟩
  · subst ec
    cases rv
    refine hq H' fun b o e => av.keep b o e ?_
    rintro ⟨m, d, _, z⟩
    simp at z
theorem takes_none : L2N.Takes X (fun _ _ _ _ => False) := fun u s' ⟨a, B, sI, pins, σ, H, cls, d, e, I, nb, up, sky, na, os, ag, w⟩ => w.elim
theorem pp_try (hs : X.stack = X.env :: X.outer) (hfr : X.env.frame = some X.env.locals) (hN : X.N.Nodup) (hi : X.N[i]? = some n) (hln : X.env.kindOf n = some .local) (hr : Room k X.A) (hj : j ≤ k)
    (hgx : Gl X xs) (hmx : X.mg xs = some (.ref CS)) (hm : ∀ C w, word C = some w → PySem.W.exmOne X.K (.ref C) (.ref CS) = some true) (ref : ∀ C w, word C = some w → CalE X.prog X.w X.K X.mg X.base j fx [n] C (spRef w))
    (hb : ∀ (W' : WX) (pn : List (Addr × Obj)) (xe : Value → Shared → Prop), L2N.Takes (X.tr pn xe) W' → PPss (X.tr pn xe) W' body tb) (hgf : Gl X fx)
    (hdn : (n == ("__debug__" : Str)) = false := by decide) (hcn : (n == ("__classdict__" : Str)) = false := by decide) (hdf : (fx == ("__debug__" : Str)) = false := by decide) (hdx : (xs == ("__debug__" : Str)) = false := by decide)
    (hse : starEach [.Name n q2] X.env = (false, eval (.Name n q2) X.env) :: starEach [] X.env := by rfl) :
    PPs X W (.Try body [.ExceptHandler (some (.Name xs np)) (some n) [.Return (some (.Call (.Name fx q1) [.Name n q2] [] q3)) rpos] pos'] [] [] pos) (wTry word tb) :=
  PSw (L2N.ps_try_as (tb := fun W' => liftS X.K W' tb) (ts := tSuite word i) (Wout := fun _ _ _ _ => False) hs hfr hN hi hln ⟨hgx, hdx, .inl hmx⟩ takes_none (fun W' pn xe tk _ => hb W' pn xe tk)
    (fun a oe cls d pn hz hf => suite_ok hr hj hi hln hdn hcn hgf hdf ref a oe cls d pn hz hf hse)) fun D σ H ⟨g, s, E, hd, hp, kk, kx⟩ =>
    ⟨g, s, _, hd, hp, kk, fun σ' H' g' s' C hd' a' ⟨w, hw, hrt⟩ => ⟨true, hm C w hw, fun _ a ha => ⟨C, w, σ', rfl, rfl, hw, rfl, fun H'' ext =>
      KontS.rt kk (hd'.same ext) (a'.trans (adv_same ext)) (show RepV _ _ _ _ _ (.d (.str w)) from Rep.str w) hrt⟩, fun z => nomatch z⟩⟩
end
end Bx
end

section
/-! The end: facts by names, with the top's tuples. -/
namespace Bx
open PySem L2 PySem.Spec PyProof.Rows
/-- the module's name x is a tuple of these numbers, without attributes -/
def tuB (K : PySem.W.Frag) (x : Str) (ns : List Int) : Bool := match K.lookup (He.ga K x) with
  | some ⟨.type c, none, .seq its _, _⟩ => decide (c = "tuple") && (decide (its.size ≤ sizeLine) && He.relAll (ns.map V.int) its.toList)
  | _ => false
def tuOk (tu : List (Str × List Int)) (K : PySem.W.Frag) : Bool := tu.all fun p => tuB K p.1 p.2
def obK (tu : List (Str × List Int)) (fa : List He.Fa) (fn : List He.DefD) (K : PySem.W.Frag) : Bool × He.AlD := (tuOk tu K, He.obsD fa fn K)
def obX (n : Nat) (tu : List (Str × List Int)) (fa : List He.Fa) (fn : List He.DefD) (g : Addr → Option Obj) : Bool × He.AlD := obK tu fa fn (He.frG g (He.asD g n))
def hookX (n : Nat) (tu : List (Str × List Int)) (fa : List He.Fa) (fn : List He.DefD) : PySem.W.Hook where
  α := Bool × He.AlD
  obs := fun s => obX n tu fa fn s.heap.get?
  val := fun _ => (true, He.valD fn)
  says := fun _ h => ∃ K : PySem.W.Frag, K.In h ∧ tuOk tu K = true ∧ He.SaysD fa fn K
  of := fun _ _ e => ⟨_, He.frG_in, congrArg Prod.fst e, congrArg Prod.snd e⟩
  keeps := fun _ _ _ ⟨K, hK, t, c⟩ k => ⟨K, PySem.W.Frag.In.keeps hK k, t, c⟩
theorem obX_eq {n : Nat} {tu : List (Str × List Int)} {fa : List He.Fa} {fn : List He.DefD} {g : Addr → Option Obj} {s : Shared} (h : ∀ a, g a = s.heap.get? a) : obX n tu fa fn g = (hookX n tu fa fn).obs s := by
  have e : g = s.heap.get? := funext h
  rw [e] <;> rfl
section
variable {K : PySem.W.Frag} {h : Heap} {mg : Str → Option Value}
theorem has_at {name : Str} {st : Stmt} {ps : List Str} (X : K.In h) (G : h.Ns mainGlobals mg) (c : (He.Fa.glo name).ok K = true)
    (d : ∃ fd, FunD K name name (defArgs st) (defBody st) (defScope st) [] [] (He.fAd K (name, none)) fd)
    (b : ∀ (kV doc pm : Value) (an : Option Addr) (cdv ct : Value) (us : List Value), us.length = ps.length → bindArgs (PySem.W.fnOf name name (defArgs st) (defBody st) (defScope st) .none kV doc pm an cdv ct) ⟨us, []⟩ = pure (ps.zip us)) : Has K mg name st ps := by
  obtain ⟨fd, F⟩ := d
  refine ⟨He.ga K name, fd, ⟨?_, F.kp⟩, He.glo_ok X G c, FunD.bindsN (ps := ps) F b⟩
  obtain ⟨oc, od, dV, kV, doc, pm, an, cdv, ct, osl, e, lk, hcd, hD, _⟩ := F.ex
  rcases hD with ⟨_, rfl⟩ | ⟨z, _⟩
  · exact ⟨oc, od, kV, doc, pm, an, cdv, ct, osl, e, lk, hcd⟩
  · exact absurd rfl z
theorem glob_int {x : Str} {i : Int} (X : K.In h) (G : h.Ns mainGlobals mg) (c : (He.Fa.int x i).ok K = true) : GlobD K mg x (.int i) := by
  obtain ⟨t, e⟩ := He.int_ok X G c
  exact ⟨.int i, _, e, ⟨t, rfl⟩, fun _ _ => .int i⟩
theorem glob_str {x z : Str} (X : K.In h) (G : h.Ns mainGlobals mg) (c : (He.Fa.str x z).ok K = true) : GlobD K mg x (.str z) := by
  obtain ⟨t, e⟩ := He.str_ok X G c
  exact ⟨.str z, _, e, ⟨t, rfl⟩, fun _ _ => .str z⟩
theorem reps_int {K : PySem.W.Frag} {O : Addr → Prop} {H : Hp} : ∀ ns : List Int, Reps K O H (ns.map V.int) (ns.map D.int)
  | [] => .nil
  | n :: ns => .cons _ _ _ _ (.int n) (reps_int ns)
theorem glob_tup {x : Str} {ns : List Int} {tu : List (Str × List Int)} (X : K.In h) (G : h.Ns mainGlobals mg) (c : (He.Fa.glo x).ok K = true) (t : tuOk tu K = true) (m : (x, ns) ∈ tu) : GlobD K mg x (.tup (ns.map D.int)) := by
  have e := He.glo_ok X G c
  have t1 : tuB K x ns = true := List.all_eq_true.mp t _ m
  refine ⟨.ref (He.ga K x), _, e, rfl, fun O H => ?_⟩
  unfold tuB at t1
  split at t1
  · rename_i cc its n sl hk
    obtain ⟨h1, h2⟩ := He.ba t1
    obtain ⟨h3, h4⟩ := He.ba h2
    exact .tupK _ (ns.map V.int) _ _ its n hk (congrArg Value.type (of_decide_eq_true h1)) rfl rfl (of_decide_eq_true h3) (He.relAll_ok h4) (reps_int ns)
  · cases t1
theorem facts_end {P : Program} {w : World} {f : Addr} {k : Nat} {sp : Spec} {st : Stmt} (X : K.In h) (G : h.Ns mainGlobals mg) (hfa : mg ("law" : Str) = some (.ref f)) (cg : (He.Fa.glo "law").ok K = true)
    (d : ∃ fd, FunD K "law" "law" (defArgs st) (defBody st) (defScope st) [] [] (He.fAd K ("law", none)) fd)
    (b : ∀ (kV doc pm : Value) (an : Option Addr) (cdv ct : Value) (us : List Value), us.length = (["script"] : List Str).length → bindArgs (PySem.W.fnOf "law" "law" (defArgs st) (defBody st) (defScope st) .none kV doc pm an cdv ct) ⟨us, []⟩ = pure ((["script"] : List Str).zip us))
    (c : ∀ base : Heap, Cal P w K mg base k "law" ["script"] sp) :
    ∃ fd : FuncData, (∀ (s : Shared) (v : Value), BindsTo s fd ⟨[v], []⟩ [("script", v)]) ∧ ∀ base : Heap, K.In base → base.Ns mainGlobals mg → FnOk P w K mg base CX0 k f fd ["script"] (liftF K sp) := by
  obtain ⟨fd0, F⟩ := d
  have m0 := He.glo_ok X G cg
  rw [hfa] at m0
  have ef : f = He.fAd K ("law", none) := by injection m0 with m0; injection m0
  refine ⟨fd0, fun s v => FunD.bindsA (ps := ["script"]) F b s [v] rfl, fun base _ _ => ?_⟩
  obtain ⟨oc, od, dV, kV, doc, pm, an, cdv, ct, osl, _, lk, _⟩ := F.ex
  obtain ⟨f1, fd1, F1, m1, k1, b1, o1, l1, d1⟩ := (c base).ex
  rw [hfa] at m1
  have e1 : f = f1 := by injection m1 with m1; injection m1
  subst e1
  rw [← ef, l1] at lk
  injection lk with lk
  rw [lk] at d1
  injection d1 with d1
  subst d1
  exact F1
end
theorem reps_ints {K : PySem.W.Frag} {O : Addr → Prop} {H : Hp} (ns : List Int) : Reps K O H (ns.map V.int) (ns.map D.int) := reps_int ns
/-- the law's own call: nothing is hid, nothing is its own -/
theorem law_start {K : PySem.W.Frag} {H : Hp} {a : Addr} {ns : List Int} {sp : Spec} (hl : ns.length ≤ 63) (hS : SqL K H a (ns.map V.int)) (hsp : ∀ Q E, Q (.d (.bl true)) [] → sp [.d (.scr (ns.map D.int))] [] Q E) :
    liftF K sp [.ref a] H (fun v _ => v = .bl true) fun _ _ _ => False := by
  have hz : (ns.map V.int).length ≤ sizeLine := by rw [List.length_map, PySem.sizeLine_eq]; omega
  have nO : ∀ b, ¬ Ov ⟨fun _ => False, []⟩ ⟨[some (.d (.scr (ns.map D.int)))], []⟩ b := fun b o => by
    rcases o with o | ⟨i, d, e, _⟩
    · exact o
    · simp at e
  refine ⟨⟨fun _ => False, []⟩, [.d (.scr (ns.map D.int))], [], fun c own => c = .d (.bl true), fun _ _ => False, ?_, hsp _ _ rfl, ?_, fun _ _ _ _ _ _ z => z⟩
  · refine ⟨rfl, fun i c hc => ?_, fun i d b hd => by simp at hd, rfl, List.nodup_nil, fun _ z => z.elim, fun _ z => by simp at z, fun _ z => by simp at z⟩
    have : i = 0 ∧ c = .d (.scr (ns.map D.int)) := by
      cases i with
      | zero => simpa using hc.symm
      | succ i => simp at hc
    obtain ⟨rfl, rfl⟩ := this
    refine ⟨.ref a, rfl, ?_⟩
    rcases hS with h | ⟨o, its, n, hk, hc, hq, hd, hz', hv⟩
    · exact .scr a _ _ (nO a) h hz (reps_int ns)
    · exact .scrK a _ _ o its n hk hc hq hd hz' hv (reps_int ns)
  · rintro v H' c g' own' hd av rv rfl
    cases rv
    rfl
end Bx
end

section
/-! The classes of what is refused: facts of the top. -/
namespace Bx
open PySem L2 PySem.Spec PyProof.Rows HotX L2H
def exNames : List Str := ["NoNet", "NoNumbers", "NoHands", "NoPulls", "NoShafts", "NoShaft", "NoSpeed", "NoBox", "NoPlace", "NoHand", "Full", "Barred"]
def exWords : List Str := ["net", "numbers", "hands", "pulls", "shafts", "shaft", "speed", "box", "place", "hand", "full", "barred"]
def exAll : List Str := exNames ++ [("ShaftError" : Str)]
def wordOf (n : Str) : Str := ((exNames.zip exWords).lookup n).getD "else"
def askedOf (n m : Str) : Bool := decide (m = n) || decide (m = ("ShaftError" : Str))
/-- the facts of one class -/
structure ExcOne (K : PySem.W.Frag) (mg : Str → Option Value) (cl : Str → Addr) (n : Str) : Prop where
  at_ : ExcAt K mg n (cl n)
  c : ExcC K (cl n)
  kit : ∀ m ∈ exAll, PySem.W.kitOne K (.ref (cl n)) (.ref (cl m)) = some (askedOf n m)
  val : PySem.W.kitOne K (.ref (cl n)) (.type "ValueError") = some true
  exm : PySem.W.exmOne K (.ref (cl n)) (.ref (cl "ShaftError")) = some true
structure ExcAll (K : PySem.W.Frag) (mg : Str → Option Value) (cl : Str → Addr) : Prop where
  one : ∀ n ∈ exNames, ExcOne K mg cl n
  nod : (exNames.map cl).Nodup
  nm : ∀ m ∈ exAll, mg m = some (.ref (cl m))
  ve : mg "ValueError" = none
def eqOB (a b : Option Bool) : Bool := decide (a = b)
def eqOV (a b : Option Value) : Bool := decide (a = b)
def exOneB (K : PySem.W.Frag) (n : Str) : Bool :=
  He.Fa.ok K (He.Fa.exc n) &&
  (He.eqO (PySem.W.findIn K (.ref (He.ga K n)) "__getattribute__") (some (some (.builtin "BaseException.__getattribute__"))) &&
  (He.eqO (PySem.W.findIn K (.ref (He.ga K n)) "__getattr__") (some none) &&
  (PySem.W.hasDictIn K (He.ga K n) &&
  (He.eqO (PySem.W.findIn K (.ref (He.ga K n)) "__class__") (some (some (.builtin "object.__class__"))) &&
  (He.eqO (PySem.W.specialIn K (.builtin "object.__class__") "__get__") (some (some (.builtin "getset_descriptor.__get__"))) &&
  (eqOB (PySem.W.takesIn K (.builtin "object.__class__")) (some true) &&
  (eqOB (PySem.W.mroIn K (He.ga K n) (.type "object")) (some true) &&
  ((exAll).all (fun m => eqOB (PySem.W.kitOne K (.ref (He.ga K n)) (.ref (He.ga K m))) (some (askedOf n m))) &&
  (eqOB (PySem.W.kitOne K (.ref (He.ga K n)) (.type "ValueError")) (some true) &&
  eqOB (PySem.W.exmOne K (.ref (He.ga K n)) (.ref (He.ga K "ShaftError"))) (some true))))))))))
def exB (K : PySem.W.Frag) : Bool := exNames.all (exOneB K) && (decide ((exNames.map (He.ga K)).Nodup) && ((exAll).all (fun m => He.Fa.ok K (He.Fa.glo m)) && He.Fa.ok K (He.Fa.free "ValueError")))
section
variable {K : PySem.W.Frag} {h : Heap} {mg : Str → Option Value}
theorem exc_all (X : K.In h) (G : h.Ns mainGlobals mg) (c : exB K = true) : ExcAll K mg (He.ga K) := by
  obtain ⟨c1, c⟩ := He.ba c
  obtain ⟨c2, c⟩ := He.ba c
  obtain ⟨c3, c4⟩ := He.ba c
  have nm : ∀ m ∈ exAll, mg m = some (.ref (He.ga K m)) := fun m hm => He.glo_ok X G (List.all_eq_true.mp c3 m hm)
  refine ⟨fun n hn => ?_, of_decide_eq_true c2, nm, He.free_ok X G c4⟩
  have d := List.all_eq_true.mp c1 n hn
  obtain ⟨d0, d⟩ := He.ba d
  obtain ⟨d1, d⟩ := He.ba d
  obtain ⟨d2, d⟩ := He.ba d
  obtain ⟨d3, d⟩ := He.ba d
  obtain ⟨d4, d⟩ := He.ba d
  obtain ⟨d5, d⟩ := He.ba d
  obtain ⟨d6, d⟩ := He.ba d
  obtain ⟨d7, d⟩ := He.ba d
  obtain ⟨d8, d⟩ := He.ba d
  obtain ⟨d9, d10⟩ := He.ba d
  obtain ⟨e1, e2, e3, e4⟩ := He.exc_ok d0
  exact ⟨⟨nm n (List.mem_append_left _ hn), e1, e2, e3, e4⟩, ⟨He.eqO_ok d1, He.eqO_ok d2, e3, d3, He.eqO_ok d4, He.eqO_ok d5, of_decide_eq_true d6, of_decide_eq_true d7⟩,
    fun m hm => of_decide_eq_true (List.all_eq_true.mp d8 m hm), of_decide_eq_true d9, of_decide_eq_true d10⟩
end
theorem inj_nodup {α β : Type} {f : α → β} : ∀ {l : List α}, (l.map f).Nodup → ∀ {a b : α}, a ∈ l → b ∈ l → f a = f b → a = b
  | [], _, _, _, h, _, _ => by simp at h
  | x :: l, hn, a, b, ha, hb, e => by
    rw [List.map_cons, List.nodup_cons] at hn
    rcases List.mem_cons.mp ha with h1 | h1
    · rcases List.mem_cons.mp hb with h2 | h2
      · rw [h1, h2]
      · exact absurd (List.mem_map.mpr ⟨b, h2, by rw [← e, h1]⟩) hn.1
    · rcases List.mem_cons.mp hb with h2 | h2
      · exact absurd (List.mem_map.mpr ⟨a, h1, by rw [e, h2]⟩) hn.1
      · exact inj_nodup hn.2 h1 h2 e
/-- the word of a class -/
def wordC (cl : Str → Addr) (C : Addr) : Option Str := (exNames.find? fun n => decide (cl n = C)).map wordOf
theorem wordC_some {cl : Str → Addr} {C : Addr} {w : Str} (h : wordC cl C = some w) : ∃ n ∈ exNames, cl n = C ∧ wordOf n = w := by
  unfold wordC at h
  obtain ⟨n, h1, h2⟩ := Option.map_eq_some_iff.mp h
  exact ⟨n, List.mem_of_find?_eq_some h1, by simpa using List.find?_some h1, h2⟩
theorem wordC_of {K : PySem.W.Frag} {mg : Str → Option Value} {cl : Str → Addr} (x : (exNames.map cl).Nodup) {n : Str} (hn : n ∈ exNames) : wordC cl (cl n) = some (wordOf n) := by
  unfold wordC
  cases e : exNames.find? fun m => decide (cl m = cl n) with
  | none => exact absurd (List.find?_eq_none.mp e n hn) (by simp)
  | some m =>
    have h1 : cl m = cl n := by simpa using List.find?_some e
    have h2 := List.mem_of_find?_eq_some e
    have : m = n := inj_nodup x h2 hn h1
    rw [this]; rfl
theorem kinds_eq : ∀ n ∈ exNames, (((exWords ++ [("own" : Str), "value"]).zip ((exNames.map (askedOf n)) ++ [true, true])).filter fun p => p.2).map (fun p => D.str p.1) = [D.str (wordOf n), .str "own", .str "value"] := by
  intro n hn
  have h : ∀ n ∈ exNames, (((exWords ++ [("own" : Str), "value"]).zip ((exNames.map (askedOf n)) ++ [true, true])).filter fun p => p.2).map (fun p => p.1) = [wordOf n, "own", "value"] := by decide +kernel
  have e := congrArg (List.map D.str) (h n hn)
  rw [List.map_map] at e
  exact e
/-- e's kinds, the word of e -/
def spKinds (w : Str) : Addr → Spec := fun a args own Q _ => args = [.d (.raw (.ref a))] ∧ own = [] ∧ Q (.d (.lst [.str w, .str "own", .str "value"])) []
theorem hotx {CX : CXT} {P : Program} {w : World} {K : PySem.W.Frag} {mg : Str → Option Value} {base : Heap} {N : List Str} {qual : Str} {scope : Scope} {f : Addr} {cd : Value} {A : Around} {outer : List Env} {s : Shared} {H : Hp} {E : XK} {p : Addr × Obj} (h : Hot1 A p) : HotX1 (cxH CX P w K mg base N qual scope f cd A outer s H E p).nox p :=
  ⟨h.1, List.mem_singleton_self _, h.2⟩
abbrev sp__law_kinds (w : Str) : Addr → Spec := spKinds w
abbrev sp__law_refusal (w : Str) : Addr → Spec := spRef w
theorem len__law_kinds {w : Str} {a : Addr} {args own Q E} (z : sp__law_kinds w a args own Q E) : args.length = 1 := by obtain ⟨rfl, _⟩ := z; rfl
theorem len__law_refusal {w : Str} {a : Addr} {args own Q E} (z : sp__law_refusal w a args own Q E) : args.length = 1 := by obtain ⟨rfl, _⟩ := z; rfl
theorem RoomH.u64 {k : Nat} {A : Around} (r : RoomH k A) : A.units + 64 < cLine := by have := r.un; omega
section
variable {P : Program} {w : World} {K : PySem.W.Frag} {mg : Str → Option Value} {base : Heap} {cl : Str → Addr}
theorem exm_of (XA : ExcAll K mg cl) : ∀ C w', wordC cl C = some w' → PySem.W.exmOne K (.ref C) (.ref (cl "ShaftError")) = some true := fun C w' h => by
  obtain ⟨n, hn, e, _⟩ := wordC_some h
  rw [← e]; exact (XA.one n hn).exm
theorem ref_of {j : Nat} {f : Str} {ps : List Str} (c : ∀ n ∈ exNames, CalE P w K mg base j f ps (cl n) (spRef (wordOf n))) : ∀ C w', wordC cl C = some w' → CalE P w K mg base j f ps C (spRef w') := fun C w' h => by
  obtain ⟨n, hn, e, e2⟩ := wordC_some h
  rw [← e, ← e2]; exact c n hn
end
/-! the same with the exception's address in sight -/
section
variable {P : Program} {w : World} {K : PySem.W.Frag} {mg : Str → Option Value} {base : Heap} {C : Addr}
theorem mkH {name : Str} {st : Stmt} {N ps : List Str} {k : Nat} {sp : Addr → Spec} {p : Addr → TPs} (h : Has K mg name st ps) (S : FnScope N ps (defScope st)) (len : ∀ a args own Q E, sp a args own Q E → args.length = ps.length)
    (hb : ∀ (a : Addr) (oe : Obj) (f : Addr) (cdv : Value) (A : Around) (outer : List Env) (s : Shared) (H : Hp), Hot1 A (a, oe) → Zc (.ref C) none oe → RoomH k (A.deeper (envOfC name (defScope st) s.heap.objs.size f cdv)) →
      PPss (cxH CX0 P w K mg base N name (defScope st) f cdv A outer s H E0 (a, oe)).nox (fun _ _ _ _ => False) (defBody st) (p a))
    (hp : ∀ a args own Q E, sp a args own Q E → p a (endsF own.length Q fun _ _ => False) ⟨startE N args, own.map some⟩) : CalE P w K mg base (k + 1) name ps C sp :=
  mkE h S len (fun f cdv A outer s H q h1 h2 hr => hb q.1 q.2 f cdv A outer s H h1 h2 hr) hp
end
section
variable {X : Cx} {e e2 : Expr} {es : List Expr} {pa : TPa} {k j : Nat} {ps : List Str} {C a : Addr} {oe : Obj} {sp : Addr → Spec} {x : Str} {pos cpos p' : Pos}
theorem pp_callH (c : CalE X.prog X.w X.K X.mg X.base j x ps C sp) (hr : RoomH k X.A) (hj : j ≤ k) (hot : Hot1 X.A (a, oe)) (hz : Zc (.ref C) none oe) (hp : (a, oe) ∈ X.pn) (hg : Gl X x) (ha : PPa X (e :: es) pa)
    (hdb : (x == ("__debug__" : Str)) = false := by decide) (he : starEach (e :: es) X.env = (false, eval e X.env) :: starEach es X.env := by rfl) (hpl : (backTo cpos (starEach es X.env)).any (·.1) = false := by rfl) : PP X (.Call (.Name x pos) (e :: es) [] cpos) (wCall (sp a) pa) :=
  pp_callE (p := (a, oe)) c hr hj hot hz hp hg ha hdb he hpl
theorem pp_isH {K : PySem.W.Frag} (hp : (a, oe) ∈ X.pn) (c : ExcC K C) (hz : Zc (.ref C) none oe) (hf : ∃ vs, oe.data = .fields vs) (T : Blt X.mg) (hg : Gl X "isinstance") (ha : PPa X [e, e2] pa) (hK : X.K = K := by rfl)
    (he : starEach [e, e2] X.env = (false, eval e X.env) :: starEach [e2] X.env := by rfl) (hpl : (backTo pos (starEach [e2] X.env)).any (·.1) = false := by rfl) : PP X (.Call (.Name "isinstance" p') [e, e2] [] pos) (wArg (fIsE a (kitV K C)) pa) := by
  subst hK
  exact pp_isE (p := (a, oe)) c hp hz hf T hg ha he hpl
end
end Bx
end

section
/-! Where an exception is handled: a tuple is unpacked into names. -/
namespace Bx
open PySem L2 PySem.Spec PyProof.Rows HotX L2H
section
variable {prog : Program} {w : World} {A : Around} {E : Value → Shared → Prop} {s : Shared}
theorem tuple_end_hot {it t x1 : Addr} {i : Nat} {items : Array Value} {Q : Option Value → Shared → Prop} (hh : A.handled = some (.ref x1)) (hx1 : HotH x1 s.heap) (hne : x1 ≠ it)
    (hit : IsTupIter s.heap it t i) (ht : IsTup s.heap t items) (hx : items[i]? = none)
    (hQ : ∀ h', Heap.ExtBut it s.heap h' → Q none { s with heap := h' }) : wpAny (model prog w) A (pyNext (.ref it)) Q E s := by
  obtain ⟨o, ho, hc, hd⟩ := id hit
  obtain ⟨ol, hol, _, nl, hdl⟩ := ht
  obtain ⟨o1, vs1, g1, d1, c1⟩ := hx1
  unfold pyNext
  refine wpAny_bind (wpAny_attempt (wpAny_callSpecial?_slot (name := Str.ofString "__next__") hit.typeIs slot_tupleiter_next
    (wpAny_call_entry slot_tupleiter_next hit.typeIs entry_tupleiter_next ?_ (args_tupleiter_next _))))
  refine (show wpAny _ _ (field (.ref it) 0 >>= _) _ _ s from wpAny_bind (wpAny_field ho hd (x := .ref t) rfl ?_))
  refine (show wpAny _ _ (if (Value.ref t == Value.none) = true then _ else _) _ _ s from ?_)
  rw [if_neg (show ¬ ((Value.ref t == Value.none) = true) from Bool.false_ne_true)]
  refine (show wpAny _ _ (field (.ref it) 1 >>= _) _ _ s from wpAny_bind (wpAny_field ho hd (x := .int i 0) rfl ?_))
  refine (show wpAny _ _ (seqItems? (.ref t) >>= _) _ _ s from wpAny_bind (wpAny_seqItems hol hdl ?_))
  simp only [Int.toNat_natCast, hx]
  refine wpAny_bind (wpAny_rule (wpAny_bind (wpAny_setField ho hd (by simp) ?_)))
  refine (show wpAny _ _ (newExc (.type "StopIteration") [] >>= _) _ _ _ from wpAny_bind ?_)
  simp only [newExc, newTuple]
  refine wpAny_bind (wpAny_newObj_type ?_ (by size_fits))
  refine wpAny_bind (m := firstArgMember _ _) (wpAny_of_eq (a := Value.none) (by first | rfl | (simp only [firstArgMember]; rfl)) (wpAny_newObj_type ?_ (by size_fits)))
  have u1 : Heap.ExtBut it s.heap (s.heap.update it (Obj.mapFields (·.setIfInBounds 0 .none))) := (Heap.SameBut.update ..).extBut
  refine raiseNew_hot ⟨hh, o1, vs1, Heap.get?_push_of_some _ (Heap.get?_push_of_some _ (u1 _ _ hne g1)), d1, c1⟩ (Nat.ne_of_lt (Heap.lt_size (Heap.get?_push_of_some _ (u1 _ _ hne g1)))) (Heap.get?_push_size _ rfl) rfl (by first | (simp; done) | (simp; omega)) ?_
  refine wpAny_bind (wpAny_isInstance (T := "StopIteration") (b := true) ⟨_, Heap.get?_update_self _ (Heap.get?_push_size _ rfl) rfl, rfl⟩ isSubtype_stop ?_)
  refine wpAny_pure (hQ _ fun b o hb e => ?_)
  have e2 := Heap.get?_push_of_some { cls := .type "tuple", data := .seq (([] : List Value).toArray) } (u1 b o hb e)
  rw [Heap.get?_update_other _ _ (Nat.ne_of_gt (Heap.lt_size e2))]
  exact Heap.get?_push_of_some _ e2
theorem unpackItems_hot {t x1 : Addr} {items : Array Value} {Q : List Value → Shared → Prop} (hh : A.handled = some (.ref x1)) (hx1 : HotH x1 s.heap) (ht : IsTup s.heap t items)
    (hQ : ∀ h', Heap.ExtBut s.heap.objs.size s.heap h' → Q items.toList { s with heap := h' }) : wpAny (model prog w) A (unpackItems (.ref t) items.size none) Q E s := by
  have hlt : t ≠ s.heap.objs.size := by obtain ⟨o, ho, _⟩ := ht; exact Nat.ne_of_lt (Heap.lt_size ho)
  have hl1 : x1 ≠ s.heap.objs.size := by obtain ⟨o, vs, ho, _⟩ := hx1; exact Nat.ne_of_lt (Heap.lt_size ho)
  unfold unpackItems
  refine wpAny_bind ?_
  unfold notIterableAtAll
  refine wpAny_bind (wpAny_specialOf ht.typeIs slot_tuple_iter.lookup ?_)
  refine wpAny_pure ?_
  simp only [Bool.false_eq_true, if_false]
  refine wpAny_bind (wpAny_holding (iter_tuple ht ?_))
  refine wpAny_bind (wpAny_holding (draw_tuple hlt items.size 0 _ _ ⟨_, Heap.get?_push_size _ rfl, rfl, rfl⟩ (ht.push _) (by omega) fun h1 hit1 hs1 => ?_))
  have hall : List.take items.size (List.drop 0 items.toList) = items.toList := by
    rw [List.drop_zero]; exact List.take_of_length_le (by simp)
  rw [hall]
  rw [if_neg (by simp)]
  have ht1 : IsTup h1 t items := (ht.push _).extBut hs1.extBut hlt
  have hx2 : HotH x1 h1 := by
    obtain ⟨o, vs, g, d, c⟩ := hx1
    exact ⟨o, vs, hs1.extBut _ _ hl1 (Heap.get?_push_of_some _ g), d, c⟩
  refine wpAny_bind (wpAny_holding (tuple_end_hot hh hx2 hl1 hit1 ht1 (by simp) fun h2 he2 => ?_))
  simp only [Option.isSome_none, Bool.false_eq_true, if_false]
  exact wpAny_pure (hQ h2 fun b o hb e => he2 b o hb (hs1.extBut b o hb (Heap.get?_push_of_some _ e)))
theorem assign_tuple_hot {env : Env} {elts : List Expr} {k : Nat} {pos : Pos} {t x1 : Addr} {items : Array Value} {Q : Unit → Shared → Prop} (hh : A.handled = some (.ref x1)) (hx1 : HotH x1 s.heap) (ht : IsTup s.heap t items)
    (hn : (assignEach elts env).length = items.size) (hstar : (assignEach elts env).findIdx? (·.1) = none)
    (h : ∀ h', Heap.ExtBut s.heap.objs.size s.heap h' → wpAny (model prog w) A (assignInOrder ((assignEach elts env).map (·.2)) items.toList) Q E { s with heap := h' }) :
    wpAny (model prog w) A (assign (.Tuple elts k pos) env (.ref t)) Q E s := by
  rw [assign_Tuple]
  refine wpAny_bind (wpAny_standAt ?_)
  unfold unpack
  rw [hn, hstar]
  exact wpAny_bind (wpAny_holding (unpackItems_hot hh hx1 ht h))
end
section
variable {X : Cx} {pos : Pos}
theorem pg_tupH0 {es : List Expr} {k : Nat} {t : TGs} {n : Nat} {x1 : Addr} (hot : HotB X x1) (h : PGs X es t)
    (hn : (assignEach es X.env).length = n := by rfl) (hst : (assignEach es X.env).findIdx? (·.1) = none := by rfl) : PG X (.Tuple es k pos) (gTup X.K n t) := by
  refine ⟨fun pins s σ H v u Q I r hw => ?_⟩
  obtain ⟨a, xs, e1, hq, hl, hw⟩ := hw
  subst e1
  cases r
  obtain ⟨its, rv, ht, hz⟩ := I.tuple hq
  have hx1 := hot.at_ pins σ H s I
  refine assign_tuple_hot hot.hh hx1 ht (by simp [hn, ← hl, rv.length]) hst fun h' hx => ?_
  have I1 : Inv X pins σ H { s with heap := h' } := I.kept (t' := s.toks) fun b o e => hx b o (Nat.ne_of_lt (Heap.lt_size e)) e
  exact h.run pins _ σ H xs _ Q I1 (by simpa using rv) hw
end
end Bx
end

section
/-! t[::-1] of a tuple. -/
namespace Bx
open PySem L2 PySem.Spec PyProof.Rows HT
section
variable {prog : Program} {w : World} {A : Around} {E : Value → Shared → Prop} {s : Shared}
theorem sliceApplied_rev {sl : Addr} {vl vu vs : Value} {n : Nat} {Q : Int × Int × Nat → Shared → Prop} (hs : s.heap.IsSliceOf sl vl vu vs) (pl : IsPart vl none) (pu : IsPart vu none) (ps : IsPart vs (some (-1)))
    (h : Q ((n : Int) - 1, -1, n) s) : wpAny (model prog w) A (Builtin.Slice.sliceApplied (.ref sl) (pure (n : Int))) Q E s := by
  obtain ⟨os, hos, hcs, hds⟩ := id hs
  unfold Builtin.Slice.sliceApplied Builtin.Slice.sliceFields
  refine wpAny_bind (wpAny_bind (wpAny_field hos hds (x := vl) rfl (wpAny_bind (wpAny_field hos hds (x := vu) rfl (wpAny_bind (wpAny_field hos hds (x := vs) rfl (wpAny_pure ?_)))))))
  refine wpAny_bind (slicePart_ ps ?_)
  show wpAny _ _ (if ((-1 : Int) == 0) = true then _ else _) _ _ s
  rw [if_neg (by decide)]
  refine wpAny_bind (slicePart_ pl (wpAny_bind (slicePart_ pu (wpAny_bind (wpAny_pure ?_)))))
  have e : Builtin.Slice.slicePlaces ((n : Int) - 1) (-1) (-1) = n := by
    unfold Builtin.Slice.slicePlaces
    rw [if_neg (by decide : ¬ ((-1 : Int) > 0)), show (- -1 : Int) = 1 by decide, Int.ediv_one]
    by_cases h : (n : Int) - 1 > -1
    · rw [if_pos h]; omega
    · rw [if_neg h]; omega
  show wpAny _ _ (pure (((n : Int) - 1), (-1 : Int), Builtin.Slice.slicePlaces ((n : Int) - 1) (-1) (-1))) _ _ s
  rw [e]
  exact wpAny_pure h
theorem pick_rev (xs : Array Value) : ((List.range xs.size).filterMap fun (m : Nat) => xs[((xs.size : Int) - 1 + (m : Int) * (-1)).toNat]?).toArray = xs.toList.reverse.toArray := by
  rw [← PySem.W.krv_pick]
  unfold slicePick
  rw [PySem.W.krv_bounds]
  show _ = ((sliceRange ((xs.size : Int) - 1) (-1) (-1)).filterMap (xs[·]?)).toArray
  rw [PySem.W.krv_sliceRange, List.filterMap_map]
  congr 2
  funext m
  show xs[((xs.size : Int) - 1 + (m : Int) * (-1)).toNat]? = xs[xs.size - 1 - m]?
  have : ((xs.size : Int) - 1 + (m : Int) * (-1)).toNat = xs.size - 1 - m := by omega
  rw [this]
theorem getItem_tuple_rev {t sl : Addr} {items : Array Value} {vl vu vs : Value} {Q : Value → Shared → Prop} (ht : IsTup s.heap t items) (hs : s.heap.IsSliceOf sl vl vu vs) (pl : IsPart vl none) (pu : IsPart vu none) (ps : IsPart vs (some (-1)))
    (h : Q (.ref s.heap.objs.size) { s with heap := s.heap.push { cls := .type "tuple", data := .seq items.toList.reverse.toArray } })
    (hsz : items.size ≤ sizeLine) : wpAny (model prog w) A (getItem (.ref t) (.ref sl)) Q E s := by
  have htake : sizeOk (.seq items.toList.reverse.toArray) := by
    show items.toList.reverse.toArray.size ≤ sizeLine
    rw [List.size_toArray, List.length_reverse, Array.length_toList]
    exact hsz
  obtain ⟨os, hos, hcs, hds⟩ := id hs
  have hTs : s.TypeIs (.ref sl) "slice" := ⟨os, hos, hcs⟩
  unfold getItem
  try with_reducible refine wpAny_holding ?_
  first | refine wpAny_bind (wpAny_pure ?_) | skip
  refine wpAny_bind (wpAny_sequenceKey ht.typeIs (by decide) ?_)
  refine wpAny_bind (wpAny_callSpecial?_slot (name := Str.ofString "__getitem__") ht.typeIs PyProof.Rows.slot_tuple_getitem
    (wpAny_call_entry PyProof.Rows.slot_tuple_getitem ht.typeIs entry_tuple_getitem ?_ (args_tuple_getitem _ _)))
  show wpAny _ _ (Builtin.Tuple.tupleItemsOf (.ref t) >>= _) _ _ s
  refine wpAny_bind (tupleItemsOf_ ht ?_)
  refine wpAny_bind (wpAny_typeOf hTs ?_)
  rw [if_pos (by decide)]
  refine wpAny_bind (sliceApplied_rev hs pl pu ps ?_)
  have hno : ¬ ((((items.size : Int) - 1) == 0 && (-1 : Int) == 1 && items.size == items.size) = true) := by
    intro q
    rw [Bool.and_eq_true, Bool.and_eq_true] at q
    exact absurd q.1.2 (by decide)
  show wpAny _ _ (if (((items.size : Int) - 1) == 0 && (-1 : Int) == 1 && items.size == items.size) = true then _ else _) _ _ s
  rw [if_neg hno, pick_rev]
  first
    | exact wpAny_bind (m := Builtin.Tuple.tupleExact _) (wpAny_newObj_type (wpAny_pure ⟨_, rfl, wpAny_pure h⟩) htake)
    | exact wpAny_bind (m := Builtin.Tuple.tupleExact _) (wpAny_newObj_type (wpAny_bind (wpAny_pure (wpAny_pure ⟨_, rfl, wpAny_pure h⟩))) htake)
    | exact wpAny_bind (wpAny_bind (m := Builtin.Tuple.tupleExact _) (wpAny_newObj_type (wpAny_pure (wpAny_pure ⟨_, rfl, wpAny_pure h⟩)) htake))
    | exact wpAny_bind (wpAny_bind (m := Builtin.Tuple.tupleExact _) (wpAny_newObj_type (wpAny_pure ⟨_, rfl, wpAny_pure h⟩) htake))
end
section
variable {X : Cx}
def tRevT (K : PySem.W.Frag) (te : TE) : TE := fun σ H Q => te σ H fun x H1 => ∃ a xs, x = .ref a ∧ SqT K H1 a xs ∧ ∀ p o, o.dict = none → H1 p = none → Q (.ref p) (upd H1 p (.frz o (.tup xs.reverse)))
theorem pe_revT {e : Expr} {te : TE} {k : Nat} {p1 p2 p3 pos : Pos} (he : PE X e te) : PE X (.Subscript e (.Slice none none (some (.UnaryOp .USub (.Constant (.int 1) k p1) p2)) p3) pos) (tRevT X.K te) := by
  refine ⟨fun pins s σ H Q I h => ?_⟩
  refine Subscript_ (thn (he.run pins s σ H _ I h) fun v s1 ⟨x, H1, I1, r1, q1⟩ => ?_)
  obtain ⟨a, xs, ex, hx, q⟩ := q1
  subst ex
  cases r1
  have hst : PO X (some (.UnaryOp .USub (.Constant (.int 1) k p1) p2)) (tPart (tUn (rU fun i => .int (-i)) (tC (.int 1)))) := po_some (pe_un un_neg pe_int)
  refine wpAny_Slice (thn (po_none.run pins s1 σ H1 (fun o H2 => o = none ∧ H2 = H1) I1 ⟨rfl, rfl⟩) fun vl s2 ⟨l, H2, I2, pl, el, e2⟩ => ?_)
  subst el e2
  refine thn (po_none.run pins s2 σ H2 (fun o H3 => o = none ∧ H3 = H2) I2 ⟨rfl, rfl⟩) fun vu s3 ⟨u, H3, I3, pu, eu, e3⟩ => ?_
  subst eu e3
  refine thn (hst.run pins s3 σ H3 (fun o H4 => o = some (-1) ∧ H4 = H3) I3 ⟨1, rfl, -1, rfl, rfl, rfl⟩) fun vs s4 ⟨o, H4, I4, ps, eo, e4⟩ => ?_
  subst eo e4
  have I5 : Inv X pins σ H4 { s4 with heap := s4.heap.push { cls := .type "slice", data := .fields #[vl, vu, vs] } } := I4.kept (t' := s4.toks) fun b ob q => Heap.get?_push_of_some _ q
  obtain ⟨its, r, ht, hz⟩ := I5.tuple hx
  have hlen := r.length
  show wpAny (model X.prog X.w) X.A (subscriptTail e (.Slice none none (some (.UnaryOp .USub (.Constant (.int 1) k p1) p2)) p3) (.ref a) (.ref s4.heap.objs.size)) (EP X pins σ Q) X.xe { s4 with heap := s4.heap.push { cls := .type "slice", data := .fields #[vl, vu, vs] } }
  refine tail_any (ops := [.ref a, .ref s4.heap.objs.size]) ht.typeIs (PyProof.Rows.slot_tuple_getitem.lookup) ?_ (by with_unfolding_all rfl)
  refine getItem_tuple_rev ht (Heap.IsSliceOf.new _ vl vu vs) pl pu ps ?_ (by rw [List.size_toArray]; omega)
  refine ⟨.ref _, _, I5.laid (t' := s4.toks) (o := .frz { cls := .type "tuple", data := .seq its.reverse.toArray } (.tup xs.reverse)) (fun b ob q => Heap.get?_push_of_some _ q) (Nat.le_refl _) ?_, rfl, q _ _ rfl (I5.hok.fresh (Nat.le_refl _))⟩
  exact ⟨Heap.get?_push_size _ rfl, by show xs.reverse.length ≤ _; rw [List.length_reverse]; exact hz, its.reverse, r.reverse, IsTup.new _ _⟩
/-- t[::-1] of a tuple -/
def wRevT (p : TP) : TP := fun s Q => p s fun c s1 => match asTup c with
  | some ds => Q (.d (.tup ds.reverse)) s1
  | none => False
theorem pp_revT {e : Expr} {p : TP} {n : Nat} {p1 p2 p3 pos : Pos} (he : PP X e p) : PP X (.Subscript e (.Slice none none (some (.UnaryOp .USub (.Constant (.int 1) n p1) p2)) p3) pos) (wRevT p) :=
  PEw (pe_revT he) fun σ H Q ⟨g, s, Qp, hd, hp, kt⟩ => ⟨g, s, _, hd, hp, fun v1 H1 c1 g1 s1 hd1 a1 r1 hb => by
    split at hb
    · rename_i ds e
      obtain ⟨a, xs, rfl, hq, hl, r⟩ := asTup_q hd1 r1 e
      exact ⟨a, xs, rfl, hq, new_t hd1 (kt.after a1) (by rw [List.length_reverse]; exact hl) r.reverse hb⟩
    · exact hb.elim⟩
end
end Bx
end

section
/-! The law k01: what its helpers tell. -/
namespace Bx
open PySem L2 PySem.Spec PyProof.Rows
/-! ### a door: what is no net is refused -/
def spDoor (n : Nat) (cl : Str → Addr) : Spec := fun args own Q E => ∃ (d : D) (m : Nat), args = .d d :: List.replicate (n - 1) (.d .non) ∧ own = [] ∧ small m d = true ∧ m ≤ 60 ∧ netD d = false ∧ E (cl "NoNet") []
theorem len_door {n : Nat} {cl args own Q E} (z : spDoor (n + 1) cl args own Q E) : args.length = n + 1 := by
  obtain ⟨d, m, rfl, _⟩ := z
  show (List.replicate n _).length + 1 = n + 1
  rw [List.length_replicate]
abbrev spXD_need_hands := spDoor 2
abbrev spXD_is_turning := spDoor 2
abbrev spXD_sum_of := spDoor 2
abbrev spXD_turned := spDoor 2
abbrev spXD_bars := spDoor 3
abbrev spXD_reason := spDoor 3
abbrev spXD_two_ways := spDoor 3
abbrev spXD_held_so := spDoor 3
abbrev spXD_fewest_held := spDoor 1
abbrev spXD_at_will := spDoor 2
abbrev spXD_parting := spDoor 3
theorem lenXD_need_hands {cl args own Q E} (z : spXD_need_hands cl args own Q E) : args.length = 2 := len_door z
theorem lenXD_is_turning {cl args own Q E} (z : spXD_is_turning cl args own Q E) : args.length = 2 := len_door z
theorem lenXD_sum_of {cl args own Q E} (z : spXD_sum_of cl args own Q E) : args.length = 2 := len_door z
theorem lenXD_turned {cl args own Q E} (z : spXD_turned cl args own Q E) : args.length = 2 := len_door z
theorem lenXD_bars {cl args own Q E} (z : spXD_bars cl args own Q E) : args.length = 3 := len_door z
theorem lenXD_reason {cl args own Q E} (z : spXD_reason cl args own Q E) : args.length = 3 := len_door z
theorem lenXD_two_ways {cl args own Q E} (z : spXD_two_ways cl args own Q E) : args.length = 3 := len_door z
theorem lenXD_held_so {cl args own Q E} (z : spXD_held_so cl args own Q E) : args.length = 3 := len_door z
theorem lenXD_fewest_held {cl args own Q E} (z : spXD_fewest_held cl args own Q E) : args.length = 1 := len_door z
theorem lenXD_at_will {cl args own Q E} (z : spXD_at_will cl args own Q E) : args.length = 2 := len_door z
theorem lenXD_parting {cl args own Q E} (z : spXD_parting cl args own Q E) : args.length = 3 := len_door z
def spX_need_net (cl : Str → Addr) : Spec := fun args own Q E => ∃ (d : D) (n : Nat), args = [.d d] ∧ own = [] ∧ small n d = true ∧ n ≤ 60 ∧ (netD d = false → E (cl "NoNet") []) ∧ (netD d = true → Q (.d .non) [])
theorem lenX_need_net {cl args own Q E} (z : spX_need_net cl args own Q E) : args.length = 1 := by obtain ⟨a, n, rfl, _⟩ := z; rfl
theorem calm_need_net {cl args own Q} {E : Addr → List D → Prop} (z : sp_need_net args own Q E) : spX_need_net cl args own Q fun _ _ => False := by
  obtain ⟨d, n, h1, h2, h3, h4, h5, k⟩ := z
  exact ⟨d, n, h1, h2, h3, h4, (fun h => by rw [h5] at h; cases h), fun _ => k⟩
/-! ### the law's helpers -/
def sp__law_is_int : Spec := fun args own Q _ => ∃ (d : D) (lo hi : Int) (n : Nat), args = [.d d, .d (.int lo), .d (.int hi)] ∧ own = [] ∧ small n d = true ∧ Q (.d (.bl (wholeD lo hi d))) []
theorem len__law_is_int {args own Q E} (z : sp__law_is_int args own Q E) : args.length = 3 := by obtain ⟨a, b, c, n, rfl, _⟩ := z; rfl
def sp__law_says : Spec := fun args own Q _ => ∃ b c : Bool, args = [.d (.bl b), .d (.bl c)] ∧ own = [] ∧ Q (.d (.bl (decide (b = c)))) []
theorem len__law_says {args own Q E} (z : sp__law_says args own Q E) : args.length = 2 := by obtain ⟨a, b, rfl, _⟩ := z; rfl
def sp__law_is_name : Spec := spD nameD
theorem len__law_is_name {args own Q E} (z : sp__law_is_name args own Q E) : args.length = 1 := len_spD z
def sp__law_is_box : Spec := fun args own Q _ => ∃ (ss : List Str) (d : D) (n : Nat), args = [.d (.tup (ss.map dS)), .d d] ∧ own = [] ∧ small n d = true ∧ n ≤ 60 ∧ (∀ s ∈ ss, nameS s = true) ∧ Q (.d (.bl (boxD ss d))) []
theorem len__law_is_box {args own Q E} (z : sp__law_is_box args own Q E) : args.length = 2 := by obtain ⟨a, b, n, rfl, _⟩ := z; rfl
def sp__law_is_net : Spec := spD netD
theorem len__law_is_net {args own Q E} (z : sp__law_is_net args own Q E) : args.length = 1 := len_spD z
def sp__law_word : Spec := fun args own Q _ => ∃ (way : Int) (d : D) (n : Nat), args = [.d (.int way), .d d] ∧ own = [] ∧ 0 ≤ way ∧ way < 10 ∧ small n d = true ∧ n ≤ 60 ∧ netD d = false ∧ Q (.d (.str "net")) []
theorem len__law_word {args own Q E} (z : sp__law_word args own Q E) : args.length = 2 := by obtain ⟨a, b, n, rfl, _⟩ := z; rfl
def sp__law_near : Spec := fun args own Q _ => ∃ (a b c : Int) (N : Net), args = [.loc 0, .d (dNet N)] ∧ own = [dWell a b c] ∧ WellOk a b c ∧ NetOk N ∧ ShOk N.shafts ∧
  ∀ ds a' b', ds.length ≤ 1000 → (∀ d ∈ ds, small 60 d = true) → WellOk a' b' c → Q (.d (.lst ds)) [dWell a' b' c]
theorem len__law_near {args own Q E} (z : sp__law_near args own Q E) : args.length = 2 := by obtain ⟨a, b, c, N, rfl, _⟩ := z; rfl
def sp_law : Spec := fun args own Q _ => ∃ xs : List Int, args = [.d (dScr xs)] ∧ own = [] ∧ xs.length ≤ 63 ∧ Q (.d (.bl true)) []
theorem len_law {args own Q E} (z : sp_law args own Q E) : args.length = 1 := by obtain ⟨_, rfl, _⟩ := z; rfl
theorem none_left {α β : Type} (p : α → Bool) (f : α → β) : ∀ l : List α, ((l.filter fun c => !p c).map f).isEmpty = l.all p
  | [] => rfl
  | a :: l => by
    rw [List.filter_cons, List.all_cons]
    cases h : p a with
    | true => simp only [Bool.not_true, Bool.false_eq_true, if_false, Bool.true_and]; exact none_left p f l
    | false => rfl
/-- a list of texts is the same, sorted, none twice, where it rises -/
theorem sorted_same {xs ys : List Str} (h1 : ys.Pairwise fun a b => ltS a b = true) (h2 : ∀ k, k ∈ ys ↔ k ∈ xs) : decide (xs = ys) = risingS xs := by
  rw [Bool.eq_iff_iff, decide_eq_true_eq]
  constructor
  · rintro rfl; exact rising_of h1
  · intro h
    refine rise_unique (List.pairwise_iff_getElem.mpr fun i j hi hj hij => ?_) h1 fun x => (h2 x).symm
    have := rising_lt h (j - i - 1) i (by omega)
    have e : i + (j - i - 1) + 1 = j := by omega
    simp only [e] at this
    exact this
theorem deqs_strs : ∀ xs ys : List Str, deqs (xs.map D.str) (ys.map D.str) = decide (xs = ys)
  | [], [] => rfl
  | [], y :: ys => rfl
  | x :: xs, [] => rfl
  | x :: xs, y :: ys => by
    simp only [List.map_cons, deqs, deq]
    rw [deqs_strs xs ys, Bool.eq_iff_iff]
    simp only [Bool.and_eq_true, beq_iff_eq, decide_eq_true_eq, List.cons.injEq]
/-! ### boxes, nets -/
def goodP (ss : List Str) (p : D) : Bool := pairD p && (inD ss (fstD p) && numD (sndD p))
def restB (ss : List Str) (ds : List D) : Bool := ds.all pairD && (ds.all (fun p => numD (sndD p)) && ofD ss (.tup (ds.map fstD)))
theorem rest_bad {ss : List Str} {ds : List D} {p : D} (hp : p ∈ ds) (h : goodP ss p = false) : restB ss ds = false := by
  cases e : restB ss ds with
  | false => rfl
  | true =>
    unfold restB ofD at e
    simp only [Bool.and_eq_true, List.all_eq_true] at e
    obtain ⟨h1, h2, h3, _⟩ := e
    unfold goodP at h
    rw [h1 p hp, h2 p hp, h3 (fstD p) (List.mem_map.mpr ⟨p, hp, rfl⟩)] at h
    cases h
theorem num_int {d : D} (h : numD d = true) : ∃ i : Int, d = .int i := by
  cases d with
  | int i => exact ⟨i, rfl⟩
  | _ => simp [numD, wholeD] at h
theorem good_pair {ss : List Str} {p : D} (h : goodP ss p = true) : ∃ q : Str × Int, p = dPair q ∧ q.1 ∈ ss := by
  unfold goodP at h
  simp only [Bool.and_eq_true] at h
  obtain ⟨h1, h2, h3⟩ := h
  obtain ⟨ps, e⟩ := pairs_eq (ds := [p]) (by simp [h1])
  cases ps with
  | nil => cases e
  | cons a r =>
    have e0 : p = .tup [a.1, a.2] := (List.cons.inj e).1
    subst e0
    obtain ⟨i, hi⟩ := num_int h3
    have hi : a.2 = .int i := hi
    have h2 : inD ss a.1 = true := h2
    cases ha : a.1 with
    | str x =>
      rw [ha] at h2
      exact ⟨(x, i), by rw [hi]; rfl, of_decide_eq_true h2⟩
    | _ => rw [ha] at h2; simp [inD] at h2
theorem rest_good {ss : List Str} : ∀ {ds : List D}, (∀ p ∈ ds, goodP ss p = true) → ∃ ps : List (Str × Int), ds = ps.map dPair ∧ (∀ q ∈ ps, q.1 ∈ ss)
  | [], _ => ⟨[], rfl, fun q h => nomatch h⟩
  | p :: ds, h => by
    obtain ⟨q, e, hq⟩ := good_pair (h p List.mem_cons_self)
    obtain ⟨ps, es, hps⟩ := rest_good (ds := ds) fun x hx => h x (List.mem_cons_of_mem _ hx)
    refine ⟨q :: ps, by rw [e, es]; rfl, fun x hx => ?_⟩
    rcases List.mem_cons.mp hx with rfl | hx
    · exact hq
    · exact hps x hx
theorem rest_rise {ss : List Str} {ps : List (Str × Int)} (h : ∀ p ∈ ps.map dPair, goodP ss p = true) : restB ss (ps.map dPair) = risingS (ps.map (·.1)) := by
  have a : ∀ p ∈ ps.map dPair, pairD p = true ∧ inD ss (fstD p) = true ∧ numD (sndD p) = true := fun p hp => by
    have := h p hp
    unfold goodP at this
    simpa only [Bool.and_eq_true] using this
  have e1 : (ps.map dPair).all pairD = true := List.all_eq_true.mpr fun p hp => (a p hp).1
  have e2 : ((ps.map dPair).all fun p => numD (sndD p)) = true := List.all_eq_true.mpr fun p hp => (a p hp).2.2
  have e3 : ((ps.map dPair).map fstD).all (inD ss) = true := by
    rw [List.all_map]
    exact List.all_eq_true.mpr fun p hp => (a p hp).2.1
  have e4 : (ps.map dPair).map fstD = (ps.map (·.1)).map dS := by rw [List.map_map, List.map_map]; rfl
  unfold restB ofD
  dsimp only
  rw [e1, e2, e3, e4]
  unfold risingD
  rw [unS_map]; rfl
theorem net_two {a b : D} : netD (.tup [a, b]) = (shaftsD a && match b with
    | .tup bs => decide (bs.length ≤ 8) && bs.all (boxD (namesD a))
    | _ => false) := by
  cases b with
  | tup bs => rfl
  | _ => exact (Bool.and_false _).symm
theorem net_not {ds : List D} (h : ds.length ≠ 2) : netD (.tup ds) = false := by
  unfold netD
  split
  · rename_i e; cases e; exact absurd rfl h
  · rfl
theorem strs_plain {xs : List Str} (h : ∀ x ∈ xs, PyData.strOk x = true) : plain 64 (.lst (xs.map D.str)) = true := by
  show plains 63 _ = true
  refine plains_all fun d hd => ?_
  obtain ⟨x, hx, rfl⟩ := List.mem_map.mp hd
  have := h x hx
  simpa [plain] using this
end Bx
end

section
namespace Bx
open PySem L2 PySem.Spec PyProof.Rows
def topS (i : Nat) : Stmt := PySem.Challenge.pw_boxshafts_k01_what_are_nets.main.body.getD i (.Pass ⟨0, 0, 0, 0⟩)
section
variable {P : Program} {w : World} {K : PySem.W.Frag} {mg : Str → Option Value} {base : Heap}
abbrev st__law_is_int : Stmt := topS 74
abbrev scN__law_is_int : List Str := ["thing", "low", "high"]
theorem sc__law_is_int : FnScope scN__law_is_int ["thing", "low", "high"] (defScope st__law_is_int) := ⟨rfl, rfl, rfl, by decide +kernel, rfl, by decide +kernel, by decide +kernel⟩
theorem ok__law_is_int (h : Has K mg "_law_is_int" st__law_is_int ["thing", "low", "high"]) (T : Blt mg) : Cal P w K mg base 1 "_law_is_int" ["thing", "low", "high"] sp__law_is_int := by
  refine mkP h sc__law_is_int (fun args own Q E z => len__law_is_int z) (fun f cdv A outer s H E hr => (pps_one (pp_ret (pp_and (pp_isiB T rfl (ppa_cons (ppv 0) (ppa_cons (pp_ty (T := "int") rfl T.int (by decide +kernel)) ppa_nil))) (pp_and (pp_not (pp_isiB T rfl (ppa_cons (ppv 0) (ppa_cons (pp_ty (T := "bool") rfl T.bool (by decide +kernel)) ppa_nil)))) (pp_and (pp_le (ppv 1) (ppv 0)) (pp_one (pp_le (ppv 0) (ppv 2))))))))) (fun args own Q E z => ?_)
  obtain ⟨d, lo, hi, n, rfl, rfl, hp, k⟩ := z
  show (wRet _) _ ⟨[some (.d d), some (.d (.int lo)), some (.d (.int hi))], []⟩
  dsimp only [wSeq, wNext, wSet, wC, wArg, wCons, wNil, wVar, wUn, wBin, wTest, wIfE, wIf, wRet, wDrop, wPar, wPar3, wAsg, wNot, wNotT, wAndT, wOrT, wAnd, wOr, wTup, wFrz, few, unD, fIsi, asData, wChain, nth, fLen, asSeq, asLst, asTup, asDct, bIx, startE, List.map, List.replicate, List.length, List.set, LcStep, lcStep, wipeE, dV, dRow, dT, dP, dN, Tg.w, Tgs.ws, lenIs, Tgs.len, fList, newO]
  rw [inst_int hp]
  dsimp only
  rw [inst_bool hp]
  cases d with
  | int i =>
    dsimp only [wholeD] at k
    dsimp only [isIntD, isBlD, Bool.or, Bool.not, wSeq, wNext, wSet, wC, wArg, wCons, wNil, wVar, wUn, wBin, wTest, wIfE, wIf, wRet, wDrop, wPar, wPar3, wAsg, wNot, wNotT, wAndT, wOrT, wAnd, wOr, wTup, wFrz, few, unD, fIsi, asData, wChain, nth, fLen, asSeq, asLst, asTup, asDct, bIx, startE, List.map, List.replicate, List.length, List.set, cEq, cNe, cEqB, cLt, cLe, cGt, cGe, bInt0, bInt, bSub, cInQ, cInB, cInS, id, Bool.not, fBools, unB]
    cases h : decide (lo ≤ i) with
    | true => rw [h] at k; exact k
    | false => rw [h] at k; exact k
  | _ => exact k
abbrev st__law_says : Stmt := topS 75
abbrev scN__law_says : List Str := ["found", "due"]
theorem sc__law_says : FnScope scN__law_says ["found", "due"] (defScope st__law_says) := ⟨rfl, rfl, rfl, by decide +kernel, rfl, by decide +kernel, by decide +kernel⟩
theorem ok__law_says (h : Has K mg "_law_says" st__law_says ["found", "due"]) (T : Blt mg) : Cal P w K mg base 1 "_law_says" ["found", "due"] sp__law_says := by
  refine mkP h sc__law_says (fun args own Q E z => len__law_says z) (fun f cdv A outer s H E hr => (pps_one (pp_ret (pp_and (pp_isiB T rfl (ppa_cons (ppv 0) (ppa_cons (pp_ty (T := "bool") rfl T.bool (by decide +kernel)) ppa_nil))) (pp_one (pp_eq hr (ppv 0) (ppv 1))))))) (fun args own Q E z => ?_)
  obtain ⟨b, c, rfl, rfl, k⟩ := z
  show (wRet _) _ ⟨[some (.d (.bl b)), some (.d (.bl c))], []⟩
  dsimp only [wSeq, wNext, wSet, wC, wArg, wCons, wNil, wVar, wUn, wBin, wTest, wIfE, wIf, wRet, wDrop, wPar, wPar3, wAsg, wNot, wNotT, wAndT, wOrT, wAnd, wOr, wTup, wFrz, few, unD, fIsi, asData, wChain, nth, fLen, asSeq, asLst, asTup, asDct, bIx, startE, List.map, List.replicate, List.length, List.set, LcStep, lcStep, wipeE, dV, dRow, dT, dP, dN, Tg.w, Tgs.ws, lenIs, Tgs.len, fList, newO]
  rw [show isInst (.bl b) "bool" = some true from rfl]
  dsimp only [wSeq, wNext, wSet, wC, wArg, wCons, wNil, wVar, wUn, wBin, wTest, wIfE, wIf, wRet, wDrop, wPar, wPar3, wAsg, wNot, wNotT, wAndT, wOrT, wAnd, wOr, wTup, wFrz, few, unD, fIsi, asData, wChain, nth, fLen, asSeq, asLst, asTup, asDct, bIx, startE, List.map, List.replicate, List.length, List.set, LcStep, lcStep, wipeE, dV, dRow, dT, dP, dN, Tg.w, Tgs.ws, lenIs, Tgs.len, fList, newO, cEq, cNe, cEqB, cLt, cLe, cGt, cGe, bInt0, bInt, bSub, cInQ, cInB, cInS, id, Bool.not, fBools, unB]
  refine ⟨⟨rfl, rfl⟩, ?_⟩
  rw [show deq (.bl b) (.bl c) = decide (b = c) by cases b <;> cases c <;> rfl]
  exact k
abbrev st__law_is_name : Stmt := topS 83
abbrev scN__law_is_name : List Str := ["thing", "sign"]
theorem sc__law_is_name : FnScope scN__law_is_name ["thing"] (defScope st__law_is_name) := ⟨rfl, rfl, rfl, by decide +kernel, rfl, by decide +kernel, by decide +kernel⟩
theorem ok__law_is_name (h : Has K mg "_law_is_name" st__law_is_name ["thing"]) (T : Blt mg) : Cal P w K mg base 1 "_law_is_name" ["thing"] sp__law_is_name := by
  refine mkP h sc__law_is_name (fun args own Q E z => len__law_is_name z) (fun f cdv A outer s H E hr => (pps_cons (pp_if (ppt_w (ppw_or (ppt_not (ppt_val (pp_isiB T rfl (ppa_cons (ppv 0) (ppa_cons (pp_ty (T := "str") rfl T.str (by decide +kernel)) ppa_nil))))) (ppw_or1 (ppt_not (ppt_chain pp_int (pp_lenB T rfl (ppa_cons (ppv 0) ppa_nil)) pp_int))))) (pps_one (pp_ret pp_bl)) pps_nil)
      (pps_one (pp_ret (pp_eqN hr (pp_lc false (.nm 1) rfl sc__law_is_name.nd (ppi_str (ppv 0)) (blkOk_by (own := [("sign", 1)]) (N := scN__law_is_name) (sc := defScope st__law_is_name) (by decide +kernel)) (by decide) (fun _ _ _ _ _ => by exact (pg_name (i := 1) sc__law_is_name.nd rfl (Or.inl rfl))) (fun _ _ _ _ _ => by exact (ppts_one (ppt_notInS (ppv 1) pp_str))) (fun _ _ _ _ _ => by exact (ppv 1))) (pp_lst false ppa_nil)))))) (fun args own Q E z => ?_)
  obtain ⟨d, n, rfl, rfl, hp, hn, k⟩ := z
  show (wSeq _ _) _ ⟨[some (.d d), none], []⟩
  dsimp only [wSeq, wNext, wSet, wC, wArg, wCons, wNil, wVar, wUn, wBin, wTest, wIfE, wIf, wRet, wDrop, wPar, wPar3, wAsg, wNot, wNotT, wAndT, wOrT, wAnd, wOr, wTup, wFrz, few, unD, fIsi, asData, wChain, nth, fLen, asSeq, asLst, asTup, asDct, bIx, startE, List.map, List.replicate, List.length, List.set, LcStep, lcStep, wipeE, dV, dRow, dT, dP, dN, Tg.w, Tgs.ws, lenIs, Tgs.len, fList, newO]
  rw [inst_str hp]
  cases d with
  | str x =>
    have hx := small_str hp
    dsimp only [isStrD, wSeq, wNext, wSet, wC, wArg, wCons, wNil, wVar, wUn, wBin, wTest, wIfE, wIf, wRet, wDrop, wPar, wPar3, wAsg, wNot, wNotT, wAndT, wOrT, wAnd, wOr, wTup, wFrz, few, unD, fIsi, asData, wChain, nth, fLen, asSeq, asLst, asTup, asDct, bIx, startE, List.map, List.replicate, List.length, List.set]
    refine ⟨by rw [PySem.sizeLine_eq]; omega, ?_⟩
    unfold spD at *
    dsimp only [nameD, nameS] at k
    by_cases h1 : 1 ≤ x.length
    · rw [decide_eq_true (by omega)]
      rw [decide_eq_true h1] at k
      dsimp only
      by_cases h2 : x.length ≤ 8
      · rw [decide_eq_true (by omega)]
        rw [decide_eq_true h2] at k
        obtain ⟨pp, hpp⟩ : ∃ pp : Nat → Bool, pp = fun c => !decide (c ∈ letters.cps.toList) := ⟨_, rfl⟩
        have nl : ((x.cps.toList.filter pp).map fun c => D.str ⟨#[c]⟩).isEmpty = x.cps.toList.all fun c => decide (c ∈ letters.cps.toList) := by
          rw [hpp]; exact none_left _ _ _
        refine wLc_filter (s0 := ⟨[some (.d (.str x)), none], []⟩) x.cps.toList (fun c => .str ⟨#[c]⟩) pp (fun c => .str ⟨#[c]⟩) (fun Q h => ⟨by rw [PySem.sizeLine_eq]; omega, h⟩) rfl ?_ ?_
        · dsimp only [wSeq, wNext, wSet, wC, wArg, wCons, wNil, wVar, wUn, wBin, wTest, wIfE, wIf, wRet, wDrop, wPar, wPar3, wAsg, wNot, wNotT, wAndT, wOrT, wAnd, wOr, wTup, wFrz, few, unD, fIsi, asData, wChain, nth, fLen, asSeq, asLst, asTup, asDct, bIx, startE, List.map, List.replicate, List.length, List.set, LcStep, lcStep, wipeE, dV, dRow, dT, dP, dN, Tg.w, Tgs.ws, lenIs, Tgs.len, fList, newO, cEq, cNe, cEqB, cLt, cLe, cGt, cGe, bInt0, bInt, bSub, cInQ, cInB, cInS, id, Bool.not, fBools, unB, wLst, newO, cNil]
          rw [nl]
          exact k
        · intro c hc A F hA hF
          rw [hpp] at hA hF
          show (match !decide (c ∈ letters.cps.toList) with | true => _ | false => _)
          cases h : decide (c ∈ letters.cps.toList) with
          | true => exact hF (by show (!decide (c ∈ letters.cps.toList)) = false; rw [h]; rfl)
          | false => exact hA (by show (!decide (c ∈ letters.cps.toList)) = true; rw [h]; rfl)
      · rw [decide_eq_false (by omega)]
        rw [decide_eq_false h2] at k
        exact k
    · rw [decide_eq_false (by omega)]
      rw [decide_eq_false h1] at k
      exact k
  | _ => exact k
end
end Bx
end

section
namespace Bx
open PySem L2 PySem.Spec PyProof.Rows
section
variable {P : Program} {w : World} {K : PySem.W.Frag} {mg : Str → Option Value} {base : Heap}
abbrev st__law_is_box : Stmt := topS 84
abbrev scN__law_is_box : List Str := ["shafts", "thing", "pair", "names"]
theorem sc__law_is_box : FnScope scN__law_is_box ["shafts", "thing"] (defScope st__law_is_box) := ⟨rfl, rfl, rfl, by decide +kernel, rfl, by decide +kernel, by decide +kernel⟩
theorem ok__law_is_box (h : Has K mg "_law_is_box" st__law_is_box ["shafts", "thing"]) (T : Blt mg) (c__law_is_int : Cal P w K mg base 1 "_law_is_int" ["thing", "low", "high"] sp__law_is_int) (c__law_is_name : Cal P w K mg base 1 "_law_is_name" ["thing"] sp__law_is_name) : Cal P w K mg base 2 "_law_is_box" ["shafts", "thing"] sp__law_is_box := by
  refine mkP h sc__law_is_box (fun args own Q E z => len__law_is_box z) (fun f cdv A outer s H E hr => (pps_cons (pp_if (ppt_w (ppw_or (ppt_not (ppt_val (pp_isiB T rfl (ppa_cons (ppv 1) (ppa_cons (pp_ty (T := "tuple") rfl T.tuple (by decide +kernel)) ppa_nil))))) (ppw_or1 (ppt_not (ppt_chain pp_int (pp_lenB T rfl (ppa_cons (ppv 1) ppa_nil)) pp_int))))) (pps_one (pp_ret pp_bl)) pps_nil)
      (pps_cons (pp_for PassesOwn.never rfl (ppi_seq (ppv 1)) (ppg_tg (.nm 2) (pg_name (i := 2) sc__law_is_box.nd rfl (Or.inl rfl))) (pps_cons (pp_if (ppt_w (ppw_or (ppt_not (ppt_val (pp_isiB T rfl (ppa_cons (ppv 2) (ppa_cons (pp_ty (T := "tuple") rfl T.tuple (by decide +kernel)) ppa_nil))))) (ppw_or (ppt_ne hr (pp_lenB T rfl (ppa_cons (ppv 2) ppa_nil)) pp_int) (ppw_or (ppt_not (ppt_val (pp_callC c__law_is_name hr (by decide) rfl (ppa_cons (pp_ixA (ppv 2) pp_int) ppa_nil)))) (ppw_or1 (ppt_notIn (pp_ixA (ppv 2) pp_int) (ppv 0))))))) (pps_one (pp_ret pp_bl)) pps_nil)
      (pps_one (pp_if (ppt_w (ppw_or (ppt_not (ppt_val (pp_callC c__law_is_int hr (by decide) rfl (ppa_cons (pp_ixA (ppv 2) pp_int) (ppa_cons (pp_neg pp_int) (ppa_cons pp_int ppa_nil)))))) (ppw_or1 (ppt_eq hr (pp_ixA (ppv 2) pp_int) pp_int)))) (pps_one (pp_ret pp_bl)) pps_nil))))
      (pps_cons (pp_setLc (i := 3) (t := (.nm 2)) false rfl sc__law_is_box.nd rfl rfl (sw_true rfl rfl rfl (by decide +kernel)) (ppi_seq (ppv 1)) (blkOk_by (own := [("pair", 2)]) (N := scN__law_is_box) (sc := defScope st__law_is_box) (by decide +kernel)) (by decide) (fun _ _ _ _ _ => by exact (pg_name (i := 2) sc__law_is_box.nd rfl (Or.inl rfl))) (fun _ _ _ _ _ => by exact ppts_nil) (fun _ _ _ _ _ => by exact (pp_ixA (ppv 2) pp_int)))
      (pps_one (pp_ret (pp_eq hr (ppv 3) (pp_sortSet false T rfl rfl rfl (ppv 3))))))))) (fun args own Q E z => ?_)
  obtain ⟨ss, d, n, rfl, rfl, hp, hn, hss, k⟩ := z
  generalize hR : (wSeq (wFor _ _ _) _ : TPs) = R
  show (wSeq _ _) _ ⟨[some (.d (.tup (ss.map dS))), some (.d d), none, none], []⟩
  dsimp only [wSeq, wNext, wSet, wC, wArg, wCons, wNil, wVar, wUn, wBin, wTest, wIfE, wIf, wRet, wDrop, wPar, wPar3, wAsg, wNot, wNotT, wAndT, wOrT, wAnd, wOr, wTup, wFrz, few, unD, fIsi, asData, wChain, nth, fLen, asSeq, asLst, asTup, asDct, bIx, startE, List.map, List.replicate, List.length, List.set, LcStep, lcStep, wipeE, dV, dRow, dT, dP, dN, Tg.w, Tgs.ws, lenIs, Tgs.len, fList, newO]
  rw [inst_tup hp]
  cases d with
  | tup ds =>
    dsimp only [isTupD, cEq, cNe, cEqB, cLt, cLe, cGt, cGe, bInt0, bInt, bSub, cInQ, cInB, cInS, id, Bool.not, fBools, unB, wSeq, wNext, wSet, wC, wArg, wCons, wNil, wVar, wUn, wBin, wTest, wIfE, wIf, wRet, wDrop, wPar, wPar3, wAsg, wNot, wNotT, wAndT, wOrT, wAnd, wOr, wTup, wFrz, few, unD, fIsi, asData, wChain, nth, fLen, asSeq, asLst, asTup, asDct, bIx, startE, List.map, List.replicate, List.length, List.set]
    obtain ⟨m, rfl, hl, hs⟩ := small_tup hp
    rw [show boxD ss (.tup ds) = ((decide (ds.length = 2) || decide (ds.length = 3)) && restB ss ds) from rfl] at k
    by_cases h2 : 2 ≤ ds.length
    · rw [decide_eq_true (show (2 : Int) ≤ (ds.length : Nat) by omega)]
      dsimp only [wSeq, wNext, wSet, wC, wArg, wCons, wNil, wVar, wUn, wBin, wTest, wIfE, wIf, wRet, wDrop, wPar, wPar3, wAsg, wNot, wNotT, wAndT, wOrT, wAnd, wOr, wTup, wFrz, few, unD, fIsi, asData, wChain, nth, fLen, asSeq, asLst, asTup, asDct, bIx, startE, List.map, List.replicate, List.length, List.set, LcStep, lcStep, wipeE, dV, dRow, dT, dP, dN, Tg.w, Tgs.ws, lenIs, Tgs.len, fList, newO, cEq, cNe, cEqB, cLt, cLe, cGt, cGe, bInt0, bInt, bSub, cInQ, cInB, cInS, id, Bool.not, fBools, unB]
      by_cases h3 : ds.length ≤ 3
      · rw [decide_eq_true (show ((ds.length : Nat) : Int) ≤ 3 by omega)]
        dsimp only [wSeq, wNext, wSet, wC, wArg, wCons, wNil, wVar, wUn, wBin, wTest, wIfE, wIf, wRet, wDrop, wPar, wPar3, wAsg, wNot, wNotT, wAndT, wOrT, wAnd, wOr, wTup, wFrz, few, unD, fIsi, asData, wChain, nth, fLen, asSeq, asLst, asTup, asDct, bIx, startE, List.map, List.replicate, List.length, List.set, LcStep, lcStep, wipeE, dV, dRow, dT, dP, dN, Tg.w, Tgs.ws, lenIs, Tgs.len, fList, newO, cEq, cNe, cEqB, cLt, cLe, cGt, cGe, bInt0, bInt, bSub, cInQ, cInB, cInS, id, Bool.not, fBools, unB]
        rw [show (decide (ds.length = 2) || decide (ds.length = 3)) = true by rw [Bool.or_eq_true, decide_eq_true_eq, decide_eq_true_eq]; omega, Bool.true_and] at k
        have kbad : ∀ p ∈ ds, goodP ss p = false → Q (.d (.bl false)) [] := fun p hp hb => by
          rw [rest_bad hp hb] at k
          exact k
        subst hR
        dsimp only [wSeq, wNext, wSet, wC, wArg, wCons, wNil, wVar, wUn, wBin, wTest, wIfE, wIf, wRet, wDrop, wPar, wPar3, wAsg, wNot, wNotT, wAndT, wOrT, wAnd, wOr, wTup, wFrz, few, unD, fIsi, asData, wChain, nth, fLen, asSeq, asLst, asTup, asDct, bIx, startE, List.map, List.replicate, List.length, List.set, LcStep, lcStep, wipeE, dV, dRow, dT, dP, dN, Tg.w, Tgs.ws, lenIs, Tgs.len, fList, newO]
        refine wFor_inv (items := ds) (s0 := ⟨[some (.d (.tup (ss.map dS))), some (.d (.tup ds)), none, none], []⟩) ds id
          (fun i s => ∃ e2 : Option Val, s = ⟨[some (.d (.tup (ss.map dS))), some (.d (.tup ds)), e2, none], []⟩ ∧ ∀ p ∈ ds.take i, goodP ss p = true) (fun Q z => z) (List.map_id _).symm ⟨_, rfl, fun p hp => by simp at hp⟩ ?_ ?_
        · rintro s ⟨e2, rfl, hg⟩
          rw [List.take_length] at hg
          obtain ⟨ps, rfl, hps⟩ := rest_good hg
          rw [rest_rise hg] at k
          rw [List.length_map] at h3 h2
          have ok : ∀ x ∈ ps.map (·.1), PyData.strOk x = true := fun x hx => by
            obtain ⟨q, hq, rfl⟩ := List.mem_map.mp hx
            obtain ⟨j, rfl, _, h1⟩ := small_tup (hs (dPair q) (List.mem_map_of_mem hq))
            have := h1 (.str q.1) (by simp)
            simp [small] at this
            exact this.2
          dsimp only [wSeq, wNext, wSet, wC, wArg, wCons, wNil, wVar, wUn, wBin, wTest, wIfE, wIf, wRet, wDrop, wPar, wPar3, wAsg, wNot, wNotT, wAndT, wOrT, wAnd, wOr, wTup, wFrz, few, unD, fIsi, asData, wChain, nth, fLen, asSeq, asLst, asTup, asDct, bIx, startE, List.map, List.replicate, List.length, List.set, LcStep, lcStep, wipeE, dV, dRow, dT, dP, dN, Tg.w, Tgs.ws, lenIs, Tgs.len, fList, newO]
          refine wLc_map (items := ps.map dPair) (s0 := ⟨[some (.d (.tup (ss.map dS))), some (.d (.tup (ps.map dPair))), e2, none], []⟩) ps dPair (fun q => .str q.1) (fun R z => z) rfl ?_ ?_
          · dsimp only [wSeq, wNext, wSet, wC, wArg, wCons, wNil, wVar, wUn, wBin, wTest, wIfE, wIf, wRet, wDrop, wPar, wPar3, wAsg, wNot, wNotT, wAndT, wOrT, wAnd, wOr, wTup, wFrz, few, unD, fIsi, asData, wChain, nth, fLen, asSeq, asLst, asTup, asDct, bIx, startE, List.map, List.replicate, List.length, List.set, LcStep, lcStep, wipeE, dV, dRow, dT, dP, dN, Tg.w, Tgs.ws, lenIs, Tgs.len, fList, newO, newO, wSortSet]
            have em : (ps.map fun q => D.str q.1) = (ps.map (·.1)).map dS := by rw [List.map_map]; rfl
            rw [em, unS_map]
            dsimp only
            refine ⟨by rw [List.length_map]; omega, fun ys y1 y2 => ?_⟩
            dsimp only [wSeq, wNext, wSet, wC, wArg, wCons, wNil, wVar, wUn, wBin, wTest, wIfE, wIf, wRet, wDrop, wPar, wPar3, wAsg, wNot, wNotT, wAndT, wOrT, wAnd, wOr, wTup, wFrz, few, unD, fIsi, asData, wChain, nth, fLen, asSeq, asLst, asTup, asDct, bIx, startE, List.map, List.replicate, List.length, List.set, LcStep, lcStep, wipeE, dV, dRow, dT, dP, dN, Tg.w, Tgs.ws, lenIs, Tgs.len, fList, newO, newO, cEq, cNe, cEqB, cLt, cLe, cGt, cGe, bInt0, bInt, bSub, cInQ, cInB, cInS, id, Bool.not, fBools, unB]
            refine ⟨⟨strs_plain ok, strs_plain fun x hx => ok x ((y2 x).mp hx)⟩, ?_⟩
            rw [show deq (.lst ((ps.map (·.1)).map dS)) (.lst (ys.map D.str)) = deqs ((ps.map (·.1)).map D.str) (ys.map D.str) from rfl, deqs_strs, sorted_same y1 y2]
            exact k
          · intro q hq A F hA
            exact hA
        · rintro i p s hx ⟨e2, rfl, hg⟩
          have hpm := List.mem_of_getElem? hx
          have kb := kbad p hpm
          have next : ∀ (e2 : Option Val), goodP ss p = true → ∃ e2' : Option Val, (⟨[some (.d (.tup (ss.map dS))), some (.d (.tup ds)), e2, none], []⟩ : S) = ⟨[some (.d (.tup (ss.map dS))), some (.d (.tup ds)), e2', none], []⟩ ∧ ∀ p ∈ ds.take (i + 1), goodP ss p = true := fun e2 hgp => by
            refine ⟨e2, rfl, fun q hq => ?_⟩
            rw [List.take_succ, hx] at hq
            rcases List.mem_append.mp hq with h | h
            · exact hg q h
            · have : q = p := by simpa using h
              rw [this]; exact hgp
          dsimp only [wSeq, wNext, wSet, wC, wArg, wCons, wNil, wVar, wUn, wBin, wTest, wIfE, wIf, wRet, wDrop, wPar, wPar3, wAsg, wNot, wNotT, wAndT, wOrT, wAnd, wOr, wTup, wFrz, few, unD, fIsi, asData, wChain, nth, fLen, asSeq, asLst, asTup, asDct, bIx, startE, List.map, List.replicate, List.length, List.set, LcStep, lcStep, wipeE, dV, dRow, dT, dP, dN, Tg.w, Tgs.ws, lenIs, Tgs.len, fList, newO, id]
          rw [inst_tup (hs p hpm)]
          cases p with
          | tup es =>
            dsimp only [isTupD, cEq, cNe, cEqB, cLt, cLe, cGt, cGe, bInt0, bInt, bSub, cInQ, cInB, cInS, id, Bool.not, fBools, unB, wSeq, wNext, wSet, wC, wArg, wCons, wNil, wVar, wUn, wBin, wTest, wIfE, wIf, wRet, wDrop, wPar, wPar3, wAsg, wNot, wNotT, wAndT, wOrT, wAnd, wOr, wTup, wFrz, few, unD, fIsi, asData, wChain, nth, fLen, asSeq, asLst, asTup, asDct, bIx, startE, List.map, List.replicate, List.length, List.set]
            obtain ⟨j, rfl, hl2, hs2⟩ := small_tup (hs _ hpm)
            by_cases he : es.length = 2
            · rw [decide_eq_true (show ((es.length : Nat) : Int) = 2 by omega)]
              obtain ⟨a, b, rfl⟩ := len_two he
              have g0 : getI [a, b] 0 = some a := rfl
              have g1 : getI [a, b] 1 = some b := rfl
              have sa := hs2 a (by simp)
              have sb := hs2 b (by simp)
              dsimp only [wSeq, wNext, wSet, wC, wArg, wCons, wNil, wVar, wUn, wBin, wTest, wIfE, wIf, wRet, wDrop, wPar, wPar3, wAsg, wNot, wNotT, wAndT, wOrT, wAnd, wOr, wTup, wFrz, few, unD, fIsi, asData, wChain, nth, fLen, asSeq, asLst, asTup, asDct, bIx, startE, List.map, List.replicate, List.length, List.set, LcStep, lcStep, wipeE, dV, dRow, dT, dP, dN, Tg.w, Tgs.ws, lenIs, Tgs.len, fList, newO, cEq, cNe, cEqB, cLt, cLe, cGt, cGe, bInt0, bInt, bSub, cInQ, cInB, cInS, id, Bool.not, fBools, unB, wCall]
              rw [g0]
              refine ⟨a, j, rfl, rfl, sa, by omega, ?_⟩
              dsimp only [wSeq, wNext, wSet, wC, wArg, wCons, wNil, wVar, wUn, wBin, wTest, wIfE, wIf, wRet, wDrop, wPar, wPar3, wAsg, wNot, wNotT, wAndT, wOrT, wAnd, wOr, wTup, wFrz, few, unD, fIsi, asData, wChain, nth, fLen, asSeq, asLst, asTup, asDct, bIx, startE, List.map, List.replicate, List.length, List.set, LcStep, lcStep, wipeE, dV, dRow, dT, dP, dN, Tg.w, Tgs.ws, lenIs, Tgs.len, fList, newO, cEq, cNe, cEqB, cLt, cLe, cGt, cGe, bInt0, bInt, bSub, cInQ, cInB, cInS, id, Bool.not, fBools, unB, backW, putA]
              cases hna : nameD a with
              | false =>
                refine kb ?_
                have : inD ss a = false := by
                  cases a with
                  | str x =>
                    refine decide_eq_false fun hx => ?_
                    have := hss x hx
                    rw [show nameD (.str x) = nameS x from rfl, this] at hna
                    cases hna
                  | _ => rfl
                show (_ && (inD ss a && _)) = false
                rw [this, Bool.false_and, Bool.and_false]
              | true =>
                obtain ⟨x, rfl⟩ : ∃ x, a = .str x := by
                  cases a with
                  | str x => exact ⟨x, rfl⟩
                  | _ => simp [nameD] at hna
                dsimp only [wSeq, wNext, wSet, wC, wArg, wCons, wNil, wVar, wUn, wBin, wTest, wIfE, wIf, wRet, wDrop, wPar, wPar3, wAsg, wNot, wNotT, wAndT, wOrT, wAnd, wOr, wTup, wFrz, few, unD, fIsi, asData, wChain, nth, fLen, asSeq, asLst, asTup, asDct, bIx, startE, List.map, List.replicate, List.length, List.set, LcStep, lcStep, wipeE, dV, dRow, dT, dP, dN, Tg.w, Tgs.ws, lenIs, Tgs.len, fList, newO, cEq, cNe, cEqB, cLt, cLe, cGt, cGe, bInt0, bInt, bSub, cInQ, cInB, cInS, id, Bool.not, fBools, unB]
                rw [show getI [D.str x, b] 0 = some (.str x) from rfl]
                dsimp only [wSeq, wNext, wSet, wC, wArg, wCons, wNil, wVar, wUn, wBin, wTest, wIfE, wIf, wRet, wDrop, wPar, wPar3, wAsg, wNot, wNotT, wAndT, wOrT, wAnd, wOr, wTup, wFrz, few, unD, fIsi, asData, wChain, nth, fLen, asSeq, asLst, asTup, asDct, bIx, startE, List.map, List.replicate, List.length, List.set, LcStep, lcStep, wipeE, dV, dRow, dT, dP, dN, Tg.w, Tgs.ws, lenIs, Tgs.len, fList, newO, cEq, cNe, cEqB, cLt, cLe, cGt, cGe, bInt0, bInt, bSub, cInQ, cInB, cInS, id, Bool.not, fBools, unB, cInB]
                rw [memS_map]
                by_cases hx2 : x ∈ ss
                · rw [decide_eq_true hx2]
                  dsimp only [wSeq, wNext, wSet, wC, wArg, wCons, wNil, wVar, wUn, wBin, wTest, wIfE, wIf, wRet, wDrop, wPar, wPar3, wAsg, wNot, wNotT, wAndT, wOrT, wAnd, wOr, wTup, wFrz, few, unD, fIsi, asData, wChain, nth, fLen, asSeq, asLst, asTup, asDct, bIx, startE, List.map, List.replicate, List.length, List.set, LcStep, lcStep, wipeE, dV, dRow, dT, dP, dN, Tg.w, Tgs.ws, lenIs, Tgs.len, fList, newO, cEq, cNe, cEqB, cLt, cLe, cGt, cGe, bInt0, bInt, bSub, cInQ, cInB, cInS, id, Bool.not, fBools, unB, wCall]
                  rw [show getI [D.str x, b] 1 = some b from rfl]
                  dsimp only [wSeq, wNext, wSet, wC, wArg, wCons, wNil, wVar, wUn, wBin, wTest, wIfE, wIf, wRet, wDrop, wPar, wPar3, wAsg, wNot, wNotT, wAndT, wOrT, wAnd, wOr, wTup, wFrz, few, unD, fIsi, asData, wChain, nth, fLen, asSeq, asLst, asTup, asDct, bIx, startE, List.map, List.replicate, List.length, List.set, LcStep, lcStep, wipeE, dV, dRow, dT, dP, dN, Tg.w, Tgs.ws, lenIs, Tgs.len, fList, newO, cEq, cNe, cEqB, cLt, cLe, cGt, cGe, bInt0, bInt, bSub, cInQ, cInB, cInS, id, Bool.not, fBools, unB, wCall, uNeg]
                  refine ⟨b, -20, 20, j, rfl, rfl, sb, ?_⟩
                  dsimp only [wSeq, wNext, wSet, wC, wArg, wCons, wNil, wVar, wUn, wBin, wTest, wIfE, wIf, wRet, wDrop, wPar, wPar3, wAsg, wNot, wNotT, wAndT, wOrT, wAnd, wOr, wTup, wFrz, few, unD, fIsi, asData, wChain, nth, fLen, asSeq, asLst, asTup, asDct, bIx, startE, List.map, List.replicate, List.length, List.set, LcStep, lcStep, wipeE, dV, dRow, dT, dP, dN, Tg.w, Tgs.ws, lenIs, Tgs.len, fList, newO, cEq, cNe, cEqB, cLt, cLe, cGt, cGe, bInt0, bInt, bSub, cInQ, cInB, cInS, id, Bool.not, fBools, unB, backW, putA]
                  cases hw : wholeD (-20) 20 b with
                  | false =>
                    refine kb ?_
                    have : numD b = false := by unfold numD; rw [hw]; rfl
                    show (_ && (_ && numD b)) = false
                    rw [this, Bool.and_false, Bool.and_false]
                  | true =>
                    obtain ⟨z, rfl⟩ : ∃ z, b = .int z := by
                      cases b with
                      | int z => exact ⟨z, rfl⟩
                      | _ => simp [wholeD] at hw
                    dsimp only [wSeq, wNext, wSet, wC, wArg, wCons, wNil, wVar, wUn, wBin, wTest, wIfE, wIf, wRet, wDrop, wPar, wPar3, wAsg, wNot, wNotT, wAndT, wOrT, wAnd, wOr, wTup, wFrz, few, unD, fIsi, asData, wChain, nth, fLen, asSeq, asLst, asTup, asDct, bIx, startE, List.map, List.replicate, List.length, List.set, LcStep, lcStep, wipeE, dV, dRow, dT, dP, dN, Tg.w, Tgs.ws, lenIs, Tgs.len, fList, newO, cEq, cNe, cEqB, cLt, cLe, cGt, cGe, bInt0, bInt, bSub, cInQ, cInB, cInS, id, Bool.not, fBools, unB]
                    rw [show getI [D.str x, .int z] 1 = some (.int z) from rfl]
                    dsimp only [wSeq, wNext, wSet, wC, wArg, wCons, wNil, wVar, wUn, wBin, wTest, wIfE, wIf, wRet, wDrop, wPar, wPar3, wAsg, wNot, wNotT, wAndT, wOrT, wAnd, wOr, wTup, wFrz, few, unD, fIsi, asData, wChain, nth, fLen, asSeq, asLst, asTup, asDct, bIx, startE, List.map, List.replicate, List.length, List.set, LcStep, lcStep, wipeE, dV, dRow, dT, dP, dN, Tg.w, Tgs.ws, lenIs, Tgs.len, fList, newO, cEq, cNe, cEqB, cLt, cLe, cGt, cGe, bInt0, bInt, bSub, cInQ, cInB, cInS, id, Bool.not, fBools, unB]
                    have en : numD (.int z) = !decide (z = 0) := by
                      unfold numD
                      rw [hw, Bool.true_and]; rfl
                    by_cases hz : z = 0
                    · rw [decide_eq_true hz]
                      refine kb ?_
                      show (_ && (_ && numD (.int z))) = false
                      rw [en, decide_eq_true hz]
                      exact (by rw [Bool.not_true, Bool.and_false, Bool.and_false])
                    · rw [decide_eq_false hz]
                      refine next _ ?_
                      show (true && (decide (x ∈ ss) && numD (.int z))) = true
                      rw [en, decide_eq_true hx2, decide_eq_false hz]; rfl
                · rw [decide_eq_false hx2]
                  refine kb ?_
                  show (_ && (decide (x ∈ ss) && _)) = false
                  rw [decide_eq_false hx2, Bool.false_and, Bool.and_false]
            · rw [decide_eq_false (show ¬ ((es.length : Nat) : Int) = 2 by omega)]
              refine kb ?_
              have : pairD (.tup es) = false := by
                rw [pairD_len]
                show (true && decide (es.length = 2)) = false
                rw [decide_eq_false he]; rfl
              show (pairD (.tup es) && _) = false
              rw [this]; rfl
          | _ => exact kb rfl
      · rw [decide_eq_false (show ¬ ((ds.length : Nat) : Int) ≤ 3 by omega)]
        rw [show (decide (ds.length = 2) || decide (ds.length = 3)) = false by rw [Bool.or_eq_false_iff, decide_eq_false_iff_not, decide_eq_false_iff_not]; omega, Bool.false_and] at k
        exact k
    · rw [decide_eq_false (show ¬ (2 : Int) ≤ (ds.length : Nat) by omega)]
      rw [show (decide (ds.length = 2) || decide (ds.length = 3)) = false by rw [Bool.or_eq_false_iff, decide_eq_false_iff_not, decide_eq_false_iff_not]; omega, Bool.false_and] at k
      exact k
  | _ => exact k
end
end Bx
end

section
namespace Bx
open PySem L2 PySem.Spec PyProof.Rows
section
variable {P : Program} {w : World} {K : PySem.W.Frag} {mg : Str → Option Value} {base : Heap}
abbrev st__law_is_net : Stmt := topS 85
abbrev scN__law_is_net : List Str := ["thing", "name", "box"]
theorem sc__law_is_net : FnScope scN__law_is_net ["thing"] (defScope st__law_is_net) := ⟨rfl, rfl, rfl, by decide +kernel, rfl, by decide +kernel, by decide +kernel⟩
theorem ok__law_is_net (h : Has K mg "_law_is_net" st__law_is_net ["thing"]) (T : Blt mg) (c__law_is_box : Cal P w K mg base 2 "_law_is_box" ["shafts", "thing"] sp__law_is_box) (c__law_is_name : Cal P w K mg base 1 "_law_is_name" ["thing"] sp__law_is_name) : Cal P w K mg base 3 "_law_is_net" ["thing"] sp__law_is_net := by
  refine mkP h sc__law_is_net (fun args own Q E z => len__law_is_net z) (fun f cdv A outer s H E hr => (pps_cons (pp_if (ppt_w (ppw_or (ppt_not (ppt_val (pp_isiB T rfl (ppa_cons (ppv 0) (ppa_cons (pp_ty (T := "tuple") rfl T.tuple (by decide +kernel)) ppa_nil))))) (ppw_or1 (ppt_ne hr (pp_lenB T rfl (ppa_cons (ppv 0) ppa_nil)) pp_int)))) (pps_one (pp_ret pp_bl)) pps_nil)
      (pps_cons (pp_if (ppt_w (ppw_or (ppt_not (ppt_val (pp_isiB T rfl (ppa_cons (pp_ixA (ppv 0) pp_int) (ppa_cons (pp_ty (T := "tuple") rfl T.tuple (by decide +kernel)) ppa_nil))))) (ppw_or1 (ppt_not (ppt_chain pp_int (pp_lenB T rfl (ppa_cons (pp_ixA (ppv 0) pp_int) ppa_nil)) pp_int))))) (pps_one (pp_ret pp_bl)) pps_nil)
      (pps_cons (pp_if (ppt_w (ppw_or (ppt_neN hr (pp_lc false (.nm 1) rfl sc__law_is_net.nd (ppi_seq (pp_ixA (ppv 0) pp_int)) (blkOk_by (own := [("name", 1)]) (N := scN__law_is_net) (sc := defScope st__law_is_net) (by decide +kernel)) (by decide) (fun _ _ _ _ _ => by exact (pg_name (i := 1) sc__law_is_net.nd rfl (Or.inl rfl))) (fun _ _ _ _ _ => by exact (ppts_one (ppt_not (ppt_val (pp_callC c__law_is_name hr (by decide) rfl (ppa_cons (ppv 1) ppa_nil)))))) (fun _ _ _ _ _ => by exact (ppv 1))) (pp_lst false ppa_nil)) (ppw_or1 (ppt_ne hr (pp_listB false T rfl (ppa_cons (pp_ixA (ppv 0) pp_int) ppa_nil)) (pp_sortSet false T rfl rfl rfl (pp_ixA (ppv 0) pp_int)))))) (pps_one (pp_ret pp_bl)) pps_nil)
      (pps_cons (pp_if (ppt_w (ppw_or (ppt_not (ppt_val (pp_isiB T rfl (ppa_cons (pp_ixA (ppv 0) pp_int) (ppa_cons (pp_ty (T := "tuple") rfl T.tuple (by decide +kernel)) ppa_nil))))) (ppw_or1 (ppt_gt (pp_lenB T rfl (ppa_cons (pp_ixA (ppv 0) pp_int) ppa_nil)) pp_int)))) (pps_one (pp_ret pp_bl)) pps_nil)
      (pps_one (pp_ret (pp_eqN hr (pp_lc false (.nm 2) rfl sc__law_is_net.nd (ppi_seq (pp_ixA (ppv 0) pp_int)) (blkOk_by (own := [("box", 2)]) (N := scN__law_is_net) (sc := defScope st__law_is_net) (by decide +kernel)) (by decide) (fun _ _ _ _ _ => by exact (pg_name (i := 2) sc__law_is_net.nd rfl (Or.inl rfl))) (fun _ _ _ _ _ => by exact (ppts_one (ppt_not (ppt_val (pp_callC c__law_is_box hr (by decide) rfl (ppa_cons (pp_ixA (ppv 0) pp_int) (ppa_cons (ppv 2) ppa_nil))))))) (fun _ _ _ _ _ => by exact (ppv 2))) (pp_lst false ppa_nil))))))))) (fun args own Q E z => ?_)
  obtain ⟨d, n, rfl, rfl, hp, hn, k⟩ := z
  generalize hR : (wSeq (wIf _ _ _) (wSeq (wIf _ _ _) (wSeq (wIf _ _ _) (wRet _))) : TPs) = R
  show (wSeq _ _) _ ⟨[some (.d d), none, none], []⟩
  dsimp only [wSeq, wNext, wSet, wC, wArg, wCons, wNil, wVar, wUn, wBin, wTest, wIfE, wIf, wRet, wDrop, wPar, wPar3, wAsg, wNot, wNotT, wAndT, wOrT, wAnd, wOr, wTup, wFrz, few, unD, fIsi, asData, wChain, nth, fLen, asSeq, asLst, asTup, asDct, bIx, startE, List.map, List.replicate, List.length, List.set, LcStep, lcStep, wipeE, dV, dRow, dT, dP, dN, Tg.w, Tgs.ws, lenIs, Tgs.len, fList, newO]
  rw [inst_tup hp]
  cases d with
  | tup ds =>
    dsimp only [isTupD, cEq, cNe, cEqB, cLt, cLe, cGt, cGe, bInt0, bInt, bSub, cInQ, cInB, cInS, id, Bool.not, fBools, unB, wSeq, wNext, wSet, wC, wArg, wCons, wNil, wVar, wUn, wBin, wTest, wIfE, wIf, wRet, wDrop, wPar, wPar3, wAsg, wNot, wNotT, wAndT, wOrT, wAnd, wOr, wTup, wFrz, few, unD, fIsi, asData, wChain, nth, fLen, asSeq, asLst, asTup, asDct, bIx, startE, List.map, List.replicate, List.length, List.set]
    obtain ⟨m, rfl, hl, hs⟩ := small_tup hp
    by_cases h2 : ds.length = 2
    · rw [decide_eq_true (show ((ds.length : Nat) : Int) = 2 by omega)]
      obtain ⟨a, b, rfl⟩ := len_two h2
      have g0 : getI [a, b] 0 = some a := rfl
      have g1 : getI [a, b] 1 = some b := rfl
      have sa := hs a (by simp)
      have sb := hs b (by simp)
      rw [net_two] at k
      subst hR
      dsimp only [wSeq, wNext, wSet, wC, wArg, wCons, wNil, wVar, wUn, wBin, wTest, wIfE, wIf, wRet, wDrop, wPar, wPar3, wAsg, wNot, wNotT, wAndT, wOrT, wAnd, wOr, wTup, wFrz, few, unD, fIsi, asData, wChain, nth, fLen, asSeq, asLst, asTup, asDct, bIx, startE, List.map, List.replicate, List.length, List.set, LcStep, lcStep, wipeE, dV, dRow, dT, dP, dN, Tg.w, Tgs.ws, lenIs, Tgs.len, fList, newO, cEq, cNe, cEqB, cLt, cLe, cGt, cGe, bInt0, bInt, bSub, cInQ, cInB, cInS, id, Bool.not, fBools, unB]
      rw [g0]
      dsimp only [wSeq, wNext, wSet, wC, wArg, wCons, wNil, wVar, wUn, wBin, wTest, wIfE, wIf, wRet, wDrop, wPar, wPar3, wAsg, wNot, wNotT, wAndT, wOrT, wAnd, wOr, wTup, wFrz, few, unD, fIsi, asData, wChain, nth, fLen, asSeq, asLst, asTup, asDct, bIx, startE, List.map, List.replicate, List.length, List.set, LcStep, lcStep, wipeE, dV, dRow, dT, dP, dN, Tg.w, Tgs.ws, lenIs, Tgs.len, fList, newO, cEq, cNe, cEqB, cLt, cLe, cGt, cGe, bInt0, bInt, bSub, cInQ, cInB, cInS, id, Bool.not, fBools, unB]
      rw [inst_tup sa]
      cases a with
      | tup as =>
        obtain ⟨j, rfl, hla, hsa⟩ := small_tup sa
        dsimp only [isTupD, cEq, cNe, cEqB, cLt, cLe, cGt, cGe, bInt0, bInt, bSub, cInQ, cInB, cInS, id, Bool.not, fBools, unB, wSeq, wNext, wSet, wC, wArg, wCons, wNil, wVar, wUn, wBin, wTest, wIfE, wIf, wRet, wDrop, wPar, wPar3, wAsg, wNot, wNotT, wAndT, wOrT, wAnd, wOr, wTup, wFrz, few, unD, fIsi, asData, wChain, nth, fLen, asSeq, asLst, asTup, asDct, bIx, startE, List.map, List.replicate, List.length, List.set]
        rw [show shaftsD (.tup as) = ((decide (1 ≤ as.length) && decide (as.length ≤ 8)) && (as.all nameD && risingD as)) from rfl] at k
        try rw [show getI [D.tup as, b] 0 = some (.tup as) from rfl]
        try dsimp only [wSeq, wNext, wSet, wC, wArg, wCons, wNil, wVar, wUn, wBin, wTest, wIfE, wIf, wRet, wDrop, wPar, wPar3, wAsg, wNot, wNotT, wAndT, wOrT, wAnd, wOr, wTup, wFrz, few, unD, fIsi, asData, wChain, nth, fLen, asSeq, asLst, asTup, asDct, bIx, startE, List.map, List.replicate, List.length, List.set, LcStep, lcStep, wipeE, dV, dRow, dT, dP, dN, Tg.w, Tgs.ws, lenIs, Tgs.len, fList, newO, cEq, cNe, cEqB, cLt, cLe, cGt, cGe, bInt0, bInt, bSub, cInQ, cInB, cInS, id, Bool.not, fBools, unB]
        by_cases l1 : 1 ≤ as.length
        · rw [decide_eq_true (show (1 : Int) ≤ (as.length : Nat) by omega)]
          rw [decide_eq_true l1] at k
          dsimp only [wSeq, wNext, wSet, wC, wArg, wCons, wNil, wVar, wUn, wBin, wTest, wIfE, wIf, wRet, wDrop, wPar, wPar3, wAsg, wNot, wNotT, wAndT, wOrT, wAnd, wOr, wTup, wFrz, few, unD, fIsi, asData, wChain, nth, fLen, asSeq, asLst, asTup, asDct, bIx, startE, List.map, List.replicate, List.length, List.set, LcStep, lcStep, wipeE, dV, dRow, dT, dP, dN, Tg.w, Tgs.ws, lenIs, Tgs.len, fList, newO, cEq, cNe, cEqB, cLt, cLe, cGt, cGe, bInt0, bInt, bSub, cInQ, cInB, cInS, id, Bool.not, fBools, unB]
          by_cases l8 : as.length ≤ 8
          · rw [decide_eq_true (show ((as.length : Nat) : Int) ≤ 8 by omega)]
            rw [decide_eq_true l8] at k
            dsimp only [wSeq, wNext, wSet, wC, wArg, wCons, wNil, wVar, wUn, wBin, wTest, wIfE, wIf, wRet, wDrop, wPar, wPar3, wAsg, wNot, wNotT, wAndT, wOrT, wAnd, wOr, wTup, wFrz, few, unD, fIsi, asData, wChain, nth, fLen, asSeq, asLst, asTup, asDct, bIx, startE, List.map, List.replicate, List.length, List.set, LcStep, lcStep, wipeE, dV, dRow, dT, dP, dN, Tg.w, Tgs.ws, lenIs, Tgs.len, fList, newO, cEq, cNe, cEqB, cLt, cLe, cGt, cGe, bInt0, bInt, bSub, cInQ, cInB, cInS, id, Bool.not, fBools, unB]
            obtain ⟨pp, hpp⟩ : ∃ pp : D → Bool, pp = fun c => !nameD c := ⟨_, rfl⟩
            have nl : ((as.filter pp).map fun c => c).isEmpty = as.all nameD := by
              rw [hpp]; exact none_left nameD _ _
            refine wLc_filter (items := as) (s0 := ⟨[some (.d (.tup [.tup as, b])), none, none], []⟩) as (fun d => d) pp (fun d => d) (fun Q h => ?_) (by simp) ?_ ?_
            · dsimp only [wSeq, wNext, wSet, wC, wArg, wCons, wNil, wVar, wUn, wBin, wTest, wIfE, wIf, wRet, wDrop, wPar, wPar3, wAsg, wNot, wNotT, wAndT, wOrT, wAnd, wOr, wTup, wFrz, few, unD, fIsi, asData, wChain, nth, fLen, asSeq, asLst, asTup, asDct, bIx, startE, List.map, List.replicate, List.length, List.set, LcStep, lcStep, wipeE, dV, dRow, dT, dP, dN, Tg.w, Tgs.ws, lenIs, Tgs.len, fList, newO, cEq, cNe, cEqB, cLt, cLe, cGt, cGe, bInt0, bInt, bSub, cInQ, cInB, cInS, id, Bool.not, fBools, unB, wSeqI]
              rw [show getI [D.tup as, b] 0 = some (.tup as) from rfl]
              exact h
            · dsimp only [wSeq, wNext, wSet, wC, wArg, wCons, wNil, wVar, wUn, wBin, wTest, wIfE, wIf, wRet, wDrop, wPar, wPar3, wAsg, wNot, wNotT, wAndT, wOrT, wAnd, wOr, wTup, wFrz, few, unD, fIsi, asData, wChain, nth, fLen, asSeq, asLst, asTup, asDct, bIx, startE, List.map, List.replicate, List.length, List.set, LcStep, lcStep, wipeE, dV, dRow, dT, dP, dN, Tg.w, Tgs.ws, lenIs, Tgs.len, fList, newO, cEq, cNe, cEqB, cLt, cLe, cGt, cGe, bInt0, bInt, bSub, cInQ, cInB, cInS, id, Bool.not, fBools, unB, wLst, newO, cNil]
              rw [nl]
              cases hal : as.all nameD with
              | false => rw [hal] at k; exact k
              | true =>
                rw [hal] at k
                obtain ⟨xs, hx⟩ := names_un hal
                have exs := unS_eq hx
                subst exs
                have hnm : ∀ x ∈ xs, nameS x = true := fun x hx => List.all_eq_true.mp hal (dS x) (List.mem_map_of_mem hx)
                rw [List.length_map] at l8 l1
                have ok : ∀ x ∈ xs, PyData.strOk x = true := fun x hx => by
                  have := hsa (dS x) (List.mem_map_of_mem hx)
                  simp [small, dS] at this
                  exact this.2
                rw [show risingD (xs.map dS) = risingS xs by unfold risingD; rw [unS_map]] at k
                dsimp only [wSeq, wNext, wSet, wC, wArg, wCons, wNil, wVar, wUn, wBin, wTest, wIfE, wIf, wRet, wDrop, wPar, wPar3, wAsg, wNot, wNotT, wAndT, wOrT, wAnd, wOr, wTup, wFrz, few, unD, fIsi, asData, wChain, nth, fLen, asSeq, asLst, asTup, asDct, bIx, startE, List.map, List.replicate, List.length, List.set, LcStep, lcStep, wipeE, dV, dRow, dT, dP, dN, Tg.w, Tgs.ws, lenIs, Tgs.len, fList, newO, cEq, cNe, cEqB, cLt, cLe, cGt, cGe, bInt0, bInt, bSub, cInQ, cInB, cInS, id, Bool.not, fBools, unB]
                rw [show getI [D.tup (xs.map dS), b] 0 = some (.tup (xs.map dS)) from rfl]
                dsimp only [wSeq, wNext, wSet, wC, wArg, wCons, wNil, wVar, wUn, wBin, wTest, wIfE, wIf, wRet, wDrop, wPar, wPar3, wAsg, wNot, wNotT, wAndT, wOrT, wAnd, wOr, wTup, wFrz, few, unD, fIsi, asData, wChain, nth, fLen, asSeq, asLst, asTup, asDct, bIx, startE, List.map, List.replicate, List.length, List.set, LcStep, lcStep, wipeE, dV, dRow, dT, dP, dN, Tg.w, Tgs.ws, lenIs, Tgs.len, fList, newO, cEq, cNe, cEqB, cLt, cLe, cGt, cGe, bInt0, bInt, bSub, cInQ, cInB, cInS, id, Bool.not, fBools, unB, wSortSet]
                try rw [show getI [D.tup (xs.map dS), b] 0 = some (.tup (xs.map dS)) from rfl]
                try dsimp only [wSeq, wNext, wSet, wC, wArg, wCons, wNil, wVar, wUn, wBin, wTest, wIfE, wIf, wRet, wDrop, wPar, wPar3, wAsg, wNot, wNotT, wAndT, wOrT, wAnd, wOr, wTup, wFrz, few, unD, fIsi, asData, wChain, nth, fLen, asSeq, asLst, asTup, asDct, bIx, startE, List.map, List.replicate, List.length, List.set, LcStep, lcStep, wipeE, dV, dRow, dT, dP, dN, Tg.w, Tgs.ws, lenIs, Tgs.len, fList, newO, cEq, cNe, cEqB, cLt, cLe, cGt, cGe, bInt0, bInt, bSub, cInQ, cInB, cInS, id, Bool.not, fBools, unB, wSortSet]
                rw [unS_map]
                dsimp only
                refine ⟨by omega, fun ys y1 y2 => ?_⟩
                try dsimp only [wSeq, wNext, wSet, wC, wArg, wCons, wNil, wVar, wUn, wBin, wTest, wIfE, wIf, wRet, wDrop, wPar, wPar3, wAsg, wNot, wNotT, wAndT, wOrT, wAnd, wOr, wTup, wFrz, few, unD, fIsi, asData, wChain, nth, fLen, asSeq, asLst, asTup, asDct, bIx, startE, List.map, List.replicate, List.length, List.set, LcStep, lcStep, wipeE, dV, dRow, dT, dP, dN, Tg.w, Tgs.ws, lenIs, Tgs.len, fList, newO, newO, cEq, cNe, cEqB, cLt, cLe, cGt, cGe, bInt0, bInt, bSub, cInQ, cInB, cInS, id, Bool.not, fBools, unB]
                refine ⟨⟨strs_plain ok, strs_plain fun x hx => ok x ((y2 x).mp hx)⟩, ?_⟩
                rw [show deq (.lst (xs.map dS)) (.lst (ys.map D.str)) = deqs (xs.map D.str) (ys.map D.str) from rfl, deqs_strs, sorted_same y1 y2]
                cases hr : risingS xs with
                | false => rw [hr] at k; exact k
                | true =>
                  rw [hr] at k
                  dsimp only [wSeq, wNext, wSet, wC, wArg, wCons, wNil, wVar, wUn, wBin, wTest, wIfE, wIf, wRet, wDrop, wPar, wPar3, wAsg, wNot, wNotT, wAndT, wOrT, wAnd, wOr, wTup, wFrz, few, unD, fIsi, asData, wChain, nth, fLen, asSeq, asLst, asTup, asDct, bIx, startE, List.map, List.replicate, List.length, List.set, LcStep, lcStep, wipeE, dV, dRow, dT, dP, dN, Tg.w, Tgs.ws, lenIs, Tgs.len, fList, newO, cEq, cNe, cEqB, cLt, cLe, cGt, cGe, bInt0, bInt, bSub, cInQ, cInB, cInS, id, Bool.not, fBools, unB]
                  rw [show getI [D.tup (xs.map dS), b] 1 = some b from rfl]
                  dsimp only [wSeq, wNext, wSet, wC, wArg, wCons, wNil, wVar, wUn, wBin, wTest, wIfE, wIf, wRet, wDrop, wPar, wPar3, wAsg, wNot, wNotT, wAndT, wOrT, wAnd, wOr, wTup, wFrz, few, unD, fIsi, asData, wChain, nth, fLen, asSeq, asLst, asTup, asDct, bIx, startE, List.map, List.replicate, List.length, List.set, LcStep, lcStep, wipeE, dV, dRow, dT, dP, dN, Tg.w, Tgs.ws, lenIs, Tgs.len, fList, newO, cEq, cNe, cEqB, cLt, cLe, cGt, cGe, bInt0, bInt, bSub, cInQ, cInB, cInS, id, Bool.not, fBools, unB]
                  rw [inst_tup sb]
                  cases b with
                  | tup bs =>
                    obtain ⟨i, e, hlb, hsb⟩ := small_tup sb
                    dsimp only [isTupD, cEq, cNe, cEqB, cLt, cLe, cGt, cGe, bInt0, bInt, bSub, cInQ, cInB, cInS, id, Bool.not, fBools, unB, wSeq, wNext, wSet, wC, wArg, wCons, wNil, wVar, wUn, wBin, wTest, wIfE, wIf, wRet, wDrop, wPar, wPar3, wAsg, wNot, wNotT, wAndT, wOrT, wAnd, wOr, wTup, wFrz, few, unD, fIsi, asData, wChain, nth, fLen, asSeq, asLst, asTup, asDct, bIx, startE, List.map, List.replicate, List.length, List.set]
                    try rw [show getI [D.tup (xs.map dS), .tup bs] 1 = some (.tup bs) from rfl]
                    try dsimp only [wSeq, wNext, wSet, wC, wArg, wCons, wNil, wVar, wUn, wBin, wTest, wIfE, wIf, wRet, wDrop, wPar, wPar3, wAsg, wNot, wNotT, wAndT, wOrT, wAnd, wOr, wTup, wFrz, few, unD, fIsi, asData, wChain, nth, fLen, asSeq, asLst, asTup, asDct, bIx, startE, List.map, List.replicate, List.length, List.set, LcStep, lcStep, wipeE, dV, dRow, dT, dP, dN, Tg.w, Tgs.ws, lenIs, Tgs.len, fList, newO, cEq, cNe, cEqB, cLt, cLe, cGt, cGe, bInt0, bInt, bSub, cInQ, cInB, cInS, id, Bool.not, fBools, unB]
                    by_cases b8 : bs.length ≤ 8
                    · rw [decide_eq_false (show ¬ (8 : Int) < (bs.length : Nat) by omega)]
                      dsimp only at k
                      rw [decide_eq_true b8] at k
                      dsimp only [wSeq, wNext, wSet, wC, wArg, wCons, wNil, wVar, wUn, wBin, wTest, wIfE, wIf, wRet, wDrop, wPar, wPar3, wAsg, wNot, wNotT, wAndT, wOrT, wAnd, wOr, wTup, wFrz, few, unD, fIsi, asData, wChain, nth, fLen, asSeq, asLst, asTup, asDct, bIx, startE, List.map, List.replicate, List.length, List.set, LcStep, lcStep, wipeE, dV, dRow, dT, dP, dN, Tg.w, Tgs.ws, lenIs, Tgs.len, fList, newO, cEq, cNe, cEqB, cLt, cLe, cGt, cGe, bInt0, bInt, bSub, cInQ, cInB, cInS, id, Bool.not, fBools, unB]
                      have en : namesD (.tup (xs.map dS)) = xs := by
                        show (unS (xs.map dS)).getD [] = xs
                        rw [unS_map]; rfl
                      rw [en] at k
                      obtain ⟨pb, hpb⟩ : ∃ pb : D → Bool, pb = fun c => !boxD xs c := ⟨_, rfl⟩
                      have nb : ((bs.filter pb).map fun c => c).isEmpty = bs.all (boxD xs) := by
                        rw [hpb]; exact none_left (boxD xs) _ _
                      refine wLc_filter (items := bs) (s0 := ⟨[some (.d (.tup [.tup (xs.map dS), .tup bs])), none, none], []⟩) bs (fun d => d) pb (fun d => d) (fun Q h => ?_) (by simp) ?_ ?_
                      · dsimp only [wSeq, wNext, wSet, wC, wArg, wCons, wNil, wVar, wUn, wBin, wTest, wIfE, wIf, wRet, wDrop, wPar, wPar3, wAsg, wNot, wNotT, wAndT, wOrT, wAnd, wOr, wTup, wFrz, few, unD, fIsi, asData, wChain, nth, fLen, asSeq, asLst, asTup, asDct, bIx, startE, List.map, List.replicate, List.length, List.set, LcStep, lcStep, wipeE, dV, dRow, dT, dP, dN, Tg.w, Tgs.ws, lenIs, Tgs.len, fList, newO, cEq, cNe, cEqB, cLt, cLe, cGt, cGe, bInt0, bInt, bSub, cInQ, cInB, cInS, id, Bool.not, fBools, unB, wSeqI]
                        rw [show getI [D.tup (xs.map dS), .tup bs] 1 = some (.tup bs) from rfl]
                        exact h
                      · dsimp only [wSeq, wNext, wSet, wC, wArg, wCons, wNil, wVar, wUn, wBin, wTest, wIfE, wIf, wRet, wDrop, wPar, wPar3, wAsg, wNot, wNotT, wAndT, wOrT, wAnd, wOr, wTup, wFrz, few, unD, fIsi, asData, wChain, nth, fLen, asSeq, asLst, asTup, asDct, bIx, startE, List.map, List.replicate, List.length, List.set, LcStep, lcStep, wipeE, dV, dRow, dT, dP, dN, Tg.w, Tgs.ws, lenIs, Tgs.len, fList, newO, cEq, cNe, cEqB, cLt, cLe, cGt, cGe, bInt0, bInt, bSub, cInQ, cInB, cInS, id, Bool.not, fBools, unB, wLst, newO, cNil]
                        rw [nb]
                        exact k
                      · intro d hd A F hA hF
                        rw [hpb] at hA hF
                        dsimp only [wSeq, wNext, wSet, wC, wArg, wCons, wNil, wVar, wUn, wBin, wTest, wIfE, wIf, wRet, wDrop, wPar, wPar3, wAsg, wNot, wNotT, wAndT, wOrT, wAnd, wOr, wTup, wFrz, few, unD, fIsi, asData, wChain, nth, fLen, asSeq, asLst, asTup, asDct, bIx, startE, List.map, List.replicate, List.length, List.set, LcStep, lcStep, wipeE, dV, dRow, dT, dP, dN, Tg.w, Tgs.ws, lenIs, Tgs.len, fList, newO, cEq, cNe, cEqB, cLt, cLe, cGt, cGe, bInt0, bInt, bSub, cInQ, cInB, cInS, id, Bool.not, fBools, unB, wCall]
                        rw [show getI [D.tup (xs.map dS), .tup bs] 0 = some (.tup (xs.map dS)) from rfl]
                        refine ⟨xs, d, i, rfl, rfl, hsb d hd, by omega, hnm, ?_⟩
                        dsimp only [wSeq, wNext, wSet, wC, wArg, wCons, wNil, wVar, wUn, wBin, wTest, wIfE, wIf, wRet, wDrop, wPar, wPar3, wAsg, wNot, wNotT, wAndT, wOrT, wAnd, wOr, wTup, wFrz, few, unD, fIsi, asData, wChain, nth, fLen, asSeq, asLst, asTup, asDct, bIx, startE, List.map, List.replicate, List.length, List.set, LcStep, lcStep, wipeE, dV, dRow, dT, dP, dN, Tg.w, Tgs.ws, lenIs, Tgs.len, fList, newO, cEq, cNe, cEqB, cLt, cLe, cGt, cGe, bInt0, bInt, bSub, cInQ, cInB, cInS, id, Bool.not, fBools, unB, backW, putA]
                        cases h : boxD xs d with
                        | true => exact hF (by show (!boxD xs d) = false; rw [h]; rfl)
                        | false => exact hA (by show (!boxD xs d) = true; rw [h]; rfl)
                    · rw [decide_eq_true (show (8 : Int) < (bs.length : Nat) by omega)]
                      dsimp only at k
                      rw [decide_eq_false b8] at k
                      exact k
                  | _ => exact k
            · intro d hd A F hA hF
              rw [hpp] at hA hF
              dsimp only [wSeq, wNext, wSet, wC, wArg, wCons, wNil, wVar, wUn, wBin, wTest, wIfE, wIf, wRet, wDrop, wPar, wPar3, wAsg, wNot, wNotT, wAndT, wOrT, wAnd, wOr, wTup, wFrz, few, unD, fIsi, asData, wChain, nth, fLen, asSeq, asLst, asTup, asDct, bIx, startE, List.map, List.replicate, List.length, List.set, LcStep, lcStep, wipeE, dV, dRow, dT, dP, dN, Tg.w, Tgs.ws, lenIs, Tgs.len, fList, newO, cEq, cNe, cEqB, cLt, cLe, cGt, cGe, bInt0, bInt, bSub, cInQ, cInB, cInS, id, Bool.not, fBools, unB, wCall]
              refine ⟨d, j, rfl, rfl, hsa d hd, by omega, ?_⟩
              dsimp only [wSeq, wNext, wSet, wC, wArg, wCons, wNil, wVar, wUn, wBin, wTest, wIfE, wIf, wRet, wDrop, wPar, wPar3, wAsg, wNot, wNotT, wAndT, wOrT, wAnd, wOr, wTup, wFrz, few, unD, fIsi, asData, wChain, nth, fLen, asSeq, asLst, asTup, asDct, bIx, startE, List.map, List.replicate, List.length, List.set, LcStep, lcStep, wipeE, dV, dRow, dT, dP, dN, Tg.w, Tgs.ws, lenIs, Tgs.len, fList, newO, cEq, cNe, cEqB, cLt, cLe, cGt, cGe, bInt0, bInt, bSub, cInQ, cInB, cInS, id, Bool.not, fBools, unB, backW, putA]
              cases h : nameD d with
              | true => exact hF (by show (!nameD d) = false; rw [h]; rfl)
              | false => exact hA (by show (!nameD d) = true; rw [h]; rfl)
          · rw [decide_eq_false (show ¬ ((as.length : Nat) : Int) ≤ 8 by omega)]
            rw [decide_eq_false l8] at k
            exact k
        · rw [decide_eq_false (show ¬ (1 : Int) ≤ (as.length : Nat) by omega)]
          rw [decide_eq_false l1] at k
          exact k
      | _ => exact k
    · rw [decide_eq_false (show ¬ ((ds.length : Nat) : Int) = 2 by omega)]
      rw [net_not h2] at k
      exact k
  | _ => exact k
end
end Bx
end

section
namespace Bx
open PySem L2 PySem.Spec PyProof.Rows
section
variable {P : Program} {w : World} {K : PySem.W.Frag} {mg : Str → Option Value} {base : Heap}
abbrev st_is_whole : Stmt := topS 23
abbrev scN_is_whole : List Str := ["thing", "low", "high"]
theorem sc_is_whole : FnScope scN_is_whole ["thing", "low", "high"] (defScope st_is_whole) := ⟨rfl, rfl, rfl, by decide +kernel, rfl, by decide +kernel, by decide +kernel⟩
theorem ok_is_whole (h : Has K mg "is_whole" st_is_whole ["thing", "low", "high"]) (T : Blt mg) : Cal P w K mg base 1 "is_whole" ["thing", "low", "high"] sp_is_whole := by
  refine mkP h sc_is_whole (fun args own Q E z => len_is_whole z) (fun f cdv A outer s H E hr => (pps_one (pp_ret (pp_and (pp_isiB T rfl (ppa_cons (ppv 0) (ppa_cons (pp_ty (T := "int") rfl T.int (by decide +kernel)) ppa_nil))) (pp_and (pp_not (pp_isiB T rfl (ppa_cons (ppv 0) (ppa_cons (pp_ty (T := "bool") rfl T.bool (by decide +kernel)) ppa_nil)))) (pp_one (pp_chain (ppv 1) (ppv 0) (ppv 2)))))))) (fun args own Q E z => ?_)
  obtain ⟨d, lo, hi, n, rfl, rfl, hp, k⟩ := z
  show (wRet _) _ ⟨[some (.d d), some (.d (.int lo)), some (.d (.int hi))], []⟩
  dsimp only [wSeq, wNext, wSet, wC, wArg, wCons, wNil, wVar, wUn, wBin, wTest, wIfE, wIf, wRet, wDrop, wPar, wPar3, wAsg, wNot, wNotT, wAndT, wOrT, wAnd, wOr, wTup, wFrz, few, unD, fIsi, asData, wChain, nth, fLen, asSeq, asLst, asTup, asDct, bIx, startE, List.map, List.replicate, List.length, List.set, LcStep, lcStep, wipeE, dV, dRow, dT, dP, dN, Tg.w, Tgs.ws, lenIs, Tgs.len, fList, newO]
  rw [inst_int hp]
  dsimp only
  rw [inst_bool hp]
  cases d with
  | int i =>
    dsimp only [wholeD] at k
    dsimp only [isIntD, isBlD, Bool.or, Bool.not]
    cases h : decide (lo ≤ i) with
    | true => rw [h] at k; exact k
    | false => rw [h] at k; exact k
  | _ => exact k
abbrev st_is_name : Stmt := topS 35
abbrev scN_is_name : List Str := ["thing", "sign"]
theorem sc_is_name : FnScope scN_is_name ["thing"] (defScope st_is_name) := ⟨rfl, rfl, rfl, by decide +kernel, rfl, by decide +kernel, by decide +kernel⟩
theorem ok_is_name (h : Has K mg "is_name" st_is_name ["thing"]) (T : Blt mg) (g_LETTERS : GlobD K mg "LETTERS" gl_LETTERS) : Cal P w K mg base 1 "is_name" ["thing"] sp_is_name := by
  refine mkP h sc_is_name (fun args own Q E z => len_is_name z) (fun f cdv A outer s H E hr => (pps_one (pp_ret (pp_and (pp_isiB T rfl (ppa_cons (ppv 0) (ppa_cons (pp_ty (T := "str") rfl T.str (by decide +kernel)) ppa_nil))) (pp_and (pp_chain pp_int (pp_lenB T rfl (ppa_cons (ppv 0) ppa_nil)) pp_int) (pp_one (pp_allB T rfl rfl (ppa_cons (pp_lc false (.nm 1) rfl sc_is_name.nd (ppi_str (ppv 0)) (blkOk_by (own := [("sign", 1)]) (N := scN_is_name) (sc := defScope st_is_name) (by decide +kernel)) (by decide) (fun _ _ _ _ _ => by exact (pg_name (i := 1) sc_is_name.nd rfl (Or.inl rfl))) (fun _ _ _ _ _ => by exact ppts_nil) (fun _ _ _ _ _ => by exact (pp_inS (ppv 1) (pp_glob g_LETTERS rfl)))) ppa_nil)))))))) (fun args own Q E z => ?_)
  obtain ⟨d, n, rfl, rfl, hp, hn, k⟩ := z
  show (wRet _) _ ⟨[some (.d d), none], []⟩
  dsimp only [wSeq, wNext, wSet, wC, wArg, wCons, wNil, wVar, wUn, wBin, wTest, wIfE, wIf, wRet, wDrop, wPar, wPar3, wAsg, wNot, wNotT, wAndT, wOrT, wAnd, wOr, wTup, wFrz, few, unD, fIsi, asData, wChain, nth, fLen, asSeq, asLst, asTup, asDct, bIx, startE, List.map, List.replicate, List.length, List.set, LcStep, lcStep, wipeE, dV, dRow, dT, dP, dN, Tg.w, Tgs.ws, lenIs, Tgs.len, fList, newO]
  rw [inst_str hp]
  cases d with
  | str x =>
    have hx := small_str hp
    dsimp only [isStrD, wSeq, wNext, wSet, wC, wArg, wCons, wNil, wVar, wUn, wBin, wTest, wIfE, wIf, wRet, wDrop, wPar, wPar3, wAsg, wNot, wNotT, wAndT, wOrT, wAnd, wOr, wTup, wFrz, few, unD, fIsi, asData, wChain, nth, fLen, asSeq, asLst, asTup, asDct, bIx, startE, List.map, List.replicate, List.length, List.set]
    refine ⟨by rw [PySem.sizeLine_eq]; omega, ?_⟩
    unfold spD at *
    dsimp only [nameD, nameS] at k
    by_cases h1 : 1 ≤ x.length
    · rw [decide_eq_true (by omega)]
      rw [decide_eq_true h1] at k
      dsimp only
      by_cases h2 : x.length ≤ 8
      · rw [decide_eq_true (by omega)]
        rw [decide_eq_true h2] at k
        dsimp only [wSeq, wNext, wSet, wC, wArg, wCons, wNil, wVar, wUn, wBin, wTest, wIfE, wIf, wRet, wDrop, wPar, wPar3, wAsg, wNot, wNotT, wAndT, wOrT, wAnd, wOr, wTup, wFrz, few, unD, fIsi, asData, wChain, nth, fLen, asSeq, asLst, asTup, asDct, bIx, startE, List.map, List.replicate, List.length, List.set, LcStep, lcStep, wipeE, dV, dRow, dT, dP, dN, Tg.w, Tgs.ws, lenIs, Tgs.len, fList, newO]
        refine wLc_map x.cps.toList (fun c => .str ⟨#[c]⟩) (fun c => .bl (decide (c ∈ letters.cps.toList))) (fun Q h => ⟨by rw [PySem.sizeLine_eq]; omega, h⟩) rfl ?_ ?_
        · dsimp only [wSeq, wNext, wSet, wC, wArg, wCons, wNil, wVar, wUn, wBin, wTest, wIfE, wIf, wRet, wDrop, wPar, wPar3, wAsg, wNot, wNotT, wAndT, wOrT, wAnd, wOr, wTup, wFrz, few, unD, fIsi, asData, wChain, nth, fLen, asSeq, asLst, asTup, asDct, bIx, startE, List.map, List.replicate, List.length, List.set, LcStep, lcStep, wipeE, dV, dRow, dT, dP, dN, Tg.w, Tgs.ws, lenIs, Tgs.len, fList, newO, cEq, cNe, cEqB, cLt, cLe, cGt, cGe, bInt0, bInt, bSub, cInQ, cInB, cInS, id, Bool.not, fBools, unB]
          rw [unB_of]
          dsimp only
          rw [allB_map]
          exact k
        · intro c hc A F hA
          exact hA
      · rw [decide_eq_false (by omega)]
        rw [decide_eq_false h2] at k
        exact k
    · rw [decide_eq_false (by omega)]
      rw [decide_eq_false h1] at k
      exact k
  | _ => exact k
abbrev st_are_rising : Stmt := topS 36
abbrev scN_are_rising : List Str := ["thing", "k"]
theorem sc_are_rising : FnScope scN_are_rising ["thing"] (defScope st_are_rising) := ⟨rfl, rfl, rfl, by decide +kernel, rfl, by decide +kernel, by decide +kernel⟩
theorem ok_are_rising (h : Has K mg "are_rising" st_are_rising ["thing"]) (T : Blt mg) : Cal P w K mg base 1 "are_rising" ["thing"] sp_are_rising := by
  refine mkP h sc_are_rising (fun args own Q E z => len_are_rising z) (fun f cdv A outer s H E hr => (pps_one (pp_ret (pp_allB T rfl rfl (ppa_cons (pp_lc false (.nm 1) rfl sc_are_rising.nd (ppi_rng1 rfl T.range (ppa_cons (pp_sub (pp_lenB T rfl (ppa_cons (ppv 0) ppa_nil)) pp_int) ppa_nil)) (blkOk_by (own := [("k", 1)]) (N := scN_are_rising) (sc := defScope st_are_rising) (by decide +kernel)) (by decide) (fun _ _ _ _ _ => by exact (pg_name (i := 1) sc_are_rising.nd rfl (Or.inl rfl))) (fun _ _ _ _ _ => by exact ppts_nil) (fun _ _ _ _ _ => by exact (pp_lt (pp_ixA (ppv 0) (ppv 1)) (pp_ixA (ppv 0) (pp_add false (ppv 1) pp_int))))) ppa_nil))))) (fun args own Q E z => ?_)
  obtain ⟨xs, rfl, rfl, hl, k⟩ := z
  show (wRet _) _ ⟨[some (.d (.tup (xs.map dS))), none], []⟩
  dsimp only [wSeq, wNext, wSet, wC, wArg, wCons, wNil, wVar, wUn, wBin, wTest, wIfE, wIf, wRet, wDrop, wPar, wPar3, wAsg, wNot, wNotT, wAndT, wOrT, wAnd, wOr, wTup, wFrz, few, unD, fIsi, asData, wChain, nth, fLen, asSeq, asLst, asTup, asDct, bIx, startE, List.map, List.replicate, List.length, List.set, LcStep, lcStep, wipeE, dV, dRow, dT, dP, dN, Tg.w, Tgs.ws, lenIs, Tgs.len, fList, newO, cEq, cNe, cEqB, cLt, cLe, cGt, cGe, bInt0, bInt, bSub, cInQ, cInB, cInS, id, Bool.not, fBools, unB]
  refine wLc_map (s0 := ⟨[some (.d (.tup (xs.map dS))), none], []⟩) (items := intsD 0 (xs.length - 1)) (List.range (xs.length - 1)) dN (fun k => .bl (ltS (xs.getD k default) (xs.getD (k + 1) default))) (fun Q h => ⟨by unfold RngOk; rw [List.length_map]; omega, by rw [List.length_map, show (((xs.length : Nat) : Int) - 1).toNat = xs.length - 1 by omega]; exact h⟩) (intsD_map _) ?_ ?_
  · dsimp only [wSeq, wNext, wSet, wC, wArg, wCons, wNil, wVar, wUn, wBin, wTest, wIfE, wIf, wRet, wDrop, wPar, wPar3, wAsg, wNot, wNotT, wAndT, wOrT, wAnd, wOr, wTup, wFrz, few, unD, fIsi, asData, wChain, nth, fLen, asSeq, asLst, asTup, asDct, bIx, startE, List.map, List.replicate, List.length, List.set, LcStep, lcStep, wipeE, dV, dRow, dT, dP, dN, Tg.w, Tgs.ws, lenIs, Tgs.len, fList, newO, cEq, cNe, cEqB, cLt, cLe, cGt, cGe, bInt0, bInt, bSub, cInQ, cInB, cInS, id, Bool.not, fBools, unB]
    rw [unB_of]
    dsimp only
    rw [allB_map]
    exact k
  · intro i hi A F hA
    have hi : i < xs.length - 1 := by simpa using hi
    have e0 : xs[i]? = some (xs.getD i default) := by simp [List.getD, List.getElem?_eq_getElem (show i < xs.length by omega)]
    have e1 : xs[i + 1]? = some (xs.getD (i + 1) default) := by simp [List.getD, List.getElem?_eq_getElem (show i + 1 < xs.length by omega)]
    dsimp only [wSeq, wNext, wSet, wC, wArg, wCons, wNil, wVar, wUn, wBin, wTest, wIfE, wIf, wRet, wDrop, wPar, wPar3, wAsg, wNot, wNotT, wAndT, wOrT, wAnd, wOr, wTup, wFrz, few, unD, fIsi, asData, wChain, nth, fLen, asSeq, asLst, asTup, asDct, bIx, startE, List.map, List.replicate, List.length, List.set, LcStep, lcStep, wipeE, dV, dRow, dT, dP, dN, Tg.w, Tgs.ws, lenIs, Tgs.len, fList, newO, cEq, cNe, cEqB, cLt, cLe, cGt, cGe, bInt0, bInt, bSub, cInQ, cInB, cInS, id, Bool.not, fBools, unB, bAdd]
    rw [getI_nat, List.getElem?_map, e0]
    dsimp only [Option.map]
    rw [show ((i : Int) + 1) = ((i + 1 : Nat) : Int) by push_cast; rfl, getI_nat, List.getElem?_map, e1]
    exact hA
abbrev st_are_shafts : Stmt := topS 37
abbrev scN_are_shafts : List Str := ["thing", "name"]
theorem sc_are_shafts : FnScope scN_are_shafts ["thing"] (defScope st_are_shafts) := ⟨rfl, rfl, rfl, by decide +kernel, rfl, by decide +kernel, by decide +kernel⟩
theorem ok_are_shafts (h : Has K mg "are_shafts" st_are_shafts ["thing"]) (T : Blt mg) (c_are_rising : Cal P w K mg base 1 "are_rising" ["thing"] sp_are_rising) (c_is_name : Cal P w K mg base 1 "is_name" ["thing"] sp_is_name) (g_MOST_SHAFTS : GlobD K mg "MOST_SHAFTS" gl_MOST_SHAFTS) : Cal P w K mg base 2 "are_shafts" ["thing"] sp_are_shafts := by
  refine mkP h sc_are_shafts (fun args own Q E z => len_are_shafts z) (fun f cdv A outer s H E hr => (pps_cons (pp_if (ppt_w (ppw_or (ppt_not (ppt_val (pp_isiB T rfl (ppa_cons (ppv 0) (ppa_cons (pp_ty (T := "tuple") rfl T.tuple (by decide +kernel)) ppa_nil))))) (ppw_or1 (ppt_not (ppt_chain pp_int (pp_lenB T rfl (ppa_cons (ppv 0) ppa_nil)) (pp_glob g_MOST_SHAFTS rfl)))))) (pps_one (pp_ret pp_bl)) pps_nil)
      (pps_one (pp_ret (pp_and (pp_allB T rfl rfl (ppa_cons (pp_lc false (.nm 1) rfl sc_are_shafts.nd (ppi_seq (ppv 0)) (blkOk_by (own := [("name", 1)]) (N := scN_are_shafts) (sc := defScope st_are_shafts) (by decide +kernel)) (by decide) (fun _ _ _ _ _ => by exact (pg_name (i := 1) sc_are_shafts.nd rfl (Or.inl rfl))) (fun _ _ _ _ _ => by exact ppts_nil) (fun _ _ _ _ _ => by exact (pp_callC c_is_name hr (by decide) rfl (ppa_cons (ppv 1) ppa_nil)))) ppa_nil)) (pp_one (pp_callC c_are_rising hr (by decide) rfl (ppa_cons (ppv 0) ppa_nil)))))))) (fun args own Q E z => ?_)
  obtain ⟨d, n, rfl, rfl, hp, hn, k⟩ := z
  show (wSeq _ _) _ ⟨[some (.d d), none], []⟩
  dsimp only [wSeq, wNext, wSet, wC, wArg, wCons, wNil, wVar, wUn, wBin, wTest, wIfE, wIf, wRet, wDrop, wPar, wPar3, wAsg, wNot, wNotT, wAndT, wOrT, wAnd, wOr, wTup, wFrz, few, unD, fIsi, asData, wChain, nth, fLen, asSeq, asLst, asTup, asDct, bIx, startE, List.map, List.replicate, List.length, List.set, LcStep, lcStep, wipeE, dV, dRow, dT, dP, dN, Tg.w, Tgs.ws, lenIs, Tgs.len, fList, newO, gl_MOST_SHAFTS]
  rw [inst_tup hp]
  cases d with
  | tup ds =>
    dsimp only [isTupD, cEq, cNe, cEqB, cLt, cLe, cGt, cGe, bInt0, bInt, bSub, cInQ, cInB, cInS, id, Bool.not, fBools, unB]
    dsimp only [shaftsD] at k
    obtain ⟨m, hm, hl, hs⟩ := small_tup hp
    by_cases h1 : 1 ≤ ds.length
    · rw [decide_eq_true (by omega)]
      rw [decide_eq_true h1] at k
      dsimp only
      by_cases h2 : ds.length ≤ 8
      · rw [decide_eq_true (by omega)]
        rw [decide_eq_true h2] at k
        dsimp only [wSeq, wNext, wSet, wC, wArg, wCons, wNil, wVar, wUn, wBin, wTest, wIfE, wIf, wRet, wDrop, wPar, wPar3, wAsg, wNot, wNotT, wAndT, wOrT, wAnd, wOr, wTup, wFrz, few, unD, fIsi, asData, wChain, nth, fLen, asSeq, asLst, asTup, asDct, bIx, startE, List.map, List.replicate, List.length, List.set, LcStep, lcStep, wipeE, dV, dRow, dT, dP, dN, Tg.w, Tgs.ws, lenIs, Tgs.len, fList, newO, cEq, cNe, cEqB, cLt, cLe, cGt, cGe, bInt0, bInt, bSub, cInQ, cInB, cInS, id, Bool.not, fBools, unB]
        refine wLc_map ds (fun d => d) (fun d => .bl (nameD d)) (fun Q h => h) (by simp) ?_ ?_
        · dsimp only [wSeq, wNext, wSet, wC, wArg, wCons, wNil, wVar, wUn, wBin, wTest, wIfE, wIf, wRet, wDrop, wPar, wPar3, wAsg, wNot, wNotT, wAndT, wOrT, wAnd, wOr, wTup, wFrz, few, unD, fIsi, asData, wChain, nth, fLen, asSeq, asLst, asTup, asDct, bIx, startE, List.map, List.replicate, List.length, List.set, LcStep, lcStep, wipeE, dV, dRow, dT, dP, dN, Tg.w, Tgs.ws, lenIs, Tgs.len, fList, newO, cEq, cNe, cEqB, cLt, cLe, cGt, cGe, bInt0, bInt, bSub, cInQ, cInB, cInS, id, Bool.not, fBools, unB]
          rw [unB_of]
          dsimp only
          rw [allB_map]
          cases ha : ds.all nameD with
          | false => rw [ha] at k; exact k
          | true =>
            rw [ha] at k
            obtain ⟨xs, hx⟩ := names_un ha
            have ex := unS_eq hx
            dsimp only [risingD] at k
            rw [hx] at k
            subst ex
            refine ⟨xs, rfl, rfl, by rw [List.length_map] at hl; exact hl, k⟩
        · intro d hd A F hA
          exact ⟨d, m, rfl, rfl, hs d hd, by omega, hA⟩
      · rw [decide_eq_false (by omega)]
        rw [decide_eq_false h2] at k
        exact k
    · rw [decide_eq_false (by omega)]
      rw [decide_eq_false h1] at k
      exact k
  | _ => exact k
abbrev st_are_of : Stmt := topS 38
abbrev scN_are_of : List Str := ["shafts", "thing", "name"]
theorem sc_are_of : FnScope scN_are_of ["shafts", "thing"] (defScope st_are_of) := ⟨rfl, rfl, rfl, by decide +kernel, rfl, by decide +kernel, by decide +kernel⟩
theorem ok_are_of (h : Has K mg "are_of" st_are_of ["shafts", "thing"]) (T : Blt mg) (c_are_rising : Cal P w K mg base 1 "are_rising" ["thing"] sp_are_rising) : Cal P w K mg base 2 "are_of" ["shafts", "thing"] sp_are_of := by
  refine mkP h sc_are_of (fun args own Q E z => len_are_of z) (fun f cdv A outer s H E hr => (pps_cons (pp_if (ppt_w (ppw_or (ppt_not (ppt_val (pp_isiB T rfl (ppa_cons (ppv 1) (ppa_cons (pp_ty (T := "tuple") rfl T.tuple (by decide +kernel)) ppa_nil))))) (ppw_or1 (ppt_not (ppt_val (pp_allB T rfl rfl (ppa_cons (pp_lc false (.nm 2) rfl sc_are_of.nd (ppi_seq (ppv 1)) (blkOk_by (own := [("name", 2)]) (N := scN_are_of) (sc := defScope st_are_of) (by decide +kernel)) (by decide) (fun _ _ _ _ _ => by exact (pg_name (i := 2) sc_are_of.nd rfl (Or.inl rfl))) (fun _ _ _ _ _ => by exact ppts_nil) (fun _ _ _ _ _ => by exact (pp_and (pp_isiB T rfl (ppa_cons (ppv 2) (ppa_cons (pp_ty (T := "str") rfl T.str (by decide +kernel)) ppa_nil))) (pp_one (pp_in (ppv 2) (ppv 0)))))) ppa_nil))))))) (pps_one (pp_ret pp_bl)) pps_nil)
      (pps_one (pp_ret (pp_callC c_are_rising hr (by decide) rfl (ppa_cons (ppv 1) ppa_nil)))))) (fun args own Q E z => ?_)
  obtain ⟨ss, d, n, rfl, rfl, hp, hn, k⟩ := z
  show (wSeq _ _) _ ⟨[some (.d (.tup (ss.map dS))), some (.d d), none], []⟩
  dsimp only [wSeq, wNext, wSet, wC, wArg, wCons, wNil, wVar, wUn, wBin, wTest, wIfE, wIf, wRet, wDrop, wPar, wPar3, wAsg, wNot, wNotT, wAndT, wOrT, wAnd, wOr, wTup, wFrz, few, unD, fIsi, asData, wChain, nth, fLen, asSeq, asLst, asTup, asDct, bIx, startE, List.map, List.replicate, List.length, List.set, LcStep, lcStep, wipeE, dV, dRow, dT, dP, dN, Tg.w, Tgs.ws, lenIs, Tgs.len, fList, newO]
  rw [inst_tup hp]
  cases d with
  | tup ds =>
    dsimp only [isTupD, cEq, cNe, cEqB, cLt, cLe, cGt, cGe, bInt0, bInt, bSub, cInQ, cInB, cInS, id, Bool.not, fBools, unB]
    dsimp only [ofD] at k
    obtain ⟨m, hm, hl, hs⟩ := small_tup hp
    dsimp only [wSeq, wNext, wSet, wC, wArg, wCons, wNil, wVar, wUn, wBin, wTest, wIfE, wIf, wRet, wDrop, wPar, wPar3, wAsg, wNot, wNotT, wAndT, wOrT, wAnd, wOr, wTup, wFrz, few, unD, fIsi, asData, wChain, nth, fLen, asSeq, asLst, asTup, asDct, bIx, startE, List.map, List.replicate, List.length, List.set, LcStep, lcStep, wipeE, dV, dRow, dT, dP, dN, Tg.w, Tgs.ws, lenIs, Tgs.len, fList, newO, cEq, cNe, cEqB, cLt, cLe, cGt, cGe, bInt0, bInt, bSub, cInQ, cInB, cInS, id, Bool.not, fBools, unB]
    refine wLc_map ds (fun d => d) (fun d => .bl (inD ss d)) (fun Q h => h) (by simp) ?_ ?_
    · dsimp only [wSeq, wNext, wSet, wC, wArg, wCons, wNil, wVar, wUn, wBin, wTest, wIfE, wIf, wRet, wDrop, wPar, wPar3, wAsg, wNot, wNotT, wAndT, wOrT, wAnd, wOr, wTup, wFrz, few, unD, fIsi, asData, wChain, nth, fLen, asSeq, asLst, asTup, asDct, bIx, startE, List.map, List.replicate, List.length, List.set, LcStep, lcStep, wipeE, dV, dRow, dT, dP, dN, Tg.w, Tgs.ws, lenIs, Tgs.len, fList, newO, cEq, cNe, cEqB, cLt, cLe, cGt, cGe, bInt0, bInt, bSub, cInQ, cInB, cInS, id, Bool.not, fBools, unB]
      rw [unB_of]
      dsimp only
      rw [allB_map]
      cases ha : ds.all (inD ss) with
      | false => rw [ha] at k; exact k
      | true =>
        rw [ha] at k
        obtain ⟨xs, hx⟩ := in_un ha
        have ex := unS_eq hx
        dsimp only [risingD] at k
        rw [hx] at k
        subst ex
        refine ⟨xs, rfl, rfl, by rw [List.length_map] at hl; exact hl, k⟩
    · intro d hd A F hA
      dsimp only [wSeq, wNext, wSet, wC, wArg, wCons, wNil, wVar, wUn, wBin, wTest, wIfE, wIf, wRet, wDrop, wPar, wPar3, wAsg, wNot, wNotT, wAndT, wOrT, wAnd, wOr, wTup, wFrz, few, unD, fIsi, asData, wChain, nth, fLen, asSeq, asLst, asTup, asDct, bIx, startE, List.map, List.replicate, List.length, List.set, LcStep, lcStep, wipeE, dV, dRow, dT, dP, dN, Tg.w, Tgs.ws, lenIs, Tgs.len, fList, newO]
      rw [inst_str (hs d hd)]
      cases d with
      | str x =>
        dsimp only [isStrD, wSeq, wNext, wSet, wC, wArg, wCons, wNil, wVar, wUn, wBin, wTest, wIfE, wIf, wRet, wDrop, wPar, wPar3, wAsg, wNot, wNotT, wAndT, wOrT, wAnd, wOr, wTup, wFrz, few, unD, fIsi, asData, wChain, nth, fLen, asSeq, asLst, asTup, asDct, bIx, startE, List.map, List.replicate, List.length, List.set, cEq, cNe, cEqB, cLt, cLe, cGt, cGe, bInt0, bInt, bSub, cInQ, cInB, cInS, id, Bool.not, fBools, unB]
        rw [memS_map]
        exact hA
      | _ => exact hA
  | _ => exact k
end
end Bx
end

section
namespace Bx
open PySem L2 PySem.Spec PyProof.Rows
section
variable {P : Program} {w : World} {K : PySem.W.Frag} {mg : Str → Option Value} {base : Heap}
abbrev st_is_box : Stmt := topS 39
abbrev scN_is_box : List Str := ["shafts", "thing", "pair", "shaft", "number"]
theorem sc_is_box : FnScope scN_is_box ["shafts", "thing"] (defScope st_is_box) := ⟨rfl, rfl, rfl, by decide +kernel, rfl, by decide +kernel, by decide +kernel⟩
theorem ok_is_box (h : Has K mg "is_box" st_is_box ["shafts", "thing"]) (T : Blt mg) (c_are_of : Cal P w K mg base 2 "are_of" ["shafts", "thing"] sp_are_of) (c_is_whole : Cal P w K mg base 1 "is_whole" ["thing", "low", "high"] sp_is_whole) (g_MOST_NUMBER : GlobD K mg "MOST_NUMBER" gl_MOST_NUMBER) : Cal P w K mg base 3 "is_box" ["shafts", "thing"] sp_is_box := by
  refine mkP h sc_is_box (fun args own Q E z => len_is_box z) (fun f cdv A outer s H E hr => (pps_cons (pp_if (ppt_w (ppw_or (ppt_not (ppt_val (pp_isiB T rfl (ppa_cons (ppv 1) (ppa_cons (pp_ty (T := "tuple") rfl T.tuple (by decide +kernel)) ppa_nil))))) (ppw_or1 (ppt_notInD hr (pp_lenB T rfl (ppa_cons (ppv 1) ppa_nil)) (pp_tup (ppa_cons pp_int (ppa_cons pp_int ppa_nil))))))) (pps_one (pp_ret pp_bl)) pps_nil)
      (pps_cons (pp_if (ppt_not (ppt_val (pp_allB T rfl rfl (ppa_cons (pp_lc false (.nm 2) rfl sc_is_box.nd (ppi_seq (ppv 1)) (blkOk_by (own := [("pair", 2)]) (N := scN_is_box) (sc := defScope st_is_box) (by decide +kernel)) (by decide) (fun _ _ _ _ _ => by exact (pg_name (i := 2) sc_is_box.nd rfl (Or.inl rfl))) (fun _ _ _ _ _ => by exact ppts_nil) (fun _ _ _ _ _ => by exact (pp_and (pp_isiB T rfl (ppa_cons (ppv 2) (ppa_cons (pp_ty (T := "tuple") rfl T.tuple (by decide +kernel)) ppa_nil))) (pp_one (pp_eq hr (pp_lenB T rfl (ppa_cons (ppv 2) ppa_nil)) pp_int))))) ppa_nil)))) (pps_one (pp_ret pp_bl)) pps_nil)
      (pps_cons (pp_if (ppt_not (ppt_val (pp_allB T rfl rfl (ppa_cons (pp_lc false (.tup (.cons (.nm 3) (.cons (.nm 4) .nil))) rfl sc_is_box.nd (ppi_seq (ppv 1)) (blkOk_by (own := [("shaft", 3), ("number", 4)]) (N := scN_is_box) (sc := defScope st_is_box) (by decide +kernel)) (by decide) (fun _ _ _ _ _ => by exact (pg_tup rfl (pgs_cons (pg_name (i := 3) sc_is_box.nd rfl (Or.inl rfl)) (pgs_cons (pg_name (i := 4) sc_is_box.nd rfl (Or.inl rfl)) pgs_nil)))) (fun _ _ _ _ _ => by exact ppts_nil) (fun _ _ _ _ _ => by exact (pp_and (pp_callC c_is_whole hr (by decide) rfl (ppa_cons (ppv 4) (ppa_cons (pp_neg (pp_glob g_MOST_NUMBER rfl)) (ppa_cons (pp_glob g_MOST_NUMBER rfl) ppa_nil)))) (pp_one (pp_ne hr (ppv 4) pp_int))))) ppa_nil)))) (pps_one (pp_ret pp_bl)) pps_nil)
      (pps_one (pp_ret (pp_callC c_are_of hr (by decide) rfl (ppa_cons (ppv 0) (ppa_cons (pp_tupleB T rfl (ppa_cons (pp_lc false (.tup (.cons (.nm 3) (.cons (.nm 4) .nil))) rfl sc_is_box.nd (ppi_seq (ppv 1)) (blkOk_by (own := [("shaft", 3), ("number", 4)]) (N := scN_is_box) (sc := defScope st_is_box) (by decide +kernel)) (by decide) (fun _ _ _ _ _ => by exact (pg_tup rfl (pgs_cons (pg_name (i := 3) sc_is_box.nd rfl (Or.inl rfl)) (pgs_cons (pg_name (i := 4) sc_is_box.nd rfl (Or.inl rfl)) pgs_nil)))) (fun _ _ _ _ _ => by exact ppts_nil) (fun _ _ _ _ _ => by exact (ppv 3))) ppa_nil)) ppa_nil))))))))) (fun args own Q E z => ?_)
  obtain ⟨ss, d, n, rfl, rfl, hp, hn, k⟩ := z
  show (wSeq _ _) _ ⟨[some (.d (.tup (ss.map dS))), some (.d d), none, none, none], []⟩
  dsimp only [wSeq, wNext, wSet, wC, wArg, wCons, wNil, wVar, wUn, wBin, wTest, wIfE, wIf, wRet, wDrop, wPar, wPar3, wAsg, wNot, wNotT, wAndT, wOrT, wAnd, wOr, wTup, wFrz, few, unD, fIsi, asData, wChain, nth, fLen, asSeq, asLst, asTup, asDct, bIx, startE, List.map, List.replicate, List.length, List.set, LcStep, lcStep, wipeE, dV, dRow, dT, dP, dN, Tg.w, Tgs.ws, lenIs, Tgs.len, fList, newO]
  rw [inst_tup hp]
  cases d with
  | tup ds =>
    dsimp only [isTupD, cEq, cNe, cEqB, cLt, cLe, cGt, cGe, bInt0, bInt, bSub, cInQ, cInB, cInS, id, Bool.not, fBools, unB, wSeq, wNext, wSet, wC, wArg, wCons, wNil, wVar, wUn, wBin, wTest, wIfE, wIf, wRet, wDrop, wPar, wPar3, wAsg, wNot, wNotT, wAndT, wOrT, wAnd, wOr, wTup, wFrz, few, unD, fIsi, asData, wChain, nth, fLen, asSeq, asLst, asTup, asDct, bIx, startE, List.map, List.replicate, List.length, List.set]
    dsimp only [boxD] at k
    obtain ⟨m, rfl, hl, hs⟩ := small_tup hp
    refine ⟨⟨rfl, rfl⟩, ?_⟩
    rw [boxD_len]
    cases h2 : (decide (ds.length = 2) || decide (ds.length = 3)) with
    | false => rw [h2] at k; exact k
    | true =>
      rw [h2] at k
      dsimp only [wSeq, wNext, wSet, wC, wArg, wCons, wNil, wVar, wUn, wBin, wTest, wIfE, wIf, wRet, wDrop, wPar, wPar3, wAsg, wNot, wNotT, wAndT, wOrT, wAnd, wOr, wTup, wFrz, few, unD, fIsi, asData, wChain, nth, fLen, asSeq, asLst, asTup, asDct, bIx, startE, List.map, List.replicate, List.length, List.set, LcStep, lcStep, wipeE, dV, dRow, dT, dP, dN, Tg.w, Tgs.ws, lenIs, Tgs.len, fList, newO, cEq, cNe, cEqB, cLt, cLe, cGt, cGe, bInt0, bInt, bSub, cInQ, cInB, cInS, id, Bool.not, fBools, unB]
      refine wLc_map ds (fun d => d) (fun d => .bl (pairD d)) (fun Q h => h) (by simp) ?_ ?_
      · dsimp only [wSeq, wNext, wSet, wC, wArg, wCons, wNil, wVar, wUn, wBin, wTest, wIfE, wIf, wRet, wDrop, wPar, wPar3, wAsg, wNot, wNotT, wAndT, wOrT, wAnd, wOr, wTup, wFrz, few, unD, fIsi, asData, wChain, nth, fLen, asSeq, asLst, asTup, asDct, bIx, startE, List.map, List.replicate, List.length, List.set, LcStep, lcStep, wipeE, dV, dRow, dT, dP, dN, Tg.w, Tgs.ws, lenIs, Tgs.len, fList, newO, cEq, cNe, cEqB, cLt, cLe, cGt, cGe, bInt0, bInt, bSub, cInQ, cInB, cInS, id, Bool.not, fBools, unB]
        rw [unB_of]
        dsimp only
        rw [allB_map]
        cases ha : ds.all pairD with
        | false => rw [ha] at k; exact k
        | true =>
          rw [ha] at k
          obtain ⟨ps, rfl⟩ := pairs_eq ha
          have hsm : ∀ p ∈ ps, ∃ j, m = j + 1 ∧ small j p.1 = true ∧ small j p.2 = true := fun p hp => by
            obtain ⟨j, e1, _, e3⟩ := small_tup (hs (.tup [p.1, p.2]) (List.mem_map.mpr ⟨p, hp, rfl⟩))
            exact ⟨j, e1, e3 _ (by simp), e3 _ (by simp)⟩
          rw [List.all_map, List.map_map] at k
          dsimp only [wSeq, wNext, wSet, wC, wArg, wCons, wNil, wVar, wUn, wBin, wTest, wIfE, wIf, wRet, wDrop, wPar, wPar3, wAsg, wNot, wNotT, wAndT, wOrT, wAnd, wOr, wTup, wFrz, few, unD, fIsi, asData, wChain, nth, fLen, asSeq, asLst, asTup, asDct, bIx, startE, List.map, List.replicate, List.length, List.set, LcStep, lcStep, wipeE, dV, dRow, dT, dP, dN, Tg.w, Tgs.ws, lenIs, Tgs.len, fList, newO, cEq, cNe, cEqB, cLt, cLe, cGt, cGe, bInt0, bInt, bSub, cInQ, cInB, cInS, id, Bool.not, fBools, unB]
          refine wLc_map ps (fun p : D × D => .tup [p.1, p.2]) (fun p : D × D => .bl (numD p.2)) (fun Q h => h) rfl ?_ ?_
          · dsimp only [wSeq, wNext, wSet, wC, wArg, wCons, wNil, wVar, wUn, wBin, wTest, wIfE, wIf, wRet, wDrop, wPar, wPar3, wAsg, wNot, wNotT, wAndT, wOrT, wAnd, wOr, wTup, wFrz, few, unD, fIsi, asData, wChain, nth, fLen, asSeq, asLst, asTup, asDct, bIx, startE, List.map, List.replicate, List.length, List.set, LcStep, lcStep, wipeE, dV, dRow, dT, dP, dN, Tg.w, Tgs.ws, lenIs, Tgs.len, fList, newO, cEq, cNe, cEqB, cLt, cLe, cGt, cGe, bInt0, bInt, bSub, cInQ, cInB, cInS, id, Bool.not, fBools, unB]
            rw [unB_of]
            dsimp only
            rw [allB_map]
            rw [show ((fun p => numD (sndD p)) ∘ fun p : D × D => D.tup [p.1, p.2]) = fun p : D × D => numD p.2 from rfl] at k
            cases hb : ps.all fun p => numD p.2 with
            | false => rw [hb] at k; exact k
            | true =>
              rw [hb] at k
              dsimp only [wSeq, wNext, wSet, wC, wArg, wCons, wNil, wVar, wUn, wBin, wTest, wIfE, wIf, wRet, wDrop, wPar, wPar3, wAsg, wNot, wNotT, wAndT, wOrT, wAnd, wOr, wTup, wFrz, few, unD, fIsi, asData, wChain, nth, fLen, asSeq, asLst, asTup, asDct, bIx, startE, List.map, List.replicate, List.length, List.set, LcStep, lcStep, wipeE, dV, dRow, dT, dP, dN, Tg.w, Tgs.ws, lenIs, Tgs.len, fList, newO, cEq, cNe, cEqB, cLt, cLe, cGt, cGe, bInt0, bInt, bSub, cInQ, cInB, cInS, id, Bool.not, fBools, unB, wCall]
              refine wLc_map ps (fun p : D × D => .tup [p.1, p.2]) (fun p : D × D => p.1) (fun Q h => h) rfl ?_ ?_
              · dsimp only [wSeq, wNext, wSet, wC, wArg, wCons, wNil, wVar, wUn, wBin, wTest, wIfE, wIf, wRet, wDrop, wPar, wPar3, wAsg, wNot, wNotT, wAndT, wOrT, wAnd, wOr, wTup, wFrz, few, unD, fIsi, asData, wChain, nth, fLen, asSeq, asLst, asTup, asDct, bIx, startE, List.map, List.replicate, List.length, List.set, LcStep, lcStep, wipeE, dV, dRow, dT, dP, dN, Tg.w, Tgs.ws, lenIs, Tgs.len, fList, newO, cEq, cNe, cEqB, cLt, cLe, cGt, cGe, bInt0, bInt, bSub, cInQ, cInB, cInS, id, Bool.not, fBools, unB, fTuple, wCall]
                refine ⟨ss, .tup (ps.map fun p => p.1), m + 1, rfl, rfl, ?_, hn, k⟩
                rw [List.length_map] at hl
                simp only [small]
                rw [decide_eq_true (by rw [List.length_map]; exact hl), Bool.true_and]
                refine smalls_iff.mpr fun d hd => ?_
                obtain ⟨p, hp, rfl⟩ := List.mem_map.mp hd
                exact small_up (hsm p hp)
              · intro p hp A F hA
                exact hA
          · intro p hp A F hA
            obtain ⟨j, rfl, h1, h2⟩ := hsm p hp
            dsimp only [wSeq, wNext, wSet, wC, wArg, wCons, wNil, wVar, wUn, wBin, wTest, wIfE, wIf, wRet, wDrop, wPar, wPar3, wAsg, wNot, wNotT, wAndT, wOrT, wAnd, wOr, wTup, wFrz, few, unD, fIsi, asData, wChain, nth, fLen, asSeq, asLst, asTup, asDct, bIx, startE, List.map, List.replicate, List.length, List.set, LcStep, lcStep, wipeE, dV, dRow, dT, dP, dN, Tg.w, Tgs.ws, lenIs, Tgs.len, fList, newO, wCall, gl_MOST_NUMBER, uNeg]
            refine ⟨p.2, -20, 20, j, rfl, rfl, h2, ?_⟩
            dsimp only [numD] at hA
            cases hw : wholeD (-20) 20 p.2 with
            | false => rw [hw] at hA; exact hA
            | true =>
              rw [hw] at hA
              cases hp2 : p.2 with
              | int i =>
                rw [hp2] at hA
                have e : (!deq (D.int i) (D.int 0)) = !decide (i = 0) := by
                  rw [show deq (D.int i) (D.int 0) = (i == 0) from rfl]; rfl
                rw [e] at hA
                exact hA
              | _ => rw [hp2] at hw; simp [wholeD] at hw
      · intro d hd A F hA
        dsimp only [wSeq, wNext, wSet, wC, wArg, wCons, wNil, wVar, wUn, wBin, wTest, wIfE, wIf, wRet, wDrop, wPar, wPar3, wAsg, wNot, wNotT, wAndT, wOrT, wAnd, wOr, wTup, wFrz, few, unD, fIsi, asData, wChain, nth, fLen, asSeq, asLst, asTup, asDct, bIx, startE, List.map, List.replicate, List.length, List.set, LcStep, lcStep, wipeE, dV, dRow, dT, dP, dN, Tg.w, Tgs.ws, lenIs, Tgs.len, fList, newO]
        rw [inst_tup (hs d hd)]
        rw [pairD_len] at hA
        cases d with
        | tup es =>
          dsimp only [isTupD, wSeq, wNext, wSet, wC, wArg, wCons, wNil, wVar, wUn, wBin, wTest, wIfE, wIf, wRet, wDrop, wPar, wPar3, wAsg, wNot, wNotT, wAndT, wOrT, wAnd, wOr, wTup, wFrz, few, unD, fIsi, asData, wChain, nth, fLen, asSeq, asLst, asTup, asDct, bIx, startE, List.map, List.replicate, List.length, List.set, cEq, cNe, cEqB, cLt, cLe, cGt, cGe, bInt0, bInt, bSub, cInQ, cInB, cInS, id, Bool.not, fBools, unB]
          have e : decide (((es.length : Nat) : Int) = 2) = decide (es.length = 2) := by rw [Bool.eq_iff_iff]; simp only [decide_eq_true_eq]; omega
          rw [e]
          exact hA
        | _ => exact hA
  | _ => exact k
abbrev st_is_net : Stmt := topS 40
abbrev scN_is_net : List Str := ["thing", "box"]
theorem sc_is_net : FnScope scN_is_net ["thing"] (defScope st_is_net) := ⟨rfl, rfl, rfl, by decide +kernel, rfl, by decide +kernel, by decide +kernel⟩
theorem ok_is_net (h : Has K mg "is_net" st_is_net ["thing"]) (T : Blt mg) (c_is_box : Cal P w K mg base 3 "is_box" ["shafts", "thing"] sp_is_box) (c_are_shafts : Cal P w K mg base 2 "are_shafts" ["thing"] sp_are_shafts) (g_MOST_BOXES : GlobD K mg "MOST_BOXES" gl_MOST_BOXES) : Cal P w K mg base 4 "is_net" ["thing"] sp_is_net := by
  refine mkP h sc_is_net (fun args own Q E z => len_is_net z) (fun f cdv A outer s H E hr => (pps_cons (pp_if (ppt_w (ppw_or (ppt_not (ppt_val (pp_isiB T rfl (ppa_cons (ppv 0) (ppa_cons (pp_ty (T := "tuple") rfl T.tuple (by decide +kernel)) ppa_nil))))) (ppw_or (ppt_ne hr (pp_lenB T rfl (ppa_cons (ppv 0) ppa_nil)) pp_int) (ppw_or (ppt_not (ppt_val (pp_callC c_are_shafts hr (by decide) rfl (ppa_cons (pp_ixA (ppv 0) pp_int) ppa_nil)))) (ppw_or1 (ppt_not (ppt_val (pp_isiB T rfl (ppa_cons (pp_ixA (ppv 0) pp_int) (ppa_cons (pp_ty (T := "tuple") rfl T.tuple (by decide +kernel)) ppa_nil)))))))))) (pps_one (pp_ret pp_bl)) pps_nil)
      (pps_one (pp_ret (pp_and (pp_le (pp_lenB T rfl (ppa_cons (pp_ixA (ppv 0) pp_int) ppa_nil)) (pp_glob g_MOST_BOXES rfl)) (pp_one (pp_allB T rfl rfl (ppa_cons (pp_lc false (.nm 1) rfl sc_is_net.nd (ppi_seq (pp_ixA (ppv 0) pp_int)) (blkOk_by (own := [("box", 1)]) (N := scN_is_net) (sc := defScope st_is_net) (by decide +kernel)) (by decide) (fun _ _ _ _ _ => by exact (pg_name (i := 1) sc_is_net.nd rfl (Or.inl rfl))) (fun _ _ _ _ _ => by exact ppts_nil) (fun _ _ _ _ _ => by exact (pp_callC c_is_box hr (by decide) rfl (ppa_cons (pp_ixA (ppv 0) pp_int) (ppa_cons (ppv 1) ppa_nil))))) ppa_nil)))))))) (fun args own Q E z => ?_)
  obtain ⟨d, n, rfl, rfl, hp, hn, k⟩ := z
  show (wSeq _ _) _ ⟨[some (.d d), none], []⟩
  dsimp only [wSeq, wNext, wSet, wC, wArg, wCons, wNil, wVar, wUn, wBin, wTest, wIfE, wIf, wRet, wDrop, wPar, wPar3, wAsg, wNot, wNotT, wAndT, wOrT, wAnd, wOr, wTup, wFrz, few, unD, fIsi, asData, wChain, nth, fLen, asSeq, asLst, asTup, asDct, bIx, startE, List.map, List.replicate, List.length, List.set, LcStep, lcStep, wipeE, dV, dRow, dT, dP, dN, Tg.w, Tgs.ws, lenIs, Tgs.len, fList, newO, gl_MOST_BOXES]
  rw [inst_tup hp]
  cases d with
  | tup ds =>
    dsimp only [isTupD, cEq, cNe, cEqB, cLt, cLe, cGt, cGe, bInt0, bInt, bSub, cInQ, cInB, cInS, id, Bool.not, fBools, unB]
    obtain ⟨m, rfl, hl, hs⟩ := small_tup hp
    by_cases h2 : ds.length = 2
    · rw [decide_eq_true (by omega)]
      obtain ⟨a, b, rfl⟩ := len_two h2
      dsimp only [wSeq, wNext, wSet, wC, wArg, wCons, wNil, wVar, wUn, wBin, wTest, wIfE, wIf, wRet, wDrop, wPar, wPar3, wAsg, wNot, wNotT, wAndT, wOrT, wAnd, wOr, wTup, wFrz, few, unD, fIsi, asData, wChain, nth, fLen, asSeq, asLst, asTup, asDct, bIx, startE, List.map, List.replicate, List.length, List.set, LcStep, lcStep, wipeE, dV, dRow, dT, dP, dN, Tg.w, Tgs.ws, lenIs, Tgs.len, fList, newO, cEq, cNe, cEqB, cLt, cLe, cGt, cGe, bInt0, bInt, bSub, cInQ, cInB, cInS, id, Bool.not, fBools, unB, wCall]
      rw [show getI [a, b] 0 = some a from rfl]
      refine ⟨a, m, rfl, rfl, hs a (by simp), by omega, ?_⟩
      dsimp only [wSeq, wNext, wSet, wC, wArg, wCons, wNil, wVar, wUn, wBin, wTest, wIfE, wIf, wRet, wDrop, wPar, wPar3, wAsg, wNot, wNotT, wAndT, wOrT, wAnd, wOr, wTup, wFrz, few, unD, fIsi, asData, wChain, nth, fLen, asSeq, asLst, asTup, asDct, bIx, startE, List.map, List.replicate, List.length, List.set, LcStep, lcStep, wipeE, dV, dRow, dT, dP, dN, Tg.w, Tgs.ws, lenIs, Tgs.len, fList, newO, cEq, cNe, cEqB, cLt, cLe, cGt, cGe, bInt0, bInt, bSub, cInQ, cInB, cInS, id, Bool.not, fBools, unB, backW, putA]
      cases ha : shaftsD a with
      | false =>
        have e : netD (.tup [a, b]) = false := by
          cases b <;> first | rfl | (simp only [netD, ha, Bool.false_and])
        rw [e] at k
        exact k
      | true =>
        dsimp only [wSeq, wNext, wSet, wC, wArg, wCons, wNil, wVar, wUn, wBin, wTest, wIfE, wIf, wRet, wDrop, wPar, wPar3, wAsg, wNot, wNotT, wAndT, wOrT, wAnd, wOr, wTup, wFrz, few, unD, fIsi, asData, wChain, nth, fLen, asSeq, asLst, asTup, asDct, bIx, startE, List.map, List.replicate, List.length, List.set, LcStep, lcStep, wipeE, dV, dRow, dT, dP, dN, Tg.w, Tgs.ws, lenIs, Tgs.len, fList, newO, cEq, cNe, cEqB, cLt, cLe, cGt, cGe, bInt0, bInt, bSub, cInQ, cInB, cInS, id, Bool.not, fBools, unB]
        rw [show getI [a, b] 1 = some b from rfl]
        dsimp only
        rw [inst_tup (hs b (by simp))]
        cases b with
        | tup bs =>
          rw [show netD (.tup [a, .tup bs]) = (shaftsD a && (decide (bs.length ≤ 8) && bs.all (boxD (namesD a)))) from rfl, ha] at k
          dsimp only [isTupD, wSeq, wNext, wSet, wC, wArg, wCons, wNil, wVar, wUn, wBin, wTest, wIfE, wIf, wRet, wDrop, wPar, wPar3, wAsg, wNot, wNotT, wAndT, wOrT, wAnd, wOr, wTup, wFrz, few, unD, fIsi, asData, wChain, nth, fLen, asSeq, asLst, asTup, asDct, bIx, startE, List.map, List.replicate, List.length, List.set, LcStep, lcStep, wipeE, dV, dRow, dT, dP, dN, Tg.w, Tgs.ws, lenIs, Tgs.len, fList, newO, cEq, cNe, cEqB, cLt, cLe, cGt, cGe, bInt0, bInt, bSub, cInQ, cInB, cInS, id, Bool.not, fBools, unB]
          by_cases h8 : bs.length ≤ 8
          · rw [decide_eq_true (by omega)]
            rw [decide_eq_true h8] at k
            dsimp only [wSeq, wNext, wSet, wC, wArg, wCons, wNil, wVar, wUn, wBin, wTest, wIfE, wIf, wRet, wDrop, wPar, wPar3, wAsg, wNot, wNotT, wAndT, wOrT, wAnd, wOr, wTup, wFrz, few, unD, fIsi, asData, wChain, nth, fLen, asSeq, asLst, asTup, asDct, bIx, startE, List.map, List.replicate, List.length, List.set, LcStep, lcStep, wipeE, dV, dRow, dT, dP, dN, Tg.w, Tgs.ws, lenIs, Tgs.len, fList, newO, cEq, cNe, cEqB, cLt, cLe, cGt, cGe, bInt0, bInt, bSub, cInQ, cInB, cInS, id, Bool.not, fBools, unB]
            have hb := small_tup (hs (.tup bs) (by simp))
            obtain ⟨j, rfl, hl2, hs2⟩ := hb
            obtain ⟨xs, rfl⟩ : ∃ xs : List Str, a = .tup (xs.map dS) := by
              cases a with
              | tup as =>
                dsimp only [shaftsD] at ha
                simp only [Bool.and_eq_true] at ha
                obtain ⟨xs, hx⟩ := names_un ha.2.1
                exact ⟨xs, by rw [unS_eq hx]⟩
              | _ => simp [shaftsD] at ha
            have en : namesD (.tup (xs.map dS)) = xs := by
              show (unS (xs.map dS)).getD [] = xs
              rw [unS_map]; rfl
            rw [en] at k
            refine wLc_map (items := bs) (s0 := ⟨[some (.d (.tup [.tup (xs.map dS), .tup bs])), none], []⟩) bs (fun d : D => d) (fun d : D => .bl (boxD xs d)) (fun Q h => ?_) (by simp) ?_ ?_
            · dsimp only [wSeqI, wSeq, wNext, wSet, wC, wArg, wCons, wNil, wVar, wUn, wBin, wTest, wIfE, wIf, wRet, wDrop, wPar, wPar3, wAsg, wNot, wNotT, wAndT, wOrT, wAnd, wOr, wTup, wFrz, few, unD, fIsi, asData, wChain, nth, fLen, asSeq, asLst, asTup, asDct, bIx, startE, List.map, List.replicate, List.length, List.set]
              rw [show getI [D.tup (xs.map dS), .tup bs] 1 = some (.tup bs) from rfl]
              exact h
            · dsimp only [wSeq, wNext, wSet, wC, wArg, wCons, wNil, wVar, wUn, wBin, wTest, wIfE, wIf, wRet, wDrop, wPar, wPar3, wAsg, wNot, wNotT, wAndT, wOrT, wAnd, wOr, wTup, wFrz, few, unD, fIsi, asData, wChain, nth, fLen, asSeq, asLst, asTup, asDct, bIx, startE, List.map, List.replicate, List.length, List.set, LcStep, lcStep, wipeE, dV, dRow, dT, dP, dN, Tg.w, Tgs.ws, lenIs, Tgs.len, fList, newO, cEq, cNe, cEqB, cLt, cLe, cGt, cGe, bInt0, bInt, bSub, cInQ, cInB, cInS, id, Bool.not, fBools, unB]
              rw [unB_of]
              dsimp only
              rw [allB_map]
              exact k
            · intro d hd A F hA
              dsimp only [wSeq, wNext, wSet, wC, wArg, wCons, wNil, wVar, wUn, wBin, wTest, wIfE, wIf, wRet, wDrop, wPar, wPar3, wAsg, wNot, wNotT, wAndT, wOrT, wAnd, wOr, wTup, wFrz, few, unD, fIsi, asData, wChain, nth, fLen, asSeq, asLst, asTup, asDct, bIx, startE, List.map, List.replicate, List.length, List.set, LcStep, lcStep, wipeE, dV, dRow, dT, dP, dN, Tg.w, Tgs.ws, lenIs, Tgs.len, fList, newO, cEq, cNe, cEqB, cLt, cLe, cGt, cGe, bInt0, bInt, bSub, cInQ, cInB, cInS, id, Bool.not, fBools, unB, wCall]
              rw [show getI [D.tup (xs.map dS), .tup bs] 0 = some (.tup (xs.map dS)) from rfl]
              exact ⟨xs, d, j, rfl, rfl, hs2 d hd, by omega, hA⟩
          · rw [decide_eq_false (by omega)]
            rw [decide_eq_false h8] at k
            exact k
        | _ => exact k
    · rw [decide_eq_false (by omega)]
      have e : netD (.tup ds) = false := by
        unfold netD
        split
        · rename_i e; cases e; exact absurd rfl h2
        · rfl
      rw [e] at k
      exact k
  | _ => exact k
abbrev st_need_net : Stmt := topS 41
abbrev scN_need_net : List Str := ["net"]
theorem sc_need_net : FnScope scN_need_net ["net"] (defScope st_need_net) := ⟨rfl, rfl, rfl, by decide +kernel, rfl, by decide +kernel, by decide +kernel⟩
theorem okX_need_net {cl : Str → Addr} (XA : ExcAll K mg cl) (h : Has K mg "need_net" st_need_net ["net"]) (T : Blt mg) (c_is_net : Cal P w K mg base 4 "is_net" ["thing"] sp_is_net) : CalX P w K mg base 5 "need_net" ["net"] (spX_need_net cl) := by
  refine mkX h sc_need_net (fun args own Q E z => lenX_need_net z) (fun f cdv A outer s H E hr => (pps_one (pp_if (ppt_not (ppt_val (pp_callC c_is_net hr (by decide) rfl (ppa_cons (ppv 0) ppa_nil)))) (pps_one (pp_raise rfl (L2N.takes_of rfl rfl rfl rfl) (XA.one "NoNet" (by decide)).at_ rfl)) pps_nil))) (fun args own Q E z => ?_)
  obtain ⟨d, n, rfl, rfl, hp, hn, kx, k⟩ := z
  show (wIf _ _ _) _ ⟨[some (.d d)], []⟩
  refine ⟨d, n, rfl, rfl, hp, hn, ?_⟩
  dsimp only [wSeq, wNext, wSet, wC, wArg, wCons, wNil, wVar, wUn, wBin, wTest, wIfE, wIf, wRet, wDrop, wPar, wPar3, wAsg, wNot, wNotT, wAndT, wOrT, wAnd, wOr, wTup, wFrz, few, unD, fIsi, asData, wChain, nth, fLen, asSeq, asLst, asTup, asDct, bIx, startE, List.map, List.replicate, List.length, List.set, LcStep, lcStep, wipeE, dV, dRow, dT, dP, dN, Tg.w, Tgs.ws, lenIs, Tgs.len, fList, newO, backW, putA, wRaise]
  cases hd : netD d with
  | false => exact kx hd
  | true => exact k hd
abbrev st_need_hands : Stmt := topS 51
abbrev scN_need_hands : List Str := ["net", "hands"]
theorem sc_need_hands : FnScope scN_need_hands ["net", "hands"] (defScope st_need_hands) := ⟨rfl, rfl, rfl, by decide +kernel, rfl, by decide +kernel, by decide +kernel⟩
theorem okX_need_hands {cl : Str → Addr} (XA : ExcAll K mg cl) (h : Has K mg "need_hands" st_need_hands ["net", "hands"]) (T : Blt mg) (cX_need_net : CalX P w K mg base 5 "need_net" ["net"] (spX_need_net cl)) : CalX P w K mg base 6 "need_hands" ["net", "hands"] (spXD_need_hands cl) := by
  refine mkX h sc_need_hands (fun args own Q E z => lenXD_need_hands z) (fun f cdv A outer s H E hr => (pps_cons (pp_exprX (pp_callX cX_need_net (L2N.takes_of rfl rfl rfl rfl) hr (by decide) rfl (ppa_cons (ppv 0) ppa_nil))) pps_never)) (fun args own Q E z => ?_)
  obtain ⟨d, m, rfl, rfl, hs, hm, hf, k⟩ := z
  show (wSeq _ _) _ ⟨[some (.d d), some (.d .non)], []⟩
  dsimp only [wSeq, wNext, wSet, wC, wArg, wCons, wNil, wVar, wUn, wBin, wTest, wIfE, wIf, wRet, wDrop, wPar, wPar3, wAsg, wNot, wNotT, wAndT, wOrT, wAnd, wOr, wTup, wFrz, few, unD, fIsi, asData, wChain, nth, fLen, asSeq, asLst, asTup, asDct, bIx, startE, List.map, List.replicate, List.length, List.set, wDropX, wCallX]
  exact ⟨d, m, rfl, rfl, hs, hm, (fun _ => ⟨rfl, k⟩), fun z => by rw [hf] at z; cases z⟩
abbrev st_is_turning : Stmt := topS 46
abbrev scN_is_turning : List Str := ["net", "thing", "row"]
theorem sc_is_turning : FnScope scN_is_turning ["net", "thing"] (defScope st_is_turning) := ⟨rfl, rfl, rfl, by decide +kernel, rfl, by decide +kernel, by decide +kernel⟩
theorem okX_is_turning {cl : Str → Addr} (XA : ExcAll K mg cl) (h : Has K mg "is_turning" st_is_turning ["net", "thing"]) (T : Blt mg) (cX_need_net : CalX P w K mg base 5 "need_net" ["net"] (spX_need_net cl)) : CalX P w K mg base 6 "is_turning" ["net", "thing"] (spXD_is_turning cl) := by
  refine mkX h sc_is_turning (fun args own Q E z => lenXD_is_turning z) (fun f cdv A outer s H E hr => (pps_cons (pp_exprX (pp_callX cX_need_net (L2N.takes_of rfl rfl rfl rfl) hr (by decide) rfl (ppa_cons (ppv 0) ppa_nil))) pps_never)) (fun args own Q E z => ?_)
  obtain ⟨d, m, rfl, rfl, hs, hm, hf, k⟩ := z
  show (wSeq _ _) _ ⟨[some (.d d), some (.d .non), none], []⟩
  dsimp only [wSeq, wNext, wSet, wC, wArg, wCons, wNil, wVar, wUn, wBin, wTest, wIfE, wIf, wRet, wDrop, wPar, wPar3, wAsg, wNot, wNotT, wAndT, wOrT, wAnd, wOr, wTup, wFrz, few, unD, fIsi, asData, wChain, nth, fLen, asSeq, asLst, asTup, asDct, bIx, startE, List.map, List.replicate, List.length, List.set, wDropX, wCallX]
  exact ⟨d, m, rfl, rfl, hs, hm, (fun _ => ⟨rfl, k⟩), fun z => by rw [hf] at z; cases z⟩
abbrev st_sum_of : Stmt := topS 48
abbrev scN_sum_of : List Str := ["net", "numbers"]
theorem sc_sum_of : FnScope scN_sum_of ["net", "numbers"] (defScope st_sum_of) := ⟨rfl, rfl, rfl, by decide +kernel, rfl, by decide +kernel, by decide +kernel⟩
theorem okX_sum_of {cl : Str → Addr} (XA : ExcAll K mg cl) (h : Has K mg "sum_of" st_sum_of ["net", "numbers"]) (T : Blt mg) (cX_need_net : CalX P w K mg base 5 "need_net" ["net"] (spX_need_net cl)) : CalX P w K mg base 6 "sum_of" ["net", "numbers"] (spXD_sum_of cl) := by
  refine mkX h sc_sum_of (fun args own Q E z => lenXD_sum_of z) (fun f cdv A outer s H E hr => (pps_cons (pp_exprX (pp_callX cX_need_net (L2N.takes_of rfl rfl rfl rfl) hr (by decide) rfl (ppa_cons (ppv 0) ppa_nil))) pps_never)) (fun args own Q E z => ?_)
  obtain ⟨d, m, rfl, rfl, hs, hm, hf, k⟩ := z
  show (wSeq _ _) _ ⟨[some (.d d), some (.d .non)], []⟩
  dsimp only [wSeq, wNext, wSet, wC, wArg, wCons, wNil, wVar, wUn, wBin, wTest, wIfE, wIf, wRet, wDrop, wPar, wPar3, wAsg, wNot, wNotT, wAndT, wOrT, wAnd, wOr, wTup, wFrz, few, unD, fIsi, asData, wChain, nth, fLen, asSeq, asLst, asTup, asDct, bIx, startE, List.map, List.replicate, List.length, List.set, wDropX, wCallX]
  exact ⟨d, m, rfl, rfl, hs, hm, (fun _ => ⟨rfl, k⟩), fun z => by rw [hf] at z; cases z⟩
abbrev st_turned : Stmt := topS 56
abbrev scN_turned : List Str := ["net", "hands"]
theorem sc_turned : FnScope scN_turned ["net", "hands"] (defScope st_turned) := ⟨rfl, rfl, rfl, by decide +kernel, rfl, by decide +kernel, by decide +kernel⟩
theorem okX_turned {cl : Str → Addr} (XA : ExcAll K mg cl) (h : Has K mg "turned" st_turned ["net", "hands"]) (T : Blt mg) (cX_need_hands : CalX P w K mg base 6 "need_hands" ["net", "hands"] (spXD_need_hands cl)) : CalX P w K mg base 7 "turned" ["net", "hands"] (spXD_turned cl) := by
  refine mkX h sc_turned (fun args own Q E z => lenXD_turned z) (fun f cdv A outer s H E hr => (pps_cons (pp_exprX (pp_callX cX_need_hands (L2N.takes_of rfl rfl rfl rfl) hr (by decide) rfl (ppa_cons (ppv 0) (ppa_cons (ppv 1) ppa_nil)))) pps_never)) (fun args own Q E z => ?_)
  obtain ⟨d, m, rfl, rfl, hs, hm, hf, k⟩ := z
  show (wSeq _ _) _ ⟨[some (.d d), some (.d .non)], []⟩
  dsimp only [wSeq, wNext, wSet, wC, wArg, wCons, wNil, wVar, wUn, wBin, wTest, wIfE, wIf, wRet, wDrop, wPar, wPar3, wAsg, wNot, wNotT, wAndT, wOrT, wAnd, wOr, wTup, wFrz, few, unD, fIsi, asData, wChain, nth, fLen, asSeq, asLst, asTup, asDct, bIx, startE, List.map, List.replicate, List.length, List.set, wDropX, wCallX]
  exact ⟨d, m, rfl, rfl, hs, hm, hf, rfl, k⟩
abbrev st_bars : Stmt := topS 57
abbrev scN_bars : List Str := ["net", "hands", "thing", "parts", "shaft", "speed"]
theorem sc_bars : FnScope scN_bars ["net", "hands", "thing"] (defScope st_bars) := ⟨rfl, rfl, rfl, by decide +kernel, rfl, by decide +kernel, by decide +kernel⟩
theorem okX_bars {cl : Str → Addr} (XA : ExcAll K mg cl) (h : Has K mg "bars" st_bars ["net", "hands", "thing"]) (T : Blt mg) (cX_need_hands : CalX P w K mg base 6 "need_hands" ["net", "hands"] (spXD_need_hands cl)) : CalX P w K mg base 7 "bars" ["net", "hands", "thing"] (spXD_bars cl) := by
  refine mkX h sc_bars (fun args own Q E z => lenXD_bars z) (fun f cdv A outer s H E hr => (pps_cons (pp_exprX (pp_callX cX_need_hands (L2N.takes_of rfl rfl rfl rfl) hr (by decide) rfl (ppa_cons (ppv 0) (ppa_cons (ppv 1) ppa_nil)))) pps_never)) (fun args own Q E z => ?_)
  obtain ⟨d, m, rfl, rfl, hs, hm, hf, k⟩ := z
  show (wSeq _ _) _ ⟨[some (.d d), some (.d .non), some (.d .non), none, none, none], []⟩
  dsimp only [wSeq, wNext, wSet, wC, wArg, wCons, wNil, wVar, wUn, wBin, wTest, wIfE, wIf, wRet, wDrop, wPar, wPar3, wAsg, wNot, wNotT, wAndT, wOrT, wAnd, wOr, wTup, wFrz, few, unD, fIsi, asData, wChain, nth, fLen, asSeq, asLst, asTup, asDct, bIx, startE, List.map, List.replicate, List.length, List.set, wDropX, wCallX]
  exact ⟨d, m, rfl, rfl, hs, hm, hf, rfl, k⟩
abbrev st_reason : Stmt := topS 58
abbrev scN_reason : List Str := ["net", "hands", "shaft", "loose", "rows", "columns", "row", "at", "found", "one"]
theorem sc_reason : FnScope scN_reason ["net", "hands", "shaft"] (defScope st_reason) := ⟨rfl, rfl, rfl, by decide +kernel, rfl, by decide +kernel, by decide +kernel⟩
theorem okX_reason {cl : Str → Addr} (XA : ExcAll K mg cl) (h : Has K mg "reason" st_reason ["net", "hands", "shaft"]) (T : Blt mg) (cX_need_hands : CalX P w K mg base 6 "need_hands" ["net", "hands"] (spXD_need_hands cl)) : CalX P w K mg base 7 "reason" ["net", "hands", "shaft"] (spXD_reason cl) := by
  refine mkX h sc_reason (fun args own Q E z => lenXD_reason z) (fun f cdv A outer s H E hr => (pps_cons (pp_exprX (pp_callX cX_need_hands (L2N.takes_of rfl rfl rfl rfl) hr (by decide) rfl (ppa_cons (ppv 0) (ppa_cons (ppv 1) ppa_nil)))) pps_never)) (fun args own Q E z => ?_)
  obtain ⟨d, m, rfl, rfl, hs, hm, hf, k⟩ := z
  show (wSeq _ _) _ ⟨[some (.d d), some (.d .non), some (.d .non), none, none, none, none, none, none, none], []⟩
  dsimp only [wSeq, wNext, wSet, wC, wArg, wCons, wNil, wVar, wUn, wBin, wTest, wIfE, wIf, wRet, wDrop, wPar, wPar3, wAsg, wNot, wNotT, wAndT, wOrT, wAnd, wOr, wTup, wFrz, few, unD, fIsi, asData, wChain, nth, fLen, asSeq, asLst, asTup, asDct, bIx, startE, List.map, List.replicate, List.length, List.set, wDropX, wCallX]
  exact ⟨d, m, rfl, rfl, hs, hm, hf, rfl, k⟩
abbrev st_two_ways : Stmt := topS 59
abbrev scN_two_ways : List Str := ["net", "hands", "shaft", "found", "lot", "loose", "some", "one", "other", "a", "b"]
theorem sc_two_ways : FnScope scN_two_ways ["net", "hands", "shaft"] (defScope st_two_ways) := ⟨rfl, rfl, rfl, by decide +kernel, rfl, by decide +kernel, by decide +kernel⟩
theorem okX_two_ways {cl : Str → Addr} (XA : ExcAll K mg cl) (h : Has K mg "two_ways" st_two_ways ["net", "hands", "shaft"]) (T : Blt mg) (cX_need_hands : CalX P w K mg base 6 "need_hands" ["net", "hands"] (spXD_need_hands cl)) : CalX P w K mg base 7 "two_ways" ["net", "hands", "shaft"] (spXD_two_ways cl) := by
  refine mkX h sc_two_ways (fun args own Q E z => lenXD_two_ways z) (fun f cdv A outer s H E hr => (pps_cons (pp_exprX (pp_callX cX_need_hands (L2N.takes_of rfl rfl rfl rfl) hr (by decide) rfl (ppa_cons (ppv 0) (ppa_cons (ppv 1) ppa_nil)))) pps_never)) (fun args own Q E z => ?_)
  obtain ⟨d, m, rfl, rfl, hs, hm, hf, k⟩ := z
  show (wSeq _ _) _ ⟨[some (.d d), some (.d .non), some (.d .non), none, none, none, none, none, none, none, none], []⟩
  dsimp only [wSeq, wNext, wSet, wC, wArg, wCons, wNil, wVar, wUn, wBin, wTest, wIfE, wIf, wRet, wDrop, wPar, wPar3, wAsg, wNot, wNotT, wAndT, wOrT, wAnd, wOr, wTup, wFrz, few, unD, fIsi, asData, wChain, nth, fLen, asSeq, asLst, asTup, asDct, bIx, startE, List.map, List.replicate, List.length, List.set, wDropX, wCallX]
  exact ⟨d, m, rfl, rfl, hs, hm, hf, rfl, k⟩
abbrev st_held_so : Stmt := topS 61
abbrev scN_held_so : List Str := ["net", "pulls", "held", "table", "loose", "shaft", "rows", "fixed", "columns", "row", "at", "ends", "found", "lot", "back", "run", "one", "holds", "column", "part"]
theorem sc_held_so : FnScope scN_held_so ["net", "pulls", "held"] (defScope st_held_so) := ⟨rfl, rfl, rfl, by decide +kernel, rfl, by decide +kernel, by decide +kernel⟩
theorem okX_held_so {cl : Str → Addr} (XA : ExcAll K mg cl) (h : Has K mg "held_so" st_held_so ["net", "pulls", "held"]) (T : Blt mg) (cX_need_net : CalX P w K mg base 5 "need_net" ["net"] (spX_need_net cl)) : CalX P w K mg base 6 "held_so" ["net", "pulls", "held"] (spXD_held_so cl) := by
  refine mkX h sc_held_so (fun args own Q E z => lenXD_held_so z) (fun f cdv A outer s H E hr => (pps_cons (pp_exprX (pp_callX cX_need_net (L2N.takes_of rfl rfl rfl rfl) hr (by decide) rfl (ppa_cons (ppv 0) ppa_nil))) pps_never)) (fun args own Q E z => ?_)
  obtain ⟨d, m, rfl, rfl, hs, hm, hf, k⟩ := z
  show (wSeq _ _) _ ⟨[some (.d d), some (.d .non), some (.d .non), none, none, none, none, none, none, none, none, none, none, none, none, none, none, none, none, none], []⟩
  dsimp only [wSeq, wNext, wSet, wC, wArg, wCons, wNil, wVar, wUn, wBin, wTest, wIfE, wIf, wRet, wDrop, wPar, wPar3, wAsg, wNot, wNotT, wAndT, wOrT, wAnd, wOr, wTup, wFrz, few, unD, fIsi, asData, wChain, nth, fLen, asSeq, asLst, asTup, asDct, bIx, startE, List.map, List.replicate, List.length, List.set, wDropX, wCallX]
  exact ⟨d, m, rfl, rfl, hs, hm, (fun _ => ⟨rfl, k⟩), fun z => by rw [hf] at z; cases z⟩
abbrev st_fewest_held : Stmt := topS 65
abbrev scN_fewest_held : List Str := ["net", "found", "shaft"]
theorem sc_fewest_held : FnScope scN_fewest_held ["net"] (defScope st_fewest_held) := ⟨rfl, rfl, rfl, by decide +kernel, rfl, by decide +kernel, by decide +kernel⟩
theorem okX_fewest_held {cl : Str → Addr} (XA : ExcAll K mg cl) (h : Has K mg "fewest_held" st_fewest_held ["net"]) (T : Blt mg) (cX_need_net : CalX P w K mg base 5 "need_net" ["net"] (spX_need_net cl)) : CalX P w K mg base 6 "fewest_held" ["net"] (spXD_fewest_held cl) := by
  refine mkX h sc_fewest_held (fun args own Q E z => lenXD_fewest_held z) (fun f cdv A outer s H E hr => (pps_cons (pp_exprX (pp_callX cX_need_net (L2N.takes_of rfl rfl rfl rfl) hr (by decide) rfl (ppa_cons (ppv 0) ppa_nil))) pps_never)) (fun args own Q E z => ?_)
  obtain ⟨d, m, rfl, rfl, hs, hm, hf, k⟩ := z
  show (wSeq _ _) _ ⟨[some (.d d), none, none], []⟩
  dsimp only [wSeq, wNext, wSet, wC, wArg, wCons, wNil, wVar, wUn, wBin, wTest, wIfE, wIf, wRet, wDrop, wPar, wPar3, wAsg, wNot, wNotT, wAndT, wOrT, wAnd, wOr, wTup, wFrz, few, unD, fIsi, asData, wChain, nth, fLen, asSeq, asLst, asTup, asDct, bIx, startE, List.map, List.replicate, List.length, List.set, wDropX, wCallX]
  exact ⟨d, m, rfl, rfl, hs, hm, (fun _ => ⟨rfl, k⟩), fun z => by rw [hf] at z; cases z⟩
abbrev st_at_will : Stmt := topS 66
abbrev scN_at_will : List Str := ["net", "shafts"]
theorem sc_at_will : FnScope scN_at_will ["net", "shafts"] (defScope st_at_will) := ⟨rfl, rfl, rfl, by decide +kernel, rfl, by decide +kernel, by decide +kernel⟩
theorem okX_at_will {cl : Str → Addr} (XA : ExcAll K mg cl) (h : Has K mg "at_will" st_at_will ["net", "shafts"]) (T : Blt mg) (cX_need_net : CalX P w K mg base 5 "need_net" ["net"] (spX_need_net cl)) : CalX P w K mg base 6 "at_will" ["net", "shafts"] (spXD_at_will cl) := by
  refine mkX h sc_at_will (fun args own Q E z => lenXD_at_will z) (fun f cdv A outer s H E hr => (pps_cons (pp_exprX (pp_callX cX_need_net (L2N.takes_of rfl rfl rfl rfl) hr (by decide) rfl (ppa_cons (ppv 0) ppa_nil))) pps_never)) (fun args own Q E z => ?_)
  obtain ⟨d, m, rfl, rfl, hs, hm, hf, k⟩ := z
  show (wSeq _ _) _ ⟨[some (.d d), some (.d .non)], []⟩
  dsimp only [wSeq, wNext, wSet, wC, wArg, wCons, wNil, wVar, wUn, wBin, wTest, wIfE, wIf, wRet, wDrop, wPar, wPar3, wAsg, wNot, wNotT, wAndT, wOrT, wAnd, wOr, wTup, wFrz, few, unD, fIsi, asData, wChain, nth, fLen, asSeq, asLst, asTup, asDct, bIx, startE, List.map, List.replicate, List.length, List.set, wDropX, wCallX]
  exact ⟨d, m, rfl, rfl, hs, hm, (fun _ => ⟨rfl, k⟩), fun z => by rw [hf] at z; cases z⟩
abbrev st_parting : Stmt := topS 70
abbrev scN_parting : List Str := ["one", "other", "outside", "first", "second", "lot", "beside", "some"]
theorem sc_parting : FnScope scN_parting ["one", "other", "outside"] (defScope st_parting) := ⟨rfl, rfl, rfl, by decide +kernel, rfl, by decide +kernel, by decide +kernel⟩
theorem okX_parting {cl : Str → Addr} (XA : ExcAll K mg cl) (h : Has K mg "parting" st_parting ["one", "other", "outside"]) (T : Blt mg) (cX_need_net : CalX P w K mg base 5 "need_net" ["net"] (spX_need_net cl)) : CalX P w K mg base 6 "parting" ["one", "other", "outside"] (spXD_parting cl) := by
  refine mkX h sc_parting (fun args own Q E z => lenXD_parting z) (fun f cdv A outer s H E hr => (pps_cons (pp_exprX (pp_callX cX_need_net (L2N.takes_of rfl rfl rfl rfl) hr (by decide) rfl (ppa_cons (ppv 0) ppa_nil))) pps_never)) (fun args own Q E z => ?_)
  obtain ⟨d, m, rfl, rfl, hs, hm, hf, k⟩ := z
  show (wSeq _ _) _ ⟨[some (.d d), some (.d .non), some (.d .non), none, none, none, none, none], []⟩
  dsimp only [wSeq, wNext, wSet, wC, wArg, wCons, wNil, wVar, wUn, wBin, wTest, wIfE, wIf, wRet, wDrop, wPar, wPar3, wAsg, wNot, wNotT, wAndT, wOrT, wAnd, wOr, wTup, wFrz, few, unD, fIsi, asData, wChain, nth, fLen, asSeq, asLst, asTup, asDct, bIx, startE, List.map, List.replicate, List.length, List.set, wDropX, wCallX]
  exact ⟨d, m, rfl, rfl, hs, hm, (fun _ => ⟨rfl, k⟩), fun z => by rw [hf] at z; cases z⟩
end
end Bx
end

section
namespace Bx
open PySem L2 PySem.Spec PyProof.Rows
section
variable {P : Program} {w : World} {K : PySem.W.Frag} {mg : Str → Option Value} {base : Heap}
abbrev st__law_kinds : Stmt := topS 78
abbrev scN__law_kinds : List Str := ["e", "some", "words", "word", "good"]
theorem sc__law_kinds : FnScope scN__law_kinds ["e"] (defScope st__law_kinds) := ⟨rfl, rfl, rfl, by decide +kernel, rfl, by decide +kernel, by decide +kernel⟩
theorem ok__law_kinds {cl : Str → Addr} (XA : ExcAll K mg cl) (h : Has K mg "_law_kinds" st__law_kinds ["e"]) (T : Blt mg) {n : Str} (hn : n ∈ exNames) : CalE P w K mg base 1 "_law_kinds" ["e"] (cl n) (sp__law_kinds (wordOf n)) := by
  have XC := (XA.one n hn).c
  refine mkH h sc__law_kinds (fun a args own Q E z => len__law_kinds z) (fun a oe f cdv A outer s H hot hz hr => (pps_cons (pp_set (i := 1) sc__law_kinds.nd rfl (Or.inl rfl) (pp_lst false (ppa_cons (pp_isH (List.mem_singleton_self _) XC hz (hot.2.imp fun _ h => h.1) T rfl (ppa_cons (ppv 0) (ppa_cons (pp_cls (x := "NoNet") (XA.nm "NoNet" (by decide)) rfl) ppa_nil))) (ppa_cons (pp_isH (List.mem_singleton_self _) XC hz (hot.2.imp fun _ h => h.1) T rfl (ppa_cons (ppv 0) (ppa_cons (pp_cls (x := "NoNumbers") (XA.nm "NoNumbers" (by decide)) rfl) ppa_nil))) (ppa_cons (pp_isH (List.mem_singleton_self _) XC hz (hot.2.imp fun _ h => h.1) T rfl (ppa_cons (ppv 0) (ppa_cons (pp_cls (x := "NoHands") (XA.nm "NoHands" (by decide)) rfl) ppa_nil))) (ppa_cons (pp_isH (List.mem_singleton_self _) XC hz (hot.2.imp fun _ h => h.1) T rfl (ppa_cons (ppv 0) (ppa_cons (pp_cls (x := "NoPulls") (XA.nm "NoPulls" (by decide)) rfl) ppa_nil))) ppa_nil))))))
      (pps_cons (pp_set (i := 1) sc__law_kinds.nd rfl (Or.inl rfl) (pp_add false (ppv 1) (pp_lst false (ppa_cons (pp_isH (List.mem_singleton_self _) XC hz (hot.2.imp fun _ h => h.1) T rfl (ppa_cons (ppv 0) (ppa_cons (pp_cls (x := "NoShafts") (XA.nm "NoShafts" (by decide)) rfl) ppa_nil))) (ppa_cons (pp_isH (List.mem_singleton_self _) XC hz (hot.2.imp fun _ h => h.1) T rfl (ppa_cons (ppv 0) (ppa_cons (pp_cls (x := "NoShaft") (XA.nm "NoShaft" (by decide)) rfl) ppa_nil))) (ppa_cons (pp_isH (List.mem_singleton_self _) XC hz (hot.2.imp fun _ h => h.1) T rfl (ppa_cons (ppv 0) (ppa_cons (pp_cls (x := "NoSpeed") (XA.nm "NoSpeed" (by decide)) rfl) ppa_nil))) (ppa_cons (pp_isH (List.mem_singleton_self _) XC hz (hot.2.imp fun _ h => h.1) T rfl (ppa_cons (ppv 0) (ppa_cons (pp_cls (x := "NoBox") (XA.nm "NoBox" (by decide)) rfl) ppa_nil))) ppa_nil)))))))
      (pps_cons (pp_set (i := 1) sc__law_kinds.nd rfl (Or.inl rfl) (pp_add false (ppv 1) (pp_lst false (ppa_cons (pp_isH (List.mem_singleton_self _) XC hz (hot.2.imp fun _ h => h.1) T rfl (ppa_cons (ppv 0) (ppa_cons (pp_cls (x := "NoPlace") (XA.nm "NoPlace" (by decide)) rfl) ppa_nil))) (ppa_cons (pp_isH (List.mem_singleton_self _) XC hz (hot.2.imp fun _ h => h.1) T rfl (ppa_cons (ppv 0) (ppa_cons (pp_cls (x := "NoHand") (XA.nm "NoHand" (by decide)) rfl) ppa_nil))) (ppa_cons (pp_isH (List.mem_singleton_self _) XC hz (hot.2.imp fun _ h => h.1) T rfl (ppa_cons (ppv 0) (ppa_cons (pp_cls (x := "Full") (XA.nm "Full" (by decide)) rfl) ppa_nil))) (ppa_cons (pp_isH (List.mem_singleton_self _) XC hz (hot.2.imp fun _ h => h.1) T rfl (ppa_cons (ppv 0) (ppa_cons (pp_cls (x := "Barred") (XA.nm "Barred" (by decide)) rfl) ppa_nil))) ppa_nil)))))))
      (pps_cons (pp_set (i := 1) sc__law_kinds.nd rfl (Or.inl rfl) (pp_add false (ppv 1) (pp_lst false (ppa_cons (pp_isH (List.mem_singleton_self _) XC hz (hot.2.imp fun _ h => h.1) T rfl (ppa_cons (ppv 0) (ppa_cons (pp_cls (x := "ShaftError") (XA.nm "ShaftError" (by decide)) rfl) ppa_nil))) (ppa_cons (pp_isH (List.mem_singleton_self _) XC hz (hot.2.imp fun _ h => h.1) T rfl (ppa_cons (ppv 0) (ppa_cons (pp_ty (T := "ValueError") rfl XA.ve (by decide +kernel)) ppa_nil))) ppa_nil)))))
      (pps_cons (pp_set (i := 2) sc__law_kinds.nd rfl (Or.inl rfl) pp_str)
      (pps_one (pp_ret (pp_lcE (hotx hot) false (.tup (.cons (.nm 3) (.cons (.nm 4) .nil))) sc__law_kinds.nd (ppe_zip T rfl (ppa_cons (pp_split (ppv 2) pp_str) (ppa_cons (ppv 1) ppa_nil))) (blkOk_by (own := [("word", 3), ("good", 4)]) (N := scN__law_kinds) (sc := defScope st__law_kinds) (by decide +kernel)) (by decide) (fun _ _ _ _ _ hb => by exact (pg_tupH0 hb (pgs_cons (pg_name (i := 3) sc__law_kinds.nd rfl (Or.inl rfl)) (pgs_cons (pg_name (i := 4) sc__law_kinds.nd rfl (Or.inl rfl)) pgs_nil)))) (fun _ _ _ _ _ => by exact (ppts_one (ppt_val (ppv 4)))) (fun _ _ _ _ _ => by exact (ppv 3))))))))))) (fun a args own Q E z => ?_)
  obtain ⟨rfl, rfl, k⟩ := z
  have kt : ∀ m : Str, m ∈ exAll → kitV K (cl n) (.ref (cl m)) = some (askedOf n m) := fun m hm => (XA.one n hn).kit m hm
  have kv : kitV K (cl n) (.ty "ValueError") = some true := (XA.one n hn).val
  have ke : kitV K (cl n) (.ref (cl "ShaftError")) = some true := by
    rw [kt "ShaftError" (by decide)]
    unfold askedOf
    rw [decide_eq_true (rfl : ("ShaftError" : Str) = "ShaftError"), Bool.or_true]
  dsimp only [wSeq, wNext, wSet, wC, wArg, wCons, wNil, wVar, wUn, wBin, wTest, wIfE, wIf, wRet, wDrop, wPar, wPar3, wAsg, wNot, wNotT, wAndT, wOrT, wAnd, wOr, wTup, wFrz, few, unD, fIsi, asData, wChain, nth, fLen, asSeq, asLst, asTup, asDct, bIx, startE, List.map, List.replicate, List.length, List.set, fIsE]
  refine ⟨rfl, _, kt "NoNet" (by decide), rfl, _, kt "NoNumbers" (by decide), rfl, _, kt "NoHands" (by decide), rfl, _, kt "NoPulls" (by decide), ?_⟩
  dsimp only [wSeq, wNext, wSet, wC, wArg, wCons, wNil, wVar, wUn, wBin, wTest, wIfE, wIf, wRet, wDrop, wPar, wPar3, wAsg, wNot, wNotT, wAndT, wOrT, wAnd, wOr, wTup, wFrz, few, unD, fIsi, asData, wChain, nth, fLen, asSeq, asLst, asTup, asDct, bIx, startE, List.map, List.replicate, List.length, List.set, wLst, fIsE, newO]
  refine ⟨rfl, _, kt "NoShafts" (by decide), rfl, _, kt "NoShaft" (by decide), rfl, _, kt "NoSpeed" (by decide), rfl, _, kt "NoBox" (by decide), ?_⟩
  dsimp only [wSeq, wNext, wSet, wC, wArg, wCons, wNil, wVar, wUn, wBin, wTest, wIfE, wIf, wRet, wDrop, wPar, wPar3, wAsg, wNot, wNotT, wAndT, wOrT, wAnd, wOr, wTup, wFrz, few, unD, fIsi, asData, wChain, nth, fLen, asSeq, asLst, asTup, asDct, bIx, startE, List.map, List.replicate, List.length, List.set, wLst, fIsE, newO, bAdd]
  refine ⟨by decide, ?_⟩
  refine ⟨rfl, _, kt "NoPlace" (by decide), rfl, _, kt "NoHand" (by decide), rfl, _, kt "Full" (by decide), rfl, _, kt "Barred" (by decide), ?_⟩
  dsimp only [wSeq, wNext, wSet, wC, wArg, wCons, wNil, wVar, wUn, wBin, wTest, wIfE, wIf, wRet, wDrop, wPar, wPar3, wAsg, wNot, wNotT, wAndT, wOrT, wAnd, wOr, wTup, wFrz, few, unD, fIsi, asData, wChain, nth, fLen, asSeq, asLst, asTup, asDct, bIx, startE, List.map, List.replicate, List.length, List.set, wLst, fIsE, newO, bAdd]
  refine ⟨by show (12 : Nat) ≤ sizeLine; decide, ?_⟩
  refine ⟨rfl, _, ke, rfl, _, kv, ?_⟩
  dsimp only [wSeq, wNext, wSet, wC, wArg, wCons, wNil, wVar, wUn, wBin, wTest, wIfE, wIf, wRet, wDrop, wPar, wPar3, wAsg, wNot, wNotT, wAndT, wOrT, wAnd, wOr, wTup, wFrz, few, unD, fIsi, asData, wChain, nth, fLen, asSeq, asLst, asTup, asDct, bIx, startE, List.map, List.replicate, List.length, List.set, wLst, fIsE, newO, bAdd]
  refine ⟨by show (14 : Nat) ≤ sizeLine; decide, ?_⟩
  have hw : (Txt.split (Str.ofString "net numbers hands pulls shafts shaft speed box place hand full barred own value") (Str.ofString " ")) = exWords ++ [("own" : Str), "value"] := by decide +kernel
  have hz : zipD ((exWords ++ [("own" : Str), "value"]).map D.str) (((exNames.map (askedOf n)) ++ [true, true]).map D.bl) = ((exWords ++ [("own" : Str), "value"]).zip ((exNames.map (askedOf n)) ++ [true, true])).map fun p : Str × Bool => .tup [.str p.1, .bl p.2] := rfl
  refine wLc_filter (items := ((exWords ++ [("own" : Str), "value"]).zip ((exNames.map (askedOf n)) ++ [true, true])).map fun p : Str × Bool => .tup [.str p.1, .bl p.2])
    (s0 := ⟨[some (.d (.raw (.ref a))), some (.d (.lst (((exNames.map (askedOf n)) ++ [true, true]).map D.bl))), some (.d (.str "net numbers hands pulls shafts shaft speed box place hand full barred own value")), none, none], []⟩)
    ((exWords ++ [("own" : Str), "value"]).zip ((exNames.map (askedOf n)) ++ [true, true])) (fun p : Str × Bool => .tup [.str p.1, .bl p.2]) (fun p => p.2) (fun p => .str p.1) (fun R h => ?_) rfl ?_ ?_
  · show (((_ == 0) = false ∧ _ ∧ _) ∧ R (zipD ((Txt.split _ _).map D.str) _) _)
    rw [hw]
    exact ⟨⟨by decide, by decide, by decide⟩, h⟩
  · rw [kinds_eq n hn]
    exact k
  · intro p hp A F hA hF
    obtain ⟨x, b⟩ := p
    cases b
    · exact hF rfl
    · exact hA rfl
abbrev st__law_refusal : Stmt := topS 79
abbrev scN__law_refusal : List Str := ["e", "kinds"]
theorem sc__law_refusal : FnScope scN__law_refusal ["e"] (defScope st__law_refusal) := ⟨rfl, rfl, rfl, by decide +kernel, rfl, by decide +kernel, by decide +kernel⟩
theorem ok__law_refusal {cl : Str → Addr} (XA : ExcAll K mg cl) (h : Has K mg "_law_refusal" st__law_refusal ["e"]) (T : Blt mg) {C : Addr} {wd : Str} (c__law_kinds : CalE P w K mg base 1 "_law_kinds" ["e"] C (sp__law_kinds wd)) : CalE P w K mg base 2 "_law_refusal" ["e"] C (sp__law_refusal wd) := by
  refine mkH h sc__law_refusal (fun a args own Q E z => len__law_refusal z) (fun a oe f cdv A outer s H hot hz hr => (pps_cons (pp_set (i := 1) sc__law_refusal.nd rfl (Or.inl rfl) (pp_callH c__law_kinds hr (by decide) hot hz (List.mem_singleton_self _) rfl (ppa_cons (ppv 0) ppa_nil)))
      (pps_one (pp_ret (pp_ifExp (ppt_eqU (RoomH.u64 hr) (pp_slice false (ppv 1) (ppo_some pp_int) ppo_none) (pp_lst false (ppa_cons pp_str (ppa_cons pp_str ppa_nil)))) (pp_ixA (ppv 1) pp_int) pp_str))))) (fun a args own Q E z => ?_)
  obtain ⟨rfl, rfl, k⟩ := z
  show (wSeq _ _) _ ⟨[some (.d (.raw (.ref a))), none], []⟩
  have hc : cutD [D.str wd, .str "own", .str "value"] (some 1) none = [.str "own", .str "value"] := rfl
  dsimp only [wSeq, wNext, wSet, wC, wArg, wCons, wNil, wVar, wUn, wBin, wTest, wIfE, wIf, wRet, wDrop, wPar, wPar3, wAsg, wNot, wNotT, wAndT, wOrT, wAnd, wOr, wTup, wFrz, few, unD, fIsi, asData, wChain, nth, fLen, asSeq, asLst, asTup, asDct, bIx, startE, List.map, List.replicate, List.length, List.set]
  refine ⟨rfl, rfl, ?_⟩
  dsimp only [wSeq, wNext, wSet, wC, wArg, wCons, wNil, wVar, wUn, wBin, wTest, wIfE, wIf, wRet, wDrop, wPar, wPar3, wAsg, wNot, wNotT, wAndT, wOrT, wAnd, wOr, wTup, wFrz, few, unD, fIsi, asData, wChain, nth, fLen, asSeq, asLst, asTup, asDct, bIx, startE, List.map, List.replicate, List.length, List.set, backW, lenIs, putA, wSl, wPart, wNoPart, wLst, newO]
  rw [hc]
  dsimp only [cEq, cEqB, asData]
  have hd : deq (.lst [.str "own", .str "value"]) (.lst [.str "own", .str "value"]) = true := by decide +kernel
  rw [hd]
  exact ⟨⟨by decide +kernel, by decide +kernel⟩, k⟩
end
end Bx
end

section
namespace Bx
open PySem L2 PySem.Spec PyProof.Rows
section
variable {P : Program} {w : World} {K : PySem.W.Frag} {mg : Str → Option Value} {base : Heap}
abbrev st__law_word : Stmt := topS 86
abbrev scN__law_word : List Str := ["way", "thing", "e"]
theorem sc__law_word : FnScope scN__law_word ["way", "thing"] (defScope st__law_word) := ⟨rfl, rfl, rfl, by decide +kernel, rfl, by decide +kernel, by decide +kernel⟩
theorem ok__law_word {cl : Str → Addr} (XA : ExcAll K mg cl) (h : Has K mg "_law_word" st__law_word ["way", "thing"]) (T : Blt mg) (cX_turned : CalX P w K mg base 7 "turned" ["net", "hands"] (spXD_turned cl)) (cX_sum_of : CalX P w K mg base 6 "sum_of" ["net", "numbers"] (spXD_sum_of cl)) (cX_is_turning : CalX P w K mg base 6 "is_turning" ["net", "thing"] (spXD_is_turning cl)) (cX_two_ways : CalX P w K mg base 7 "two_ways" ["net", "hands", "shaft"] (spXD_two_ways cl)) (cX_reason : CalX P w K mg base 7 "reason" ["net", "hands", "shaft"] (spXD_reason cl)) (cX_bars : CalX P w K mg base 7 "bars" ["net", "hands", "thing"] (spXD_bars cl)) (cX_held_so : CalX P w K mg base 6 "held_so" ["net", "pulls", "held"] (spXD_held_so cl)) (cX_fewest_held : CalX P w K mg base 6 "fewest_held" ["net"] (spXD_fewest_held cl)) (cX_at_will : CalX P w K mg base 6 "at_will" ["net", "shafts"] (spXD_at_will cl)) (cX_parting : CalX P w K mg base 6 "parting" ["one", "other", "outside"] (spXD_parting cl)) (c__law_refusal : ∀ n ∈ exNames, CalE P w K mg base 2 "_law_refusal" ["e"] (cl n) (sp__law_refusal (wordOf n))) : Cal P w K mg base 8 "_law_word" ["way", "thing"] sp__law_word := by
  refine mkP h sc__law_word (fun args own Q E z => len__law_word z) (fun f cdv A outer s H E hr => (pps_cons (pp_try (word := wordC cl) rfl rfl sc__law_word.nd (i := 2) rfl rfl hr (by decide) rfl (XA.nm "ShaftError" (by decide)) (exm_of XA) (ref_of c__law_refusal) (fun W' pn xe tk => (pps_one (pp_if (ppt_lt (ppv 0) pp_int) (pps_one (pp_exprX (pp_callFX (P := P) (w := w) (K := K) (mg := mg) (base := base) (sp := spDoor 2 cl) (pp_ixA (pp_lst false (ppa_cons (pp_fn (k := 7) cX_is_turning (by decide)) (ppa_cons (pp_fn (k := 7) cX_sum_of (by decide)) (ppa_cons (pp_fn (k := 7) cX_turned (by decide)) ppa_nil)))) (ppv 0)) tk hr (ppa_cons (ppv 1) (ppa_cons pp_non ppa_nil))))) (pps_one (pp_if (ppt_lt (ppv 0) pp_int) (pps_one (pp_exprX (pp_callFX (P := P) (w := w) (K := K) (mg := mg) (base := base) (sp := spDoor 3 cl) (pp_ixA (pp_lst false (ppa_cons (pp_fn (k := 7) cX_bars (by decide)) (ppa_cons (pp_fn (k := 7) cX_reason (by decide)) (ppa_cons (pp_fn (k := 7) cX_two_ways (by decide)) ppa_nil)))) (pp_sub (ppv 0) pp_int)) tk hr (ppa_cons (ppv 1) (ppa_cons pp_non (ppa_cons pp_non ppa_nil)))))) (pps_one (pp_if (ppt_eq hr (ppv 0) pp_int) (pps_one (pp_exprX (pp_callX cX_held_so tk hr (by decide) rfl (ppa_cons (ppv 1) (ppa_cons pp_non (ppa_cons pp_non ppa_nil)))))) (pps_one (pp_if (ppt_eq hr (ppv 0) pp_int) (pps_one (pp_exprX (pp_callX cX_fewest_held tk hr (by decide) rfl (ppa_cons (ppv 1) ppa_nil)))) (pps_one (pp_if (ppt_eq hr (ppv 0) pp_int) (pps_one (pp_exprX (pp_callX cX_at_will tk hr (by decide) rfl (ppa_cons (ppv 1) (ppa_cons pp_non ppa_nil))))) (pps_one (pp_exprX (pp_callX cX_parting tk hr (by decide) rfl (ppa_cons (ppv 1) (ppa_cons pp_non (ppa_cons pp_non ppa_nil))))))))))))))))) rfl)
      (pps_one (pp_ret pp_str)))) (fun args own Q E z => ?_)
  obtain ⟨way, d, n, rfl, rfl, w0, w9, hs, hn, hf, k⟩ := z
  show (wSeq _ _) _ ⟨[some (.d (.int way)), some (.d d), none], []⟩
  have fin : ∃ w, wordC cl (cl "NoNet") = some w ∧ Q (.d (.str w)) [] := ⟨"net", wordC_of (K := K) (mg := mg) XA.nod (n := "NoNet") (by decide), k⟩
  rcases (by omega : way = 0 ∨ way = 1 ∨ way = 2 ∨ way = 3 ∨ way = 4 ∨ way = 5 ∨ way = 6 ∨ way = 7 ∨ way = 8 ∨ way = 9) with rfl | rfl | rfl | rfl | rfl | rfl | rfl | rfl | rfl | rfl
  all_goals dsimp only [wSeq, wNext, wSet, wC, wArg, wCons, wNil, wVar, wUn, wBin, wTest, wIfE, wIf, wRet, wDrop, wPar, wPar3, wAsg, wNot, wNotT, wAndT, wOrT, wAnd, wOr, wTup, wFrz, few, unD, fIsi, asData, wChain, nth, fLen, asSeq, asLst, asTup, asDct, bIx, startE, List.map, List.replicate, List.length, List.set, LcStep, lcStep, wipeE, dV, dRow, dT, dP, dN, Tg.w, Tgs.ws, lenIs, Tgs.len, fList, newO, cEq, cNe, cEqB, cLt, cLe, cGt, cGe, bInt0, bInt, bSub, cInQ, cInB, cInS, id, Bool.not, fBools, unB, wTry, wDropX, wCallX]
  all_goals simp only [Int.reduceLT, Int.reduceEq, Int.reduceSub, decide_true, decide_false, eq_self]
  all_goals try dsimp only [wSeq, wNext, wSet, wC, wArg, wCons, wNil, wVar, wUn, wBin, wTest, wIfE, wIf, wRet, wDrop, wPar, wPar3, wAsg, wNot, wNotT, wAndT, wOrT, wAnd, wOr, wTup, wFrz, few, unD, fIsi, asData, wChain, nth, fLen, asSeq, asLst, asTup, asDct, bIx, startE, List.map, List.replicate, List.length, List.set, LcStep, lcStep, wipeE, dV, dRow, dT, dP, dN, Tg.w, Tgs.ws, lenIs, Tgs.len, fList, newO, cEq, cNe, cEqB, cLt, cLe, cGt, cGe, bInt0, bInt, bSub, cInQ, cInB, cInS, id, Bool.not, fBools, unB, wTry, wDropX, wCallX, wCallFX, wFun, wLst, newO]
  · intro f1 h1 f2 h2 f3 h3; exact ⟨h1, d, n, rfl, rfl, hs, hn, hf, rfl, fin⟩
  · intro f1 h1 f2 h2 f3 h3; exact ⟨h2, d, n, rfl, rfl, hs, hn, hf, rfl, fin⟩
  · intro f1 h1 f2 h2 f3 h3; exact ⟨h3, d, n, rfl, rfl, hs, hn, hf, rfl, fin⟩
  · intro f1 h1 f2 h2 f3 h3; exact ⟨h1, d, n, rfl, rfl, hs, hn, hf, rfl, fin⟩
  · intro f1 h1 f2 h2 f3 h3; exact ⟨h2, d, n, rfl, rfl, hs, hn, hf, rfl, fin⟩
  · intro f1 h1 f2 h2 f3 h3; exact ⟨h3, d, n, rfl, rfl, hs, hn, hf, rfl, fin⟩
  · exact ⟨d, n, rfl, rfl, hs, hn, hf, rfl, fin⟩
  · exact ⟨d, n, rfl, rfl, hs, hn, hf, rfl, fin⟩
  · exact ⟨d, n, rfl, rfl, hs, hn, hf, rfl, fin⟩
  · exact ⟨d, n, rfl, rfl, hs, hn, hf, rfl, fin⟩
end
end Bx
end

section
namespace Bx
open PySem L2 PySem.Spec PyProof.Rows
section
variable {P : Program} {w : World} {K : PySem.W.Frag} {mg : Str → Option Value} {base : Heap}
abbrev st__law_well : Stmt := topS 72
abbrev scN__law_well : List Str := ["script", "k", "cell", "primes", "seed"]
theorem sc__law_well : FnScope scN__law_well ["script", "k"] (defScope st__law_well) := ⟨rfl, rfl, rfl, by decide +kernel, rfl, by decide +kernel, by decide +kernel⟩
theorem ok__law_well (h : Has K mg "_law_well" st__law_well ["script", "k"]) (T : Blt mg) : Cal P w K mg base 1 "_law_well" ["script", "k"] sp__law_well := by
  refine mkP h sc__law_well (fun args own Q E z => len__law_well z) (fun f cdv A outer s H E hr => (pps_cons (pp_set (i := 2) sc__law_well.nd rfl (Or.inl rfl) pp_int)
      (pps_cons (pp_if (ppt_lt (ppv 1) (pp_lenB T rfl (ppa_cons (ppv 0) ppa_nil))) (pps_one (pp_set (i := 2) sc__law_well.nd rfl (Or.inl rfl) (pp_ixA (ppv 0) (ppv 1)))) pps_nil)
      (pps_cons (pp_set (i := 3) sc__law_well.nd rfl (Or.inl rfl) (pp_lst false (ppa_cons pp_int (ppa_cons pp_int (ppa_cons pp_int (ppa_cons pp_int (ppa_cons pp_int (ppa_cons pp_int (ppa_cons pp_int (ppa_cons pp_int ppa_nil))))))))))
      (pps_cons (pp_set (i := 4) sc__law_well.nd rfl (Or.inl rfl) (pp_mod (pp_mul false (pp_add false (pp_mod (ppv 2) pp_int) pp_int) (pp_add false pp_int (pp_mul false pp_int (ppv 1)))) pp_int))
      (pps_cons (pp_set (i := 4) sc__law_well.nd rfl (Or.inl rfl) (pp_add false (pp_add false (pp_mod (pp_mul false (ppv 4) (ppv 4)) pp_int) (ppv 1)) pp_int))
      (pps_cons (pp_if (ppt_ge (ppv 2) (pp_pow pp_int pp_int)) (pps_one (pp_ret (pp_lst true (ppa_cons (ppv 2) (ppa_cons (ppv 4) (ppa_cons (pp_ixA (ppv 3) (pp_mod (ppv 1) pp_int)) ppa_nil)))))) pps_nil)
      (pps_one (pp_ret (pp_lst true (ppa_cons pp_int (ppa_cons (ppv 4) (ppa_cons (pp_ixA (ppv 3) (pp_mod (ppv 1) pp_int)) ppa_nil))))))))))))) (fun args own Q E z => ?_)
  obtain ⟨xs, k0, rfl, rfl, hk, hx, k⟩ := z
  show (wSeq _ _) _ ⟨[some (.d (dScr xs)), some (.d (dN k0)), none, none, none], []⟩
  try dsimp only [wSeq, wNext, wSet, wC, wArg, wCons, wNil, wVar, wUn, wBin, wTest, wIfE, wIf, wRet, wDrop, wPar, wPar3, wAsg, wNot, wNotT, wAndT, wOrT, wAnd, wOr, wTup, wFrz, few, unD, fIsi, asData, wChain, nth, fLen, asSeq, asLst, asTup, asDct, bIx, startE, List.map, List.replicate, List.length, List.set, LcStep, lcStep, wipeE, dV, dRow, dT, dP, dN, Tg.w, Tgs.ws, lenIs, Tgs.len, fList, newO, cEq, cNe, cEqB, cLt, cLe, cGt, cGe, bInt0, bInt, bSub, cInQ, cInB, cInS, id, Bool.not, fBools, unB, dScr]
  have main : ∀ x : Int, wSet 3 (wLst false (wCons (wC (.int 2147483647)) (wCons (wC (.int 2147483629)) (wCons (wC (.int 2147483587)) (wCons (wC (.int 2147483579)) (wCons (wC (.int 2147483563)) (wCons (wC (.int 2147483549)) (wCons (wC (.int 2147483543)) (wCons (wC (.int 2147483497)) wNil)))))))))
      { endsF 0 Q (fun _ _ => False) with nx := wSeq (wSet 4 (wBin bMod (wBin (bMul false) (wBin (bAdd false) (wBin bMod (wVar 2) (wC (.int 2147483489))) (wC (.int 1))) (wBin (bAdd false) (wC (.int 48271)) (wBin (bMul false) (wC (.int 2)) (wVar 1)))) (wC (.int 2147483489)))) (wSeq (wSet 4 (wBin (bAdd false) (wBin (bAdd false) (wBin bMod (wBin (bMul false) (wVar 4) (wVar 4)) (wC (.int 2147483477))) (wVar 1)) (wC (.int 1)))) (wSeq (wIf (wTest (wBin cGe (wVar 2) (wBin bPow (wC (.int 10)) (wC (.int 18))))) (wRet (wLst true (wCons (wVar 2) (wCons (wVar 4) (wCons (wBin bIx (wVar 3) (wBin bMod (wVar 1) (wC (.int 8)))) wNil))))) wNext) (wRet (wLst true (wCons (wC (.int 0)) (wCons (wVar 4) (wCons (wBin bIx (wVar 3) (wBin bMod (wVar 1) (wC (.int 8)))) wNil))))))) (endsF 0 Q fun _ _ => False) }
      ⟨[some (.d (dScr xs)), some (.d (dN k0)), some (.d (.int x)), none, none], []⟩ := fun x => by
    try dsimp only [wSeq, wNext, wSet, wC, wArg, wCons, wNil, wVar, wUn, wBin, wTest, wIfE, wIf, wRet, wDrop, wPar, wPar3, wAsg, wNot, wNotT, wAndT, wOrT, wAnd, wOr, wTup, wFrz, few, unD, fIsi, asData, wChain, nth, fLen, asSeq, asLst, asTup, asDct, bIx, startE, List.map, List.replicate, List.length, List.set, LcStep, lcStep, wipeE, dV, dRow, dT, dP, dN, Tg.w, Tgs.ws, lenIs, Tgs.len, fList, newO, cEq, cNe, cEqB, cLt, cLe, cGt, cGe, bInt0, bInt, bSub, cInQ, cInB, cInS, id, Bool.not, fBools, unB, bMod, bMul, bFDiv, bPow, bAdd, bSub, bInt, bInt0, uNeg, wLst, newO]
    obtain ⟨a1, a2⟩ := @fm x 2147483489 (by decide)
    refine ⟨by decide, mw (by decide) (by decide) (by omega) (by omega), mw (by omega) (by omega) (by omega) (by omega), by decide, ?_⟩
    generalize hs : ((x.fmod 2147483489 + 1) * (48271 + 2 * (k0 : Int))).fmod 2147483489 = sd
    obtain ⟨b1, b2⟩ := @fm ((x.fmod 2147483489 + 1) * (48271 + 2 * (k0 : Int))) 2147483489 (by decide)
    rw [hs] at b1 b2
    refine ⟨mw (by omega) (by omega) (by omega) (by omega), by decide, ?_⟩
    obtain ⟨c1, c2⟩ := @fm (sd * sd) 2147483477 (by decide)
    refine ⟨⟨by decide, by decide, by decide⟩, ?_⟩
    obtain ⟨i, hi, hp⟩ : ∃ i : Nat, (k0 : Int).fmod 8 = (i : Int) ∧ i < 8 := by
      obtain ⟨d1, d2⟩ := @fm (k0 : Int) 8 (by decide)
      exact ⟨((k0 : Int).fmod 8).toNat, by omega, by omega⟩
    have hg : ∃ p : Int, getI [D.int 2147483647, D.int 2147483629, D.int 2147483587, D.int 2147483579, D.int 2147483563, D.int 2147483549, D.int 2147483543, D.int 2147483497] ((k0 : Int).fmod 8) = some (.int p) ∧ 0 < p ∧ p < 2 ^ 32 := by
      rw [hi, getI_nat]
      rcases i with _ | _ | _ | _ | _ | _ | _ | _ | i
      all_goals first
        | exact ⟨_, rfl, by decide, by decide⟩
        | omega
    obtain ⟨p, hg, p1, p2⟩ := hg
    by_cases hc : (10 : Int) ^ (18 : Int).toNat ≤ x
    · rw [decide_eq_true hc]
      refine ⟨by decide, ?_⟩
      try dsimp only [wSeq, wNext, wSet, wC, wArg, wCons, wNil, wVar, wUn, wBin, wTest, wIfE, wIf, wRet, wDrop, wPar, wPar3, wAsg, wNot, wNotT, wAndT, wOrT, wAnd, wOr, wTup, wFrz, few, unD, fIsi, asData, wChain, nth, fLen, asSeq, asLst, asTup, asDct, bIx, startE, List.map, List.replicate, List.length, List.set, LcStep, lcStep, wipeE, dV, dRow, dT, dP, dN, Tg.w, Tgs.ws, lenIs, Tgs.len, fList, newO, cEq, cNe, cEqB, cLt, cLe, cGt, cGe, bInt0, bInt, bSub, cInQ, cInB, cInS, id, Bool.not, fBools, unB, bMod, bMul, bFDiv, bPow, bAdd, bSub, bInt, bInt0, uNeg, wLst, newO]
      rw [hg]
      exact .inr (k x _ p ⟨by have : (0 : Int) ≤ (10 : Int) ^ (18 : Int).toNat := by decide
                              omega, by omega, by omega, p1, p2⟩)
    · rw [decide_eq_false hc]
      refine ⟨by decide, ?_⟩
      try dsimp only [wSeq, wNext, wSet, wC, wArg, wCons, wNil, wVar, wUn, wBin, wTest, wIfE, wIf, wRet, wDrop, wPar, wPar3, wAsg, wNot, wNotT, wAndT, wOrT, wAnd, wOr, wTup, wFrz, few, unD, fIsi, asData, wChain, nth, fLen, asSeq, asLst, asTup, asDct, bIx, startE, List.map, List.replicate, List.length, List.set, LcStep, lcStep, wipeE, dV, dRow, dT, dP, dN, Tg.w, Tgs.ws, lenIs, Tgs.len, fList, newO, cEq, cNe, cEqB, cLt, cLe, cGt, cGe, bInt0, bInt, bSub, cInQ, cInB, cInS, id, Bool.not, fBools, unB, bMod, bMul, bFDiv, bPow, bAdd, bSub, bInt, bInt0, uNeg, wLst, newO]
      rw [hg]
      exact .inr (k 0 _ p ⟨by decide, by omega, by omega, p1, p2⟩)
  by_cases h : k0 < xs.length
  · rw [decide_eq_true (by rw [List.length_map]; omega)]
    try dsimp only
    rw [getI_nat, List.getElem?_map, List.getElem?_eq_getElem h]
    exact main _
  · rw [decide_eq_false (by rw [List.length_map]; omega)]
    exact main 0
abbrev st__law_take : Stmt := topS 73
abbrev scN__law_take : List Str := ["well", "many", "drew"]
theorem sc__law_take : FnScope scN__law_take ["well", "many"] (defScope st__law_take) := ⟨rfl, rfl, rfl, by decide +kernel, rfl, by decide +kernel, by decide +kernel⟩
theorem ok__law_take (h : Has K mg "_law_take" st__law_take ["well", "many"]) (T : Blt mg) : Cal P w K mg base 1 "_law_take" ["well", "many"] sp__law_take := by
  refine mkP h sc__law_take (fun args own Q E z => len__law_take z) (fun f cdv A outer s H E hr => (pps_cons (pp_if (ppt_gt (pp_ixA (ppv 0) pp_int) pp_int) (pps_cons (pp_set (i := 2) sc__law_take.nd rfl (Or.inl rfl) (pp_mod (pp_ixA (ppv 0) pp_int) (ppv 1)))
      (pps_cons (pp_asg (pp_fdiv (pp_ixA (ppv 0) pp_int) (ppv 1)) (ppg_sub (ppv 0) pp_int))
      (pps_one (pp_ret (ppv 2))))) pps_nil)
      (pps_cons (pp_asg (pp_add false (pp_mod (pp_mul false (pp_ixA (ppv 0) pp_int) pp_int) (pp_ixA (ppv 0) pp_int)) pp_int) (ppg_sub (ppv 0) pp_int))
      (pps_one (pp_ret (pp_mod (pp_fdiv (pp_mod (pp_mul false (pp_ixA (ppv 0) pp_int) (pp_ixA (ppv 0) pp_int)) pp_int) pp_int) (ppv 1))))))) (fun args own Q E z => ?_)
  obtain ⟨a, b, c, many, rfl, rfl, ⟨ha, hb, hb2, hc, hc2⟩, h1, h2, k⟩ := z
  show (wSeq _ _) _ ⟨[some (.loc 0), some (.d (.int many)), none], [some (dWell a b c)]⟩
  try dsimp only [wSeq, wNext, wSet, wC, wArg, wCons, wNil, wVar, wUn, wBin, wTest, wIfE, wIf, wRet, wDrop, wPar, wPar3, wAsg, wNot, wNotT, wAndT, wOrT, wAnd, wOr, wTup, wFrz, few, unD, fIsi, asData, wChain, nth, fLen, asSeq, asLst, asTup, asDct, bIx, startE, List.map, List.replicate, List.length, List.set, LcStep, lcStep, wipeE, dV, dRow, dT, dP, dN, Tg.w, Tgs.ws, lenIs, Tgs.len, fList, newO, cEq, cNe, cEqB, cLt, cLe, cGt, cGe, bInt0, bInt, bSub, cInQ, cInB, cInS, id, Bool.not, fBools, unB, dWell]
  have g0 : ∀ x y z : D, getI [x, y, z] 0 = some x := fun _ _ _ => rfl
  have g1 : ∀ x y z : D, getI [x, y, z] 1 = some y := fun _ _ _ => rfl
  have g2 : ∀ x y z : D, getI [x, y, z] 2 = some z := fun _ _ _ => rfl
  have i0 : ixD 3 0 = some 0 := rfl
  have i1 : ixD 3 1 = some 1 := rfl
  rw [g0]
  try dsimp only
  by_cases h : 0 < a
  · rw [decide_eq_true h]
    try dsimp only [wSeq, wNext, wSet, wC, wArg, wCons, wNil, wVar, wUn, wBin, wTest, wIfE, wIf, wRet, wDrop, wPar, wPar3, wAsg, wNot, wNotT, wAndT, wOrT, wAnd, wOr, wTup, wFrz, few, unD, fIsi, asData, wChain, nth, fLen, asSeq, asLst, asTup, asDct, bIx, startE, List.map, List.replicate, List.length, List.set, LcStep, lcStep, wipeE, dV, dRow, dT, dP, dN, Tg.w, Tgs.ws, lenIs, Tgs.len, fList, newO, bMod, bMul, bFDiv, bPow, bAdd, bSub, bInt, bInt0, uNeg]
    obtain ⟨m1, m2⟩ := @fm a many (by omega)
    refine ⟨by omega, ?_⟩
    try dsimp only [wSeq, wNext, wSet, wC, wArg, wCons, wNil, wVar, wUn, wBin, wTest, wIfE, wIf, wRet, wDrop, wPar, wPar3, wAsg, wNot, wNotT, wAndT, wOrT, wAnd, wOr, wTup, wFrz, few, unD, fIsi, asData, wChain, nth, fLen, asSeq, asLst, asTup, asDct, bIx, startE, List.map, List.replicate, List.length, List.set, LcStep, lcStep, wipeE, dV, dRow, dT, dP, dN, Tg.w, Tgs.ws, lenIs, Tgs.len, fList, newO, bMod, bMul, bFDiv, bPow, bAdd, bSub, bInt, bInt0, uNeg]
    rw [g0]
    try dsimp only
    refine ⟨dv (by omega) (by omega), ?_⟩
    try dsimp only [wSeq, wNext, wSet, wC, wArg, wCons, wNil, wVar, wUn, wBin, wTest, wIfE, wIf, wRet, wDrop, wPar, wPar3, wAsg, wNot, wNotT, wAndT, wOrT, wAnd, wOr, wTup, wFrz, few, unD, fIsi, asData, wChain, nth, fLen, asSeq, asLst, asTup, asDct, bIx, startE, List.map, List.replicate, List.length, List.set, LcStep, lcStep, wipeE, dV, dRow, dT, dP, dN, Tg.w, Tgs.ws, lenIs, Tgs.len, fList, newO, wGT, wGs, wSub, sL, ownL, valsD, setO, mApp, wMt]
    rw [show ixD (0 + 1 + 1 + 1) 0 = some 0 from rfl]
    try dsimp only [wSeq, wNext, wSet, wC, wArg, wCons, wNil, wVar, wUn, wBin, wTest, wIfE, wIf, wRet, wDrop, wPar, wPar3, wAsg, wNot, wNotT, wAndT, wOrT, wAnd, wOr, wTup, wFrz, few, unD, fIsi, asData, wChain, nth, fLen, asSeq, asLst, asTup, asDct, bIx, startE, List.map, List.replicate, List.length, List.set]
    exact k _ _ _ m1 m2 ⟨fdv (by omega) ha, hb, hb2, hc, hc2⟩
  · rw [decide_eq_false h]
    try dsimp only [wSeq, wNext, wSet, wC, wArg, wCons, wNil, wVar, wUn, wBin, wTest, wIfE, wIf, wRet, wDrop, wPar, wPar3, wAsg, wNot, wNotT, wAndT, wOrT, wAnd, wOr, wTup, wFrz, few, unD, fIsi, asData, wChain, nth, fLen, asSeq, asLst, asTup, asDct, bIx, startE, List.map, List.replicate, List.length, List.set, LcStep, lcStep, wipeE, dV, dRow, dT, dP, dN, Tg.w, Tgs.ws, lenIs, Tgs.len, fList, newO, bMod, bMul, bFDiv, bPow, bAdd, bSub, bInt, bInt0, uNeg]
    rw [g1]
    try dsimp only
    refine ⟨mw hb (by omega) (by omega) (by omega), ?_⟩
    try dsimp only [wSeq, wNext, wSet, wC, wArg, wCons, wNil, wVar, wUn, wBin, wTest, wIfE, wIf, wRet, wDrop, wPar, wPar3, wAsg, wNot, wNotT, wAndT, wOrT, wAnd, wOr, wTup, wFrz, few, unD, fIsi, asData, wChain, nth, fLen, asSeq, asLst, asTup, asDct, bIx, startE, List.map, List.replicate, List.length, List.set, LcStep, lcStep, wipeE, dV, dRow, dT, dP, dN, Tg.w, Tgs.ws, lenIs, Tgs.len, fList, newO, bMod, bMul, bFDiv, bPow, bAdd, bSub, bInt, bInt0, uNeg]
    rw [g2]
    try dsimp only
    obtain ⟨m1, m2⟩ := @fm (b * 48271) c hc
    refine ⟨by omega, ?_⟩
    try dsimp only [wSeq, wNext, wSet, wC, wArg, wCons, wNil, wVar, wUn, wBin, wTest, wIfE, wIf, wRet, wDrop, wPar, wPar3, wAsg, wNot, wNotT, wAndT, wOrT, wAnd, wOr, wTup, wFrz, few, unD, fIsi, asData, wChain, nth, fLen, asSeq, asLst, asTup, asDct, bIx, startE, List.map, List.replicate, List.length, List.set, LcStep, lcStep, wipeE, dV, dRow, dT, dP, dN, Tg.w, Tgs.ws, lenIs, Tgs.len, fList, newO, bMod, bMul, bFDiv, bPow, bAdd, bSub, bInt, bInt0, uNeg, wGT, wGs, wSub, sL, ownL, valsD, setO, mApp, wMt]
    rw [show ixD (0 + 1 + 1 + 1) 1 = some 1 from rfl]
    try dsimp only [wSeq, wNext, wSet, wC, wArg, wCons, wNil, wVar, wUn, wBin, wTest, wIfE, wIf, wRet, wDrop, wPar, wPar3, wAsg, wNot, wNotT, wAndT, wOrT, wAnd, wOr, wTup, wFrz, few, unD, fIsi, asData, wChain, nth, fLen, asSeq, asLst, asTup, asDct, bIx, startE, List.map, List.replicate, List.length, List.set, bMod, bMul, bFDiv, bPow, bAdd, bSub, bInt, bInt0, uNeg]
    rw [g1]
    try dsimp only
    obtain ⟨p1, p2⟩ := @fm ((((b * 48271).fmod c + 1) * ((b * 48271).fmod c + 1)).fmod 2147483423) 7 (by decide)
    obtain ⟨n1, n2⟩ := @fm (((((b * 48271).fmod c + 1) * ((b * 48271).fmod c + 1)).fmod 2147483423).fdiv 7) many (by omega)
    exact ⟨mw (by omega) (by omega) (by omega) (by omega), by decide, dv (by decide) (by decide), by omega, k _ _ _ n1 n2 ⟨ha, by omega, by omega, hc, hc2⟩⟩
abbrev st__law_box : Stmt := topS 80
abbrev scN__law_box : List Str := ["well", "shafts", "run", "left", "chosen", "turn", "some", "box", "shaft", "number"]
theorem sc__law_box : FnScope scN__law_box ["well", "shafts", "run"] (defScope st__law_box) := ⟨rfl, rfl, rfl, by decide +kernel, rfl, by decide +kernel, by decide +kernel⟩
theorem ok__law_box (h : Has K mg "_law_box" st__law_box ["well", "shafts", "run"]) (T : Blt mg) (c__law_take : Cal P w K mg base 1 "_law_take" ["well", "many"] sp__law_take) : Cal P w K mg base 2 "_law_box" ["well", "shafts", "run"] sp__law_box := by
  refine mkP h sc__law_box (fun args own Q E z => len__law_box z) (fun f cdv A outer s H E hr => (pps_cons (pp_par (i := 3) (j := 4) rfl sc__law_box.nd rfl rfl (by decide) rfl rfl (ppa_cons (pp_listB true T rfl (ppa_cons (ppv 1) ppa_nil)) (ppa_cons (pp_lst true ppa_nil) ppa_nil)) (by rfl))
      (pps_cons (pp_for PassesOwn.never rfl (ppi_rng1 rfl T.range (ppa_cons (pp_min2B T rfl rfl (ppa_cons (pp_lenB T rfl (ppa_cons (ppv 3) ppa_nil)) (ppa_cons (pp_add false pp_int (pp_callC c__law_take hr (by decide) rfl (ppa_cons (ppv 0) (ppa_cons pp_int ppa_nil)))) ppa_nil))) ppa_nil)) (ppg_tg (.nm 5) (pg_name (i := 5) sc__law_box.nd rfl (Or.inl rfl))) (pps_one (pp_expr (pp_app (ppv 4) (ppa_cons (pp_pop (ppv 3) (ppa_cons (pp_callC c__law_take hr (by decide) rfl (ppa_cons (ppv 0) (ppa_cons (pp_lenB T rfl (ppa_cons (ppv 3) ppa_nil)) ppa_nil))) ppa_nil)) ppa_nil)))))
      (pps_cons (pp_set (i := 4) sc__law_box.nd rfl (Or.inl rfl) (pp_sortedSB false T rfl (ppa_cons (ppv 4) ppa_nil)))
      (pps_cons (pp_for PassesOwn.never rfl (ppi_rng1 rfl T.range (ppa_cons pp_int ppa_nil)) (ppg_tg (.nm 5) (pg_name (i := 5) sc__law_box.nd rfl (Or.inl rfl))) (pps_cons (pp_set (i := 6) sc__law_box.nd rfl (Or.inr rfl) (pp_lst false (ppa_cons pp_int (ppa_cons (pp_neg pp_int) (ppa_cons pp_int (ppa_cons (pp_neg pp_int) (ppa_cons pp_int (ppa_cons pp_int (ppa_cons (pp_neg pp_int) (ppa_cons pp_int (ppa_cons (pp_add false (pp_callC c__law_take hr (by decide) rfl (ppa_cons (ppv 0) (ppa_cons pp_int ppa_nil))) pp_int) ppa_nil)))))))))))
      (pps_cons (pp_set (i := 7) sc__law_box.nd rfl (Or.inl rfl) (pp_tupleB T rfl (ppa_cons (pp_lc false (.nm 8) rfl sc__law_box.nd (ppi_seq (ppz 4)) (blkOk_by (own := [("shaft", 8)]) (N := scN__law_box) (sc := defScope st__law_box) (by decide +kernel)) (by decide) (fun _ _ _ _ _ => by exact (pg_name (i := 8) sc__law_box.nd rfl (Or.inl rfl))) (fun _ _ _ _ _ => by exact ppts_nil) (fun _ _ _ _ _ => by exact (pp_tup (ppa_cons (ppv 8) (ppa_cons (pp_ixA (ppv 6) (pp_callC c__law_take hr (by decide) rfl (ppa_cons (ppv 0) (ppa_cons pp_int ppa_nil)))) ppa_nil))))) ppa_nil)))
      (pps_one (pp_if (ppt_eq hr (pp_sumB T rfl rfl (ppa_cons (pp_lc false (.tup (.cons (.nm 8) (.cons (.nm 9) .nil))) rfl sc__law_box.nd (ppi_seq (ppv 7)) (blkOk_by (own := [("shaft", 8), ("number", 9)]) (N := scN__law_box) (sc := defScope st__law_box) (by decide +kernel)) (by decide) (fun _ _ _ _ _ => by exact (pg_tup rfl (pgs_cons (pg_name (i := 8) sc__law_box.nd rfl (Or.inl rfl)) (pgs_cons (pg_name (i := 9) sc__law_box.nd rfl (Or.inl rfl)) pgs_nil)))) (fun _ _ _ _ _ => by exact ppts_nil) (fun _ _ _ _ _ => by exact (pp_mul false (ppv 9) (pp_dget (hu_of hr) (ppv 2) (ppv 8))))) ppa_nil)) pp_int) (pps_one (pp_ret (ppv 7))) pps_nil)))))
      (pps_one (pp_ret (ppv 7)))))))) (fun args own Q E z => ?_)
  obtain ⟨a, b, c, ss, run, rfl, rfl, hw, hS, hR, k⟩ := z
  show (wSeq _ _) _ ⟨[some (.loc 0), some (.d (.tup (ss.map dS))), some (.d (.dct run)), none, none, none, none, none, none, none], [some (dWell a b c)]⟩
  dsimp only [wSeq, wNext, wSet, wC, wArg, wCons, wNil, wVar, wUn, wBin, wTest, wIfE, wIf, wRet, wDrop, wPar, wPar3, wAsg, wNot, wNotT, wAndT, wOrT, wAnd, wOr, wTup, wFrz, few, unD, fIsi, asData, wChain, nth, fLen, asSeq, asLst, asTup, asDct, bIx, startE, List.map, List.replicate, List.length, List.set, LcStep, lcStep, wipeE, dV, dRow, dT, dP, dN, Tg.w, Tgs.ws, lenIs, Tgs.len, fList, newO, wLst, newO]
  have h2 := hS.two
  have h8 := hS.len
  refine wFor_then (fun items s0 => ∃ (n : Nat) (a1 b1 : Int), items = intsD 0 n ∧ (n = 2 ∨ n = 3) ∧ n ≤ ss.length ∧ WellOk a1 b1 c ∧
    s0 = ⟨[some (.loc 0), some (.d (.tup (ss.map dS))), some (.d (.dct run)), some (.loc 1), some (.loc 2), none, none, none, none, none], [some (dWell a1 b1 c), some (.lst (ss.map dS)), some (.lst [])]⟩) ?_ ?_
  · intro R hRR
    dsimp only [wRng1, wSeq, wNext, wSet, wC, wArg, wCons, wNil, wVar, wUn, wBin, wTest, wIfE, wIf, wRet, wDrop, wPar, wPar3, wAsg, wNot, wNotT, wAndT, wOrT, wAnd, wOr, wTup, wFrz, few, unD, fIsi, asData, wChain, nth, fLen, asSeq, asLst, asTup, asDct, bIx, startE, List.map, List.replicate, List.length, List.set, LcStep, lcStep, wipeE, dV, dRow, dT, dP, dN, Tg.w, Tgs.ws, lenIs, Tgs.len, fList, newO, wCall]
    refine ⟨a, b, c, 2, rfl, rfl, hw, by decide, by decide, fun r a1 b1 r1 r2 hw1 => ?_⟩
    dsimp only [wSeq, wNext, wSet, wC, wArg, wCons, wNil, wVar, wUn, wBin, wTest, wIfE, wIf, wRet, wDrop, wPar, wPar3, wAsg, wNot, wNotT, wAndT, wOrT, wAnd, wOr, wTup, wFrz, few, unD, fIsi, asData, wChain, nth, fLen, asSeq, asLst, asTup, asDct, bIx, startE, List.map, List.replicate, List.length, List.set, LcStep, lcStep, wipeE, dV, dRow, dT, dP, dN, Tg.w, Tgs.ws, lenIs, Tgs.len, fList, newO, backW, putA, bMod, bMul, bFDiv, bPow, bAdd, bSub, bInt, bInt0, uNeg, fInt2]
    rw [List.length_map]
    obtain ⟨n, hn⟩ : ∃ n : Nat, min ((ss.length : Nat) : Int) (2 + r) = (n : Int) := ⟨(min ((ss.length : Nat) : Int) (2 + r)).toNat, by omega⟩
    rw [hn]
    exact ⟨by unfold RngOk; omega, hRR _ _ ⟨n, a1, b1, rfl, by omega, by omega, hw1, rfl⟩⟩
  · rintro items s0 ⟨n, a1, b1, rfl, hn, hnl, hw1, rfl⟩
    refine wFor_inv (List.range n) dN (fun i s => ∃ (a2 b2 : Int) (left chosen : List Str) (e5 : Option Val), s = ⟨[some (.loc 0), some (.d (.tup (ss.map dS))), some (.d (.dct run)), some (.loc 1), some (.loc 2), e5, none, none, none, none], [some (dWell a2 b2 c), some (.lst (left.map dS)), some (.lst (chosen.map dS))]⟩ ∧
      WellOk a2 b2 c ∧ (chosen ++ left).Perm ss ∧ chosen.length = i) (fun R h => h) (intsD_map n) ⟨a1, b1, ss, [], none, rfl, hw1, List.Perm.refl _, rfl⟩ ?_ ?_
    · rintro s ⟨a2, b2, left, chosen, e5, rfl, hw2, hp, hcl⟩
      rw [List.length_range] at hcl
      dsimp only [wSeq, wNext, wSet, wC, wArg, wCons, wNil, wVar, wUn, wBin, wTest, wIfE, wIf, wRet, wDrop, wPar, wPar3, wAsg, wNot, wNotT, wAndT, wOrT, wAnd, wOr, wTup, wFrz, few, unD, fIsi, asData, wChain, nth, fLen, asSeq, asLst, asTup, asDct, bIx, startE, List.map, List.replicate, List.length, List.set, LcStep, lcStep, wipeE, dV, dRow, dT, dP, dN, Tg.w, Tgs.ws, lenIs, Tgs.len, fList, newO, fSortS]
      rw [show unS (chosen.map dS) = some chosen from unS_map _]
      refine ⟨by omega, fun ys hy hys => ?_⟩
      try dsimp only [wSeq, wNext, wSet, wC, wArg, wCons, wNil, wVar, wUn, wBin, wTest, wIfE, wIf, wRet, wDrop, wPar, wPar3, wAsg, wNot, wNotT, wAndT, wOrT, wAnd, wOr, wTup, wFrz, few, unD, fIsi, asData, wChain, nth, fLen, asSeq, asLst, asTup, asDct, bIx, startE, List.map, List.replicate, List.length, List.set, LcStep, lcStep, wipeE, dV, dRow, dT, dP, dN, Tg.w, Tgs.ws, lenIs, Tgs.len, fList, newO, newO]
      have hyn : ys.Nodup := by
        have h1 : (chosen ++ left).Nodup := hp.nodup_iff.mpr hS.nodup
        exact hy.nodup_iff.mpr (List.nodup_append.mp h1).1
      have hyr := sorted_strict hys hyn
      have hyl : ys.length = n := hy.length_eq.trans hcl
      have hym : ∀ s ∈ ys, s ∈ ss := fun s hs => hp.subset (List.mem_append_left _ (hy.subset hs))
      refine wFor_inv (items := intsD 0 9) (s0 := ⟨[some (.loc 0), some (.d (.tup (ss.map dS))), some (.d (.dct run)), some (.loc 1), some (.d (.lst (ys.map dS))), e5, none, none, none, none], [some (dWell a2 b2 c), some (.lst (left.map dS)), some (.lst (chosen.map dS))]⟩) (List.range 9) dN
        (fun i s => ∃ (a3 b3 : Int) (e5 e6 e7 : Option Val), s = ⟨[some (.loc 0), some (.d (.tup (ss.map dS))), some (.d (.dct run)), some (.loc 1), some (.d (.lst (ys.map dS))), e5, e6, e7, none, none], [some (dWell a3 b3 c), some (.lst (left.map dS)), some (.lst (chosen.map dS))]⟩ ∧
          WellOk a3 b3 c ∧ (i ≠ 0 → ∃ bx, e7 = some (.d (dBox bx)) ∧ boxD ss (dBox bx) = true)) (fun R h => ⟨by unfold RngOk; omega, h⟩) (intsD_map 9) ⟨a2, b2, _, _, _, rfl, hw2, fun h => absurd rfl h⟩ ?_ ?_
      · rintro s ⟨a3, b3, e5, e6, e7, rfl, hw3, hb⟩
        obtain ⟨bx, rfl, hbx⟩ := hb (by decide)
        exact k bx a3 b3 hbx hw3
      · rintro i x s hx ⟨a3, b3, e5, e6, e7, rfl, hw3, hb⟩
        dsimp only [wSeq, wNext, wSet, wC, wArg, wCons, wNil, wVar, wUn, wBin, wTest, wIfE, wIf, wRet, wDrop, wPar, wPar3, wAsg, wNot, wNotT, wAndT, wOrT, wAnd, wOr, wTup, wFrz, few, unD, fIsi, asData, wChain, nth, fLen, asSeq, asLst, asTup, asDct, bIx, startE, List.map, List.replicate, List.length, List.set, LcStep, lcStep, wipeE, dV, dRow, dT, dP, dN, Tg.w, Tgs.ws, lenIs, Tgs.len, fList, newO, bMod, bMul, bFDiv, bPow, bAdd, bSub, bInt, bInt0, uNeg, wLst, newO, wCall]
        refine ⟨a3, b3, c, 20, rfl, rfl, hw3, by decide, by decide, fun r a4 b4 r1 r2 hw4 => ?_⟩
        dsimp only [wSeq, wNext, wSet, wC, wArg, wCons, wNil, wVar, wUn, wBin, wTest, wIfE, wIf, wRet, wDrop, wPar, wPar3, wAsg, wNot, wNotT, wAndT, wOrT, wAnd, wOr, wTup, wFrz, few, unD, fIsi, asData, wChain, nth, fLen, asSeq, asLst, asTup, asDct, bIx, startE, List.map, List.replicate, List.length, List.set, LcStep, lcStep, wipeE, dV, dRow, dT, dP, dN, Tg.w, Tgs.ws, lenIs, Tgs.len, fList, newO, backW, putA, bMod, bMul, bFDiv, bPow, bAdd, bSub, bInt, bInt0, uNeg]
        refine wLc_inv ys dS (fun i acc own => ∃ (a5 b5 : Int) (ns : List Int), own = [some (dWell a5 b5 c), some (.lst (left.map dS)), some (.lst (chosen.map dS))] ∧ WellOk a5 b5 c ∧ ns.length = i ∧ (∀ n ∈ ns, n ≠ 0 ∧ n.natAbs ≤ 20) ∧ acc = (ys.zip ns).map dPair) (fun R h => h) rfl ⟨a4, b4, [], rfl, hw4, rfl, (fun n (hn : n ∈ ([] : List Int)) => nomatch hn), (by rw [List.zip_nil_right]; rfl)⟩ ?_ ?_
        · rintro acc own ⟨a5, b5, ns, rfl, hw5, hnl2, hns, rfl⟩
          have hbox := box_ok (ss := ss) (ys := ys) (ns := ns) (by omega) hnl2 hyr hym hns
          dsimp only [wSeq, wNext, wSet, wC, wArg, wCons, wNil, wVar, wUn, wBin, wTest, wIfE, wIf, wRet, wDrop, wPar, wPar3, wAsg, wNot, wNotT, wAndT, wOrT, wAnd, wOr, wTup, wFrz, few, unD, fIsi, asData, wChain, nth, fLen, asSeq, asLst, asTup, asDct, bIx, startE, List.map, List.replicate, List.length, List.set, LcStep, lcStep, wipeE, dV, dRow, dT, dP, dN, Tg.w, Tgs.ws, lenIs, Tgs.len, fList, newO, fTuple]
          refine wLc_map (ys.zip ns) dPair (fun p => .int (p.2 * intD (look (.inr p.1) run))) (fun R h => h) rfl ?_ ?_
          · dsimp only [wSeq, wNext, wSet, wC, wArg, wCons, wNil, wVar, wUn, wBin, wTest, wIfE, wIf, wRet, wDrop, wPar, wPar3, wAsg, wNot, wNotT, wAndT, wOrT, wAnd, wOr, wTup, wFrz, few, unD, fIsi, asData, wChain, nth, fLen, asSeq, asLst, asTup, asDct, bIx, startE, List.map, List.replicate, List.length, List.set, LcStep, lcStep, wipeE, dV, dRow, dT, dP, dN, Tg.w, Tgs.ws, lenIs, Tgs.len, fList, newO, fSum]
            rw [unI_map]
            dsimp only [cEq, cNe, cEqB, cLt, cLe, cGt, cGe, bInt0, bInt, bSub, cInQ, cInB, cInS, id, Bool.not, fBools, unB]
            cases decide (((ys.zip ns).map fun p => p.2 * intD (look (.inr p.1) run)).sum = 0) with
            | true => exact k _ a5 b5 hbox hw5
            | false => exact ⟨a5, b5, _, _, _, rfl, hw5, fun _ => ⟨_, rfl, hbox⟩⟩
          · rintro ⟨s, m⟩ hp A F hA
            obtain ⟨z1, z2⟩ := hns m (List.of_mem_zip hp).2
            obtain ⟨q, hq, hq2⟩ := hR s (hym s (List.of_mem_zip hp).1)
            dsimp only [wSeq, wNext, wSet, wC, wArg, wCons, wNil, wVar, wUn, wBin, wTest, wIfE, wIf, wRet, wDrop, wPar, wPar3, wAsg, wNot, wNotT, wAndT, wOrT, wAnd, wOr, wTup, wFrz, few, unD, fIsi, asData, wChain, nth, fLen, asSeq, asLst, asTup, asDct, bIx, startE, List.map, List.replicate, List.length, List.set, LcStep, lcStep, wipeE, dV, dRow, dT, dP, dN, Tg.w, Tgs.ws, lenIs, Tgs.len, fList, newO, bDGet, keyD, dPair]
            rw [hq]
            dsimp only [bMul]
            dsimp only [hq] at hA
            rw [hq] at hA
            exact ⟨mw2 (by omega) (by omega), hA⟩
        · rintro j y acc own hy ⟨a5, b5, ns, rfl, hw5, rfl, hns, rfl⟩
          dsimp only [wSeq, wNext, wSet, wC, wArg, wCons, wNil, wVar, wUn, wBin, wTest, wIfE, wIf, wRet, wDrop, wPar, wPar3, wAsg, wNot, wNotT, wAndT, wOrT, wAnd, wOr, wTup, wFrz, few, unD, fIsi, asData, wChain, nth, fLen, asSeq, asLst, asTup, asDct, bIx, startE, List.map, List.replicate, List.length, List.set, LcStep, lcStep, wipeE, dV, dRow, dT, dP, dN, Tg.w, Tgs.ws, lenIs, Tgs.len, fList, newO, wCall]
          refine ⟨a5, b5, c, 9, rfl, rfl, hw5, by decide, by decide, fun q a6 b6 q1 q2 hw6 => ?_⟩
          dsimp only [wSeq, wNext, wSet, wC, wArg, wCons, wNil, wVar, wUn, wBin, wTest, wIfE, wIf, wRet, wDrop, wPar, wPar3, wAsg, wNot, wNotT, wAndT, wOrT, wAnd, wOr, wTup, wFrz, few, unD, fIsi, asData, wChain, nth, fLen, asSeq, asLst, asTup, asDct, bIx, startE, List.map, List.replicate, List.length, List.set, LcStep, lcStep, wipeE, dV, dRow, dT, dP, dN, Tg.w, Tgs.ws, lenIs, Tgs.len, fList, newO, backW, putA]
          obtain ⟨m, hm⟩ : ∃ m : Nat, q = (m : Int) := ⟨q.toNat, by omega⟩
          subst hm
          have hg : ∃ p : Int, getI [D.int 1, D.int (-1), D.int 2, D.int (-2), D.int 3, D.int 1, D.int (-1), D.int 5, D.int (r + 1)] (m : Int) = some (.int p) ∧ p ≠ 0 ∧ p.natAbs ≤ 20 := by
            rw [getI_nat]
            rcases m with _ | _ | _ | _ | _ | _ | _ | _ | _ | m
            all_goals first
              | exact ⟨_, rfl, by decide, by decide⟩
              | exact ⟨_, rfl, by omega, by omega⟩
              | (exfalso; push_cast at q2; omega)
          obtain ⟨p, hg, p1, p2⟩ := hg
          rw [hg]
          refine ⟨a6, b6, ns ++ [p], rfl, hw6, by rw [List.length_append]; rfl, fun x hx => ?_, ?_⟩
          · rcases List.mem_append.mp hx with h | h
            · exact hns x h
            · have : x = p := by simpa using h
              subst this; exact ⟨p1, p2⟩
          · rw [zip_snoc hy, List.map_append]; rfl
    · rintro i x s hx ⟨a2, b2, left, chosen, e5, rfl, hw2, hp, hcl⟩
      have hi : i < n := by simpa using (List.getElem?_eq_some_iff.mp hx).1
      have hll : chosen.length + left.length = ss.length := by rw [← List.length_append]; exact hp.length_eq
      dsimp only [wSeq, wNext, wSet, wC, wArg, wCons, wNil, wVar, wUn, wBin, wTest, wIfE, wIf, wRet, wDrop, wPar, wPar3, wAsg, wNot, wNotT, wAndT, wOrT, wAnd, wOr, wTup, wFrz, few, unD, fIsi, asData, wChain, nth, fLen, asSeq, asLst, asTup, asDct, bIx, startE, List.map, List.replicate, List.length, List.set, LcStep, lcStep, wipeE, dV, dRow, dT, dP, dN, Tg.w, Tgs.ws, lenIs, Tgs.len, fList, newO, wMt, wCall]
      rw [List.length_map]
      refine ⟨a2, b2, c, (left.length : Int), rfl, rfl, hw2, by omega, by omega, fun r a3 b3 r1 r2 hw3 => ?_⟩
      obtain ⟨j, rfl⟩ : ∃ j : Nat, r = (j : Int) := ⟨r.toNat, by omega⟩
      dsimp only [wSeq, wNext, wSet, wC, wArg, wCons, wNil, wVar, wUn, wBin, wTest, wIfE, wIf, wRet, wDrop, wPar, wPar3, wAsg, wNot, wNotT, wAndT, wOrT, wAnd, wOr, wTup, wFrz, few, unD, fIsi, asData, wChain, nth, fLen, asSeq, asLst, asTup, asDct, bIx, startE, List.map, List.replicate, List.length, List.set, LcStep, lcStep, wipeE, dV, dRow, dT, dP, dN, Tg.w, Tgs.ws, lenIs, Tgs.len, fList, newO, backW, putA, mPop, ownL, setO]
      rw [List.length_map, ixD_nat (by omega)]
      dsimp only
      rw [nth_eq, List.getElem?_map, List.getElem?_eq_getElem (show j < left.length by omega)]
      try dsimp only [Option.map]
      refine ⟨⟨by omega, by omega⟩, ?_⟩
      try dsimp only [wSeq, wNext, wSet, wC, wArg, wCons, wNil, wVar, wUn, wBin, wTest, wIfE, wIf, wRet, wDrop, wPar, wPar3, wAsg, wNot, wNotT, wAndT, wOrT, wAnd, wOr, wTup, wFrz, few, unD, fIsi, asData, wChain, nth, fLen, asSeq, asLst, asTup, asDct, bIx, startE, List.map, List.replicate, List.length, List.set, mApp, ownL, setO]
      refine ⟨by rw [List.length_map, PySem.sizeLine_eq]; omega, a3, b3, left.eraseIdx j, chosen ++ [left[j]'(by omega)], some (.d (.int (x : Nat))), ?_, hw3, ?_, by rw [List.length_append, hcl]; rfl⟩
      · rw [erase_map, List.map_append]; rfl
      · refine List.Perm.trans ?_ hp
        rw [List.append_assoc]
        exact List.Perm.append_left chosen (perm_erase left j (by omega))
abbrev st__law_shafts : Stmt := topS 81
abbrev scN__law_shafts : List Str := ["well", "top", "names", "many"]
theorem sc__law_shafts : FnScope scN__law_shafts ["well", "top"] (defScope st__law_shafts) := ⟨rfl, rfl, rfl, by decide +kernel, rfl, by decide +kernel, by decide +kernel⟩
theorem ok__law_shafts (h : Has K mg "_law_shafts" st__law_shafts ["well", "top"]) (T : Blt mg) (c__law_take : Cal P w K mg base 1 "_law_take" ["well", "many"] sp__law_take) : Cal P w K mg base 2 "_law_shafts" ["well", "top"] sp__law_shafts := by
  refine mkP h sc__law_shafts (fun args own Q E z => len__law_shafts z) (fun f cdv A outer s H E hr => (pps_cons (pp_set (i := 2) sc__law_shafts.nd rfl (Or.inl rfl) (pp_lst true (ppa_cons pp_str (ppa_cons pp_str (ppa_cons pp_str (ppa_cons pp_str (ppa_cons pp_str (ppa_cons pp_str (ppa_cons pp_str (ppa_cons pp_str ppa_nil))))))))))
      (pps_cons (pp_set (i := 3) sc__law_shafts.nd rfl (Or.inl rfl) (pp_add false pp_int (pp_callC c__law_take hr (by decide) rfl (ppa_cons (ppv 0) (ppa_cons (pp_sub (ppv 1) pp_int) ppa_nil)))))
      (pps_cons (pp_while PassesOwn.never (ppt_gt (pp_lenB T rfl (ppa_cons (ppv 2) ppa_nil)) (ppv 3)) (pps_one (pp_expr (pp_pop (ppv 2) (ppa_cons (pp_callC c__law_take hr (by decide) rfl (ppa_cons (ppv 0) (ppa_cons (pp_lenB T rfl (ppa_cons (ppv 2) ppa_nil)) ppa_nil))) ppa_nil)))))
      (pps_one (pp_ret (pp_tupleB T rfl (ppa_cons (ppv 2) ppa_nil)))))))) (fun args own Q E z => ?_)
  obtain ⟨a, b, c, top, rfl, rfl, hw, h3, h8, k⟩ := z
  show (wSeq _ _) _ ⟨[some (.loc 0), some (.d (dN top)), none, none], [some (dWell a b c)]⟩
  dsimp only [wSeq, wNext, wSet, wC, wArg, wCons, wNil, wVar, wUn, wBin, wTest, wIfE, wIf, wRet, wDrop, wPar, wPar3, wAsg, wNot, wNotT, wAndT, wOrT, wAnd, wOr, wTup, wFrz, few, unD, fIsi, asData, wChain, nth, fLen, asSeq, asLst, asTup, asDct, bIx, startE, List.map, List.replicate, List.length, List.set, LcStep, lcStep, wipeE, dV, dRow, dT, dP, dN, Tg.w, Tgs.ws, lenIs, Tgs.len, fList, newO, wLst, newO]
  refine ⟨a, b, c, (top : Int) - 1, rfl, rfl, hw, by omega, by omega, fun r a1 b1 r1 r2 hw1 => ?_⟩
  dsimp only [wSeq, wNext, wSet, wC, wArg, wCons, wNil, wVar, wUn, wBin, wTest, wIfE, wIf, wRet, wDrop, wPar, wPar3, wAsg, wNot, wNotT, wAndT, wOrT, wAnd, wOr, wTup, wFrz, few, unD, fIsi, asData, wChain, nth, fLen, asSeq, asLst, asTup, asDct, bIx, startE, List.map, List.replicate, List.length, List.set, LcStep, lcStep, wipeE, dV, dRow, dT, dP, dN, Tg.w, Tgs.ws, lenIs, Tgs.len, fList, newO, backW, putA, bMod, bMul, bFDiv, bPow, bAdd, bSub, bInt, bInt0, uNeg]
  obtain ⟨many, hm⟩ : ∃ m : Nat, 2 + r = (m : Int) := ⟨(2 + r).toNat, by omega⟩
  rw [hm]
  refine ⟨fun m s => ∃ (ss : List Str) (a2 b2 : Int), s = ⟨[some (.loc 0), some (.d (dN top)), some (.loc 1), some (.d (dN many))], [some (dWell a2 b2 c), some (.lst (ss.map dS))]⟩ ∧ ss.Sublist names8 ∧ many ≤ ss.length ∧ WellOk a2 b2 c ∧ m = ss.length, ⟨8, names8, a1, b1, rfl, List.Sublist.refl _, ?_, hw1, rfl⟩, ?_⟩
  · show many ≤ 8
    omega
  · rintro m s ⟨ss, a2, b2, rfl, hs, hl, hw2, rfl⟩
    dsimp only [wSeq, wNext, wSet, wC, wArg, wCons, wNil, wVar, wUn, wBin, wTest, wIfE, wIf, wRet, wDrop, wPar, wPar3, wAsg, wNot, wNotT, wAndT, wOrT, wAnd, wOr, wTup, wFrz, few, unD, fIsi, asData, wChain, nth, fLen, asSeq, asLst, asTup, asDct, bIx, startE, List.map, List.replicate, List.length, List.set, LcStep, lcStep, wipeE, dV, dRow, dT, dP, dN, Tg.w, Tgs.ws, lenIs, Tgs.len, fList, newO, cEq, cNe, cEqB, cLt, cLe, cGt, cGe, bInt0, bInt, bSub, cInQ, cInB, cInS, id, Bool.not, fBools, unB]
    rw [List.length_map]
    by_cases h : many < ss.length
    · rw [decide_eq_true (by omega)]
      have hl8 : ss.length ≤ 8 := hs.length_le
      dsimp only [wSeq, wNext, wSet, wC, wArg, wCons, wNil, wVar, wUn, wBin, wTest, wIfE, wIf, wRet, wDrop, wPar, wPar3, wAsg, wNot, wNotT, wAndT, wOrT, wAnd, wOr, wTup, wFrz, few, unD, fIsi, asData, wChain, nth, fLen, asSeq, asLst, asTup, asDct, bIx, startE, List.map, List.replicate, List.length, List.set, LcStep, lcStep, wipeE, dV, dRow, dT, dP, dN, Tg.w, Tgs.ws, lenIs, Tgs.len, fList, newO, wMt, wCall]
      rw [List.length_map]
      refine ⟨a2, b2, c, (ss.length : Int), rfl, rfl, hw2, by omega, by omega, fun r a3 b3 r1 r2 hw3 => ?_⟩
      obtain ⟨j, rfl⟩ : ∃ j : Nat, r = (j : Int) := ⟨r.toNat, by omega⟩
      dsimp only [wSeq, wNext, wSet, wC, wArg, wCons, wNil, wVar, wUn, wBin, wTest, wIfE, wIf, wRet, wDrop, wPar, wPar3, wAsg, wNot, wNotT, wAndT, wOrT, wAnd, wOr, wTup, wFrz, few, unD, fIsi, asData, wChain, nth, fLen, asSeq, asLst, asTup, asDct, bIx, startE, List.map, List.replicate, List.length, List.set, LcStep, lcStep, wipeE, dV, dRow, dT, dP, dN, Tg.w, Tgs.ws, lenIs, Tgs.len, fList, newO, backW, putA, mPop, ownL, setO]
      rw [List.length_map, ixD_nat (by omega)]
      dsimp only
      rw [nth_eq, List.getElem?_map, List.getElem?_eq_getElem (show j < ss.length by omega)]
      refine ⟨⟨by omega, by omega⟩, ss.length - 1, by omega, ss.eraseIdx j, a3, b3, ?_, (List.eraseIdx_sublist ss j).trans hs, ?_, hw3, ?_⟩
      · rw [erase_map]
      · rw [List.length_eraseIdx, if_pos (by omega)]; omega
      · rw [List.length_eraseIdx, if_pos (by omega)]
    · rw [decide_eq_false (by omega)]
      exact k ss a2 b2 ⟨hs, by omega⟩ (by omega) hw2
abbrev st__law_net : Stmt := topS 82
abbrev scN__law_net : List Str := ["well", "top", "shafts", "run", "shaft", "boxes", "turn"]
theorem sc__law_net : FnScope scN__law_net ["well", "top"] (defScope st__law_net) := ⟨rfl, rfl, rfl, by decide +kernel, rfl, by decide +kernel, by decide +kernel⟩
theorem ok__law_net (h : Has K mg "_law_net" st__law_net ["well", "top"]) (T : Blt mg) (c__law_take : Cal P w K mg base 1 "_law_take" ["well", "many"] sp__law_take) (c__law_box : Cal P w K mg base 2 "_law_box" ["well", "shafts", "run"] sp__law_box) (c__law_shafts : Cal P w K mg base 2 "_law_shafts" ["well", "top"] sp__law_shafts) : Cal P w K mg base 3 "_law_net" ["well", "top"] sp__law_net := by
  refine mkP h sc__law_net (fun args own Q E z => len__law_net z) (fun f cdv A outer s H E hr => (pps_cons (pp_set (i := 2) sc__law_net.nd rfl (Or.inr rfl) (pp_callC c__law_shafts hr (by decide) rfl (ppa_cons (ppv 0) (ppa_cons (ppv 1) ppa_nil))))
      (pps_cons (pp_set (i := 3) sc__law_net.nd rfl (Or.inr rfl) (pp_dictB false T rfl rfl (ppa_cons (pp_lc false (.nm 4) rfl sc__law_net.nd (ppi_seq (ppv 2)) (blkOk_by (own := [("shaft", 4)]) (N := scN__law_net) (sc := defScope st__law_net) (by decide +kernel)) (by decide) (fun _ _ _ _ _ => by exact (pg_name (i := 4) sc__law_net.nd rfl (Or.inl rfl))) (fun _ _ _ _ _ => by exact ppts_nil) (fun _ _ _ _ _ => by exact (pp_tup (ppa_cons (ppv 4) (ppa_cons (pp_sub (pp_callC c__law_take hr (by decide) rfl (ppa_cons (ppv 0) (ppa_cons pp_int ppa_nil))) pp_int) ppa_nil))))) ppa_nil)))
      (pps_cons (pp_setLc (i := 5) (t := (.nm 6)) true rfl sc__law_net.nd rfl rfl (sw_true rfl rfl rfl (by decide +kernel)) (ppi_rng1 rfl T.range (ppa_cons (pp_callC c__law_take hr (by decide) rfl (ppa_cons (ppv 0) (ppa_cons pp_int ppa_nil))) ppa_nil)) (blkOk_by (own := [("turn", 6)]) (N := scN__law_net) (sc := defScope st__law_net) (by decide +kernel)) (by decide) (fun _ _ _ _ _ => by exact (pg_name (i := 6) sc__law_net.nd rfl (Or.inl rfl))) (fun _ _ _ _ _ => by exact ppts_nil) (fun _ _ _ _ _ => by exact (pp_callC c__law_box hr (by decide) rfl (ppa_cons (ppv 0) (ppa_cons (ppv 2) (ppa_cons (ppv 3) ppa_nil))))))
      (pps_cons (pp_if (ppt_w (ppw_and (ppt_ne hr (ppv 5) (pp_lst false ppa_nil)) (ppw_and1 (ppt_eq hr (pp_callC c__law_take hr (by decide) rfl (ppa_cons (ppv 0) (ppa_cons pp_int ppa_nil))) pp_int)))) (pps_one (pp_asg (pp_ixA (ppv 5) pp_int) (ppg_sub (ppv 5) (pp_neg pp_int)))) pps_nil)
      (pps_one (pp_ret (pp_lst false (ppa_cons (pp_tup (ppa_cons (ppv 2) (ppa_cons (pp_tupleB T rfl (ppa_cons (ppv 5) ppa_nil)) ppa_nil))) (ppa_cons (ppv 3) ppa_nil)))))))))) (fun args own Q E z => ?_)
  obtain ⟨a, b, c, top, rfl, rfl, hw, h3, h8, k⟩ := z
  show (wSeq _ _) _ ⟨[some (.loc 0), some (.d (dN top)), none, none, none, none, none], [some (dWell a b c)]⟩
  refine ⟨a, b, c, top, rfl, rfl, hw, h3, h8, fun ss a1 b1 hS hst hw1 => ?_⟩
  dsimp only [wSeq, wNext, wSet, wC, wArg, wCons, wNil, wVar, wUn, wBin, wTest, wIfE, wIf, wRet, wDrop, wPar, wPar3, wAsg, wNot, wNotT, wAndT, wOrT, wAnd, wOr, wTup, wFrz, few, unD, fIsi, asData, wChain, nth, fLen, asSeq, asLst, asTup, asDct, bIx, startE, List.map, List.replicate, List.length, List.set, LcStep, lcStep, wipeE, dV, dRow, dT, dP, dN, Tg.w, Tgs.ws, lenIs, Tgs.len, fList, newO, backW, putA]
  have hl8 := hS.len
  refine wLc_inv (items := ss.map dS) (s0 := ⟨[some (.loc 0), some (.d (dN top)), some (.d (.tup (ss.map dS))), none, none, none, none], [some (dWell a1 b1 c)]⟩) ss dS (fun i acc own => ∃ (a2 b2 : Int) (ns : List Int), own = [some (dWell a2 b2 c)] ∧ WellOk a2 b2 c ∧ ns.length = i ∧ (∀ n ∈ ns, n.natAbs ≤ 2) ∧ acc = (ss.zip ns).map dPair) (fun R h => h) rfl ⟨a1, b1, [], rfl, hw1, rfl, (fun n (hn : n ∈ ([] : List Int)) => nomatch hn), (by rw [List.zip_nil_right]; rfl)⟩ ?_ ?_
  · rintro acc own ⟨a2, b2, ns, rfl, hw2, hnl, hns, rfl⟩
    dsimp only [wSeq, wNext, wSet, wC, wArg, wCons, wNil, wVar, wUn, wBin, wTest, wIfE, wIf, wRet, wDrop, wPar, wPar3, wAsg, wNot, wNotT, wAndT, wOrT, wAnd, wOr, wTup, wFrz, few, unD, fIsi, asData, wChain, nth, fLen, asSeq, asLst, asTup, asDct, bIx, startE, List.map, List.replicate, List.length, List.set, LcStep, lcStep, wipeE, dV, dRow, dT, dP, dN, Tg.w, Tgs.ws, lenIs, Tgs.len, fList, newO, fDict]
    rw [prs_int]
    dsimp only [wSeq, wNext, wSet, wC, wArg, wCons, wNil, wVar, wUn, wBin, wTest, wIfE, wIf, wRet, wDrop, wPar, wPar3, wAsg, wNot, wNotT, wAndT, wOrT, wAnd, wOr, wTup, wFrz, few, unD, fIsi, asData, wChain, nth, fLen, asSeq, asLst, asTup, asDct, bIx, startE, List.map, List.replicate, List.length, List.set, LcStep, lcStep, wipeE, dV, dRow, dT, dP, dN, Tg.w, Tgs.ws, lenIs, Tgs.len, fList, newO]
    have hR : RunOk ss (mergeD [] (kvI ss ns)) := look_kvI hS.nodup hnl hns
    rw [show (ss.zip ns).map (fun p => ((Sum.inr p.1 : Key), D.int p.2)) = kvI ss ns from rfl]
    generalize mergeD [] (kvI ss ns) = run at hR
    refine wLc_then (fun items s0 => ∃ (n : Nat) (a3 b3 : Int), items = intsD 0 n ∧ n ≤ 8 ∧ WellOk a3 b3 c ∧ s0 = ⟨[some (.loc 0), some (.d (dN top)), some (.d (.tup (ss.map dS))), some (.d (.dct run)), none, none, none], [some (dWell a3 b3 c)]⟩) ?_ ?_
    · intro R hRR
      dsimp only [wRng1, wSeq, wNext, wSet, wC, wArg, wCons, wNil, wVar, wUn, wBin, wTest, wIfE, wIf, wRet, wDrop, wPar, wPar3, wAsg, wNot, wNotT, wAndT, wOrT, wAnd, wOr, wTup, wFrz, few, unD, fIsi, asData, wChain, nth, fLen, asSeq, asLst, asTup, asDct, bIx, startE, List.map, List.replicate, List.length, List.set, LcStep, lcStep, wipeE, dV, dRow, dT, dP, dN, Tg.w, Tgs.ws, lenIs, Tgs.len, fList, newO, wCall]
      refine ⟨a2, b2, c, 9, rfl, rfl, hw2, by decide, by decide, fun r a3 b3 r1 r2 hw3 => ?_⟩
      dsimp only [wSeq, wNext, wSet, wC, wArg, wCons, wNil, wVar, wUn, wBin, wTest, wIfE, wIf, wRet, wDrop, wPar, wPar3, wAsg, wNot, wNotT, wAndT, wOrT, wAnd, wOr, wTup, wFrz, few, unD, fIsi, asData, wChain, nth, fLen, asSeq, asLst, asTup, asDct, bIx, startE, List.map, List.replicate, List.length, List.set, LcStep, lcStep, wipeE, dV, dRow, dT, dP, dN, Tg.w, Tgs.ws, lenIs, Tgs.len, fList, newO, backW, putA]
      obtain ⟨n, rfl⟩ : ∃ n : Nat, r = (n : Int) := ⟨r.toNat, by omega⟩
      exact ⟨by unfold RngOk; omega, hRR _ _ ⟨n, a3, b3, rfl, by omega, hw3, rfl⟩⟩
    · rintro items s0 ⟨n, a3, b3, rfl, hn8, hw3, rfl⟩
      refine wLc_inv (List.range n) dN (fun i acc own => ∃ (a4 b4 : Int) (bs : List (List (Str × Int))), own = [some (dWell a4 b4 c)] ∧ WellOk a4 b4 c ∧ bs.length = i ∧ (∀ b ∈ bs, boxD ss (dBox b) = true) ∧ acc = bs.map dBox) (fun R h => h) (intsD_map n) ⟨a3, b3, [], rfl, hw3, rfl, (fun n (hn : n ∈ ([] : List (List (Str × Int)))) => nomatch hn), rfl⟩ ?_ ?_
      · rintro acc own ⟨a4, b4, bs, rfl, hw4, hbl, hbs, rfl⟩
        rw [List.length_range] at hbl
        have fin : ∀ bs : List (List (Str × Int)), bs.length ≤ 8 → (∀ b ∈ bs, boxD ss (dBox b) = true) → ∀ a5 b5, WellOk a5 b5 c → Q (.d (.lst [dNet ⟨ss, bs⟩, .dct run])) [dWell a5 b5 c] := fun bs hb hbs a5 b5 hw5 => k ⟨ss, bs⟩ run a5 b5 (net_ok hS hb hbs) hS hst hR hw5
        dsimp only [wSeq, wNext, wSet, wC, wArg, wCons, wNil, wVar, wUn, wBin, wTest, wIfE, wIf, wRet, wDrop, wPar, wPar3, wAsg, wNot, wNotT, wAndT, wOrT, wAnd, wOr, wTup, wFrz, few, unD, fIsi, asData, wChain, nth, fLen, asSeq, asLst, asTup, asDct, bIx, startE, List.map, List.replicate, List.length, List.set, LcStep, lcStep, wipeE, dV, dRow, dT, dP, dN, Tg.w, Tgs.ws, lenIs, Tgs.len, fList, newO, newO, wLst, wGT, wGs, wSub, sL, ownL, valsD, setO, mApp, wMt]
        simp only [List.cons_append, List.nil_append]
        refine ⟨⟨plain_boxes hS (by omega) hbs, rfl⟩, ?_⟩
        rw [deq_nil]
        cases bs with
        | nil => exact fin [] (by simp) (fun b hb => nomatch hb) a4 b4 hw4
        | cons b0 bs =>
          dsimp only [List.map, List.isEmpty, Bool.not, wSeq, wNext, wSet, wC, wArg, wCons, wNil, wVar, wUn, wBin, wTest, wIfE, wIf, wRet, wDrop, wPar, wPar3, wAsg, wNot, wNotT, wAndT, wOrT, wAnd, wOr, wTup, wFrz, few, unD, fIsi, asData, wChain, nth, fLen, asSeq, asLst, asTup, asDct, bIx, startE, List.map, List.replicate, List.length, List.set, LcStep, lcStep, wipeE, dV, dRow, dT, dP, dN, Tg.w, Tgs.ws, lenIs, Tgs.len, fList, newO, wCall]
          refine ⟨a4, b4, c, 4, rfl, rfl, hw4, by decide, by decide, fun r a5 b5 r1 r2 hw5 => ?_⟩
          dsimp only [wSeq, wNext, wSet, wC, wArg, wCons, wNil, wVar, wUn, wBin, wTest, wIfE, wIf, wRet, wDrop, wPar, wPar3, wAsg, wNot, wNotT, wAndT, wOrT, wAnd, wOr, wTup, wFrz, few, unD, fIsi, asData, wChain, nth, fLen, asSeq, asLst, asTup, asDct, bIx, startE, List.map, List.replicate, List.length, List.set, LcStep, lcStep, wipeE, dV, dRow, dT, dP, dN, Tg.w, Tgs.ws, lenIs, Tgs.len, fList, newO, backW, putA, cEq, cNe, cEqB, cLt, cLe, cGt, cGe, bInt0, bInt, bSub, cInQ, cInB, cInS, id, Bool.not, fBools, unB]
          cases decide (r = 0) with
          | false => exact fin (b0 :: bs) (by omega) hbs a5 b5 hw5
          | true =>
            dsimp only [wSeq, wNext, wSet, wC, wArg, wCons, wNil, wVar, wUn, wBin, wTest, wIfE, wIf, wRet, wDrop, wPar, wPar3, wAsg, wNot, wNotT, wAndT, wOrT, wAnd, wOr, wTup, wFrz, few, unD, fIsi, asData, wChain, nth, fLen, asSeq, asLst, asTup, asDct, bIx, startE, List.map, List.replicate, List.length, List.set, LcStep, lcStep, wipeE, dV, dRow, dT, dP, dN, Tg.w, Tgs.ws, lenIs, Tgs.len, fList, newO, newO, wLst, wGT, wGs, wSub, sL, ownL, valsD, setO, mApp, wMt, uNeg]
            rw [show ∀ l : List D, getI (dBox b0 :: l) 0 = some (dBox b0) from fun _ => rfl]
            dsimp only
            rw [ixD_neg1 (by simp)]
            have e : (dBox b0 :: bs.map dBox).set ((dBox b0 :: bs.map dBox).length - 1) (dBox b0) = ((b0 :: bs).set bs.length b0).map dBox := by
              rw [List.map_set]
              simp
            show Q (.d (.lst [.tup [.tup (ss.map dS), .tup ((dBox b0 :: bs.map dBox).set ((dBox b0 :: bs.map dBox).length - 1) (dBox b0))], .dct run])) [dWell a5 b5 c]
            rw [e]
            refine fin _ (by rw [List.length_set]; omega) (fun b hb => ?_) a5 b5 hw5
            rcases List.mem_or_eq_of_mem_set hb with h | h
            · exact hbs b h
            · subst h; exact hbs _ List.mem_cons_self
      · rintro i x acc own hx ⟨a4, b4, bs, rfl, hw4, rfl, hbs, rfl⟩
        dsimp only [wSeq, wNext, wSet, wC, wArg, wCons, wNil, wVar, wUn, wBin, wTest, wIfE, wIf, wRet, wDrop, wPar, wPar3, wAsg, wNot, wNotT, wAndT, wOrT, wAnd, wOr, wTup, wFrz, few, unD, fIsi, asData, wChain, nth, fLen, asSeq, asLst, asTup, asDct, bIx, startE, List.map, List.replicate, List.length, List.set, LcStep, lcStep, wipeE, dV, dRow, dT, dP, dN, Tg.w, Tgs.ws, lenIs, Tgs.len, fList, newO, wCall]
        refine ⟨a4, b4, c, ss, run, rfl, rfl, hw4, hS, hR, fun bx a5 b5 hbx hw5 => ?_⟩
        dsimp only [wSeq, wNext, wSet, wC, wArg, wCons, wNil, wVar, wUn, wBin, wTest, wIfE, wIf, wRet, wDrop, wPar, wPar3, wAsg, wNot, wNotT, wAndT, wOrT, wAnd, wOr, wTup, wFrz, few, unD, fIsi, asData, wChain, nth, fLen, asSeq, asLst, asTup, asDct, bIx, startE, List.map, List.replicate, List.length, List.set, LcStep, lcStep, wipeE, dV, dRow, dT, dP, dN, Tg.w, Tgs.ws, lenIs, Tgs.len, fList, newO, backW, putA]
        refine ⟨a5, b5, bs ++ [bx], rfl, hw5, by rw [List.length_append]; rfl, fun b hb => ?_, by rw [List.map_append]; rfl⟩
        rcases List.mem_append.mp hb with h | h
        · exact hbs b h
        · have : b = bx := by simpa using h
          subst this; exact hbx
  · rintro i s acc own hs ⟨a2, b2, ns, rfl, hw2, rfl, hns, rfl⟩
    dsimp only [wSeq, wNext, wSet, wC, wArg, wCons, wNil, wVar, wUn, wBin, wTest, wIfE, wIf, wRet, wDrop, wPar, wPar3, wAsg, wNot, wNotT, wAndT, wOrT, wAnd, wOr, wTup, wFrz, few, unD, fIsi, asData, wChain, nth, fLen, asSeq, asLst, asTup, asDct, bIx, startE, List.map, List.replicate, List.length, List.set, LcStep, lcStep, wipeE, dV, dRow, dT, dP, dN, Tg.w, Tgs.ws, lenIs, Tgs.len, fList, newO, wCall]
    refine ⟨a2, b2, c, 5, rfl, rfl, hw2, by decide, by decide, fun r a3 b3 r1 r2 hw3 => ?_⟩
    dsimp only [wSeq, wNext, wSet, wC, wArg, wCons, wNil, wVar, wUn, wBin, wTest, wIfE, wIf, wRet, wDrop, wPar, wPar3, wAsg, wNot, wNotT, wAndT, wOrT, wAnd, wOr, wTup, wFrz, few, unD, fIsi, asData, wChain, nth, fLen, asSeq, asLst, asTup, asDct, bIx, startE, List.map, List.replicate, List.length, List.set, LcStep, lcStep, wipeE, dV, dRow, dT, dP, dN, Tg.w, Tgs.ws, lenIs, Tgs.len, fList, newO, backW, putA, bMod, bMul, bFDiv, bPow, bAdd, bSub, bInt, bInt0, uNeg]
    refine ⟨a3, b3, ns ++ [r - 2], rfl, hw3, by rw [List.length_append]; rfl, fun n hn => ?_, ?_⟩
    · rcases List.mem_append.mp hn with h | h
      · exact hns n h
      · have : n = r - 2 := by simpa using h
        omega
    · rw [zip_snoc hs, List.map_append]; rfl
end
end Bx
end

section
namespace Bx
open PySem L2 PySem.Spec PyProof.Rows
section
variable {P : Program} {w : World} {K : PySem.W.Frag} {mg : Str → Option Value} {base : Heap}
abbrev st__law_thing : Stmt := topS 76
abbrev scN__law_thing : List Str := ["well", "deep", "way", "some", "parts", "k"]
theorem sc__law_thing : FnScope scN__law_thing ["well", "deep"] (defScope st__law_thing) := ⟨rfl, rfl, rfl, by decide +kernel, rfl, by decide +kernel, by decide +kernel⟩
theorem rec__law_thing (m j : Nat) (hj : 1 ≤ j) (h : Has K mg "_law_thing" st__law_thing ["well", "deep"]) (T : Blt mg) (c__law_take : Cal P w K mg base 1 "_law_take" ["well", "many"] sp__law_take) (c_rec : Cal P w K mg base j "_law_thing" ["well", "deep"] (spR__law_thing m)) : Cal P w K mg base (j + 1) "_law_thing" ["well", "deep"] (spR__law_thing (m + 1)) := by
  refine mkP (k := j) h sc__law_thing (fun args own Q E z => lenR__law_thing z) (fun f cdv A outer s H E hr => (pps_cons (pp_set (i := 2) sc__law_thing.nd rfl (Or.inl rfl) (pp_callC c__law_take hr (Nat.le_trans (by decide) hj) rfl (ppa_cons (ppv 0) (ppa_cons pp_int ppa_nil))))
      (pps_cons (pp_if (ppt_w (ppw_or (ppt_lt (ppv 2) pp_int) (ppw_or1 (ppt_eq hr (ppv 1) pp_int)))) (pps_cons (pp_set (i := 3) sc__law_thing.nd rfl (Or.inl rfl) (pp_lst false (ppa_cons pp_int (ppa_cons (pp_neg pp_int) (ppa_cons pp_int (ppa_cons pp_bl (ppa_cons pp_bl (ppa_cons pp_non (ppa_cons pp_str (ppa_cons pp_str (ppa_cons pp_str (ppa_cons pp_str (ppa_cons pp_str (ppa_cons pp_str (ppa_cons pp_int (ppa_cons pp_int (ppa_cons (pp_neg pp_int) (ppa_cons pp_str (ppa_cons (pp_pow pp_int pp_int) (ppa_cons pp_int ppa_nil))))))))))))))))))))
      (pps_one (pp_ret (pp_ixA (pp_add false (ppv 3) (pp_lst false (ppa_cons (pp_tup ppa_nil) (ppa_cons (pp_lst false ppa_nil) (ppa_cons (pp_tup (ppa_cons pp_int (ppa_cons pp_int ppa_nil))) ppa_nil))))) (pp_callC c__law_take hr (Nat.le_trans (by decide) hj) rfl (ppa_cons (ppv 0) (ppa_cons pp_int ppa_nil))))))) pps_nil)
      (pps_cons (pp_setLc (i := 4) (t := (.nm 5)) false rfl sc__law_thing.nd rfl rfl (sw_true rfl rfl rfl (by decide +kernel)) (ppi_rng1 rfl T.range (ppa_cons (pp_callC c__law_take hr (Nat.le_trans (by decide) hj) rfl (ppa_cons (ppv 0) (ppa_cons pp_int ppa_nil))) ppa_nil)) (blkOk_by (own := [("k", 5)]) (N := scN__law_thing) (sc := defScope st__law_thing) (by decide +kernel)) (by decide) (fun _ _ _ _ _ => by exact (pg_name (i := 5) sc__law_thing.nd rfl (Or.inl rfl))) (fun _ _ _ _ _ => by exact ppts_nil) (fun _ _ _ _ _ => by exact (pp_callC c_rec hr (Nat.le_refl _) rfl (ppa_cons (ppv 0) (ppa_cons (pp_sub (ppv 1) pp_int) ppa_nil)))))
      (pps_one (pp_ret (pp_ixA (pp_lst false (ppa_cons (ppv 4) (ppa_cons (pp_tupleB T rfl (ppa_cons (ppv 4) ppa_nil)) (ppa_cons (pp_tupleB T rfl (ppa_cons (ppv 4) ppa_nil)) ppa_nil)))) (pp_sub (ppv 2) pp_int)))))))) (fun args own Q E z => ?_)
  obtain ⟨a, b, c, k, rfl, rfl, wo, km, k3, kk⟩ := z
  show (wSeq _ _) _ ⟨[some (.loc 0), some (.d (dN k)), none, none, none, none], [some (dWell a b c)]⟩
  dsimp only [wSeq, wNext, wSet, wC, wArg, wCons, wNil, wVar, wUn, wBin, wTest, wIfE, wIf, wRet, wDrop, wPar, wPar3, wAsg, wNot, wNotT, wAndT, wOrT, wAnd, wOr, wTup, wFrz, few, unD, fIsi, asData, wChain, nth, fLen, asSeq, asLst, asTup, asDct, bIx, startE, List.map, List.replicate, List.length, List.set]
  refine ⟨a, b, c, 9, rfl, rfl, wo, by omega, by omega, fun way a1 b1 w0 w9 wo1 => ?_⟩
  dsimp only [wSeq, wNext, wSet, wC, wArg, wCons, wNil, wVar, wUn, wBin, wTest, wIfE, wIf, wRet, wDrop, wPar, wPar3, wAsg, wNot, wNotT, wAndT, wOrT, wAnd, wOr, wTup, wFrz, few, unD, fIsi, asData, wChain, nth, fLen, asSeq, asLst, asTup, asDct, bIx, startE, List.map, List.replicate, List.length, List.set, LcStep, lcStep, wipeE, dV, dRow, dT, dP, dN, Tg.w, Tgs.ws, lenIs, Tgs.len, fList, newO, backW, putA, cEq, cNe, cEqB, cLt, cLe, cGt, cGe, bInt0, bInt, bSub, cInQ, cInB, cInS, id, Bool.not, fBools, unB]
  by_cases hw : way < 6
  · rw [decide_eq_true hw]
    dsimp only [wSeq, wNext, wSet, wC, wArg, wCons, wNil, wVar, wUn, wBin, wTest, wIfE, wIf, wRet, wDrop, wPar, wPar3, wAsg, wNot, wNotT, wAndT, wOrT, wAnd, wOr, wTup, wFrz, few, unD, fIsi, asData, wChain, nth, fLen, asSeq, asLst, asTup, asDct, bIx, startE, List.map, List.replicate, List.length, List.set, LcStep, lcStep, wipeE, dV, dRow, dT, dP, dN, Tg.w, Tgs.ws, lenIs, Tgs.len, fList, newO, bMod, bMul, bFDiv, bPow, bAdd, bSub, bInt, bInt0, uNeg, backW, putA, wLst, newO]
    refine ⟨⟨by decide, by decide, by decide⟩, by decide, ?_⟩
    refine ⟨a1, b1, c, 21, rfl, rfl, wo1, by omega, by omega, fun r a2 b2 r0 r9 wo2 => ?_⟩
    obtain ⟨x, ex, hx⟩ := base_get r0 r9
    dsimp only [wSeq, wNext, wSet, wC, wArg, wCons, wNil, wVar, wUn, wBin, wTest, wIfE, wIf, wRet, wDrop, wPar, wPar3, wAsg, wNot, wNotT, wAndT, wOrT, wAnd, wOr, wTup, wFrz, few, unD, fIsi, asData, wChain, nth, fLen, asSeq, asLst, asTup, asDct, bIx, startE, List.map, List.replicate, List.length, List.set, LcStep, lcStep, wipeE, dV, dRow, dT, dP, dN, Tg.w, Tgs.ws, lenIs, Tgs.len, fList, newO, backW, putA]
    show (match getI baseThings r with | some x => _ | none => _)
    rw [ex]
    exact kk x a2 b2 (tame_mono (Nat.le_refl _) (Nat.le_refl _) x 1 _ (by omega) hx) wo2
  · rw [decide_eq_false hw]
    dsimp only [wSeq, wNext, wSet, wC, wArg, wCons, wNil, wVar, wUn, wBin, wTest, wIfE, wIf, wRet, wDrop, wPar, wPar3, wAsg, wNot, wNotT, wAndT, wOrT, wAnd, wOr, wTup, wFrz, few, unD, fIsi, asData, wChain, nth, fLen, asSeq, asLst, asTup, asDct, bIx, startE, List.map, List.replicate, List.length, List.set, LcStep, lcStep, wipeE, dV, dRow, dT, dP, dN, Tg.w, Tgs.ws, lenIs, Tgs.len, fList, newO, backW, putA, cEq, cNe, cEqB, cLt, cLe, cGt, cGe, bInt0, bInt, bSub, cInQ, cInB, cInS, id, Bool.not, fBools, unB]
    by_cases hk : (k : Int) = 0
    · rw [decide_eq_true hk]
      dsimp only [wSeq, wNext, wSet, wC, wArg, wCons, wNil, wVar, wUn, wBin, wTest, wIfE, wIf, wRet, wDrop, wPar, wPar3, wAsg, wNot, wNotT, wAndT, wOrT, wAnd, wOr, wTup, wFrz, few, unD, fIsi, asData, wChain, nth, fLen, asSeq, asLst, asTup, asDct, bIx, startE, List.map, List.replicate, List.length, List.set, LcStep, lcStep, wipeE, dV, dRow, dT, dP, dN, Tg.w, Tgs.ws, lenIs, Tgs.len, fList, newO, bMod, bMul, bFDiv, bPow, bAdd, bSub, bInt, bInt0, uNeg, backW, putA, wLst, newO]
      refine ⟨⟨by decide, by decide, by decide⟩, by decide, ?_⟩
      refine ⟨a1, b1, c, 21, rfl, rfl, wo1, by omega, by omega, fun r a2 b2 r0 r9 wo2 => ?_⟩
      obtain ⟨x, ex, hx⟩ := base_get r0 r9
      dsimp only [wSeq, wNext, wSet, wC, wArg, wCons, wNil, wVar, wUn, wBin, wTest, wIfE, wIf, wRet, wDrop, wPar, wPar3, wAsg, wNot, wNotT, wAndT, wOrT, wAnd, wOr, wTup, wFrz, few, unD, fIsi, asData, wChain, nth, fLen, asSeq, asLst, asTup, asDct, bIx, startE, List.map, List.replicate, List.length, List.set, LcStep, lcStep, wipeE, dV, dRow, dT, dP, dN, Tg.w, Tgs.ws, lenIs, Tgs.len, fList, newO, backW, putA]
      show (match getI baseThings r with | some x => _ | none => _)
      rw [ex]
      exact kk x a2 b2 (tame_mono (Nat.le_refl _) (Nat.le_refl _) x 1 _ (by omega) hx) wo2
    · rw [decide_eq_false hk]
      dsimp only [wSeq, wNext, wSet, wC, wArg, wCons, wNil, wVar, wUn, wBin, wTest, wIfE, wIf, wRet, wDrop, wPar, wPar3, wAsg, wNot, wNotT, wAndT, wOrT, wAnd, wOr, wTup, wFrz, few, unD, fIsi, asData, wChain, nth, fLen, asSeq, asLst, asTup, asDct, bIx, startE, List.map, List.replicate, List.length, List.set, LcStep, lcStep, wipeE, dV, dRow, dT, dP, dN, Tg.w, Tgs.ws, lenIs, Tgs.len, fList, newO, backW, putA, cEq, cNe, cEqB, cLt, cLe, cGt, cGe, bInt0, bInt, bSub, cInQ, cInB, cInS, id, Bool.not, fBools, unB]
      refine wLc_then (fun items s0 => ∃ (n : Nat) (a3 b3 : Int), items = intsD 0 n ∧ n ≤ 5 ∧ WellOk a3 b3 c ∧ s0 = ⟨[some (.loc 0), some (.d (dN k)), some (.d (.int way)), none, none, none], [some (dWell a3 b3 c)]⟩) ?_ ?_
      · intro R hRR
        dsimp only [wRng1, wSeq, wNext, wSet, wC, wArg, wCons, wNil, wVar, wUn, wBin, wTest, wIfE, wIf, wRet, wDrop, wPar, wPar3, wAsg, wNot, wNotT, wAndT, wOrT, wAnd, wOr, wTup, wFrz, few, unD, fIsi, asData, wChain, nth, fLen, asSeq, asLst, asTup, asDct, bIx, startE, List.map, List.replicate, List.length, List.set, LcStep, lcStep, wipeE, dV, dRow, dT, dP, dN, Tg.w, Tgs.ws, lenIs, Tgs.len, fList, newO, wCall]
        refine ⟨a1, b1, c, 6, rfl, rfl, wo1, by decide, by decide, fun r a3 b3 r1 r2 hw3 => ?_⟩
        dsimp only [wSeq, wNext, wSet, wC, wArg, wCons, wNil, wVar, wUn, wBin, wTest, wIfE, wIf, wRet, wDrop, wPar, wPar3, wAsg, wNot, wNotT, wAndT, wOrT, wAnd, wOr, wTup, wFrz, few, unD, fIsi, asData, wChain, nth, fLen, asSeq, asLst, asTup, asDct, bIx, startE, List.map, List.replicate, List.length, List.set, LcStep, lcStep, wipeE, dV, dRow, dT, dP, dN, Tg.w, Tgs.ws, lenIs, Tgs.len, fList, newO, backW, putA]
        obtain ⟨n, rfl⟩ : ∃ n : Nat, r = (n : Int) := ⟨r.toNat, by omega⟩
        exact ⟨by unfold RngOk; omega, hRR _ _ ⟨n, a3, b3, rfl, by omega, hw3, rfl⟩⟩
      · rintro items s0 ⟨n, a3, b3, rfl, hn5, hw3, rfl⟩
        refine wLc_inv (List.range n) dN (fun i acc own => ∃ (a4 b4 : Int), own = [some (dWell a4 b4 c)] ∧ WellOk a4 b4 c ∧ acc.length = i ∧ ∀ d ∈ acc, tame 100 (2 ^ 40) k d = true) (fun R h => h) (intsD_map n) ⟨a3, b3, rfl, hw3, rfl, fun d hd => nomatch hd⟩ ?_ ?_
        · rintro acc own ⟨a4, b4, rfl, hw4, hal, hacc⟩
          rw [List.length_range] at hal
          dsimp only [wSeq, wNext, wSet, wC, wArg, wCons, wNil, wVar, wUn, wBin, wTest, wIfE, wIf, wRet, wDrop, wPar, wPar3, wAsg, wNot, wNotT, wAndT, wOrT, wAnd, wOr, wTup, wFrz, few, unD, fIsi, asData, wChain, nth, fLen, asSeq, asLst, asTup, asDct, bIx, startE, List.map, List.replicate, List.length, List.set, LcStep, lcStep, wipeE, dV, dRow, dT, dP, dN, Tg.w, Tgs.ws, lenIs, Tgs.len, fList, newO, bMod, bMul, bFDiv, bPow, bAdd, bSub, bInt, bInt0, uNeg, newO, wLst, fTuple, asSeq]
          obtain ⟨x, hx, ex⟩ := getI_mem (ds := [D.lst acc, D.tup acc, D.tup acc]) (i := way - 6) (by omega) (by show way - 6 < ((3 : Nat) : Int); omega)
          rw [ex]
          refine kk x a4 b4 ?_ hw4
          simp only [List.mem_cons, List.mem_nil_iff, or_false] at hx
          rcases hx with rfl | rfl | rfl
          · exact tame_lst.mpr ⟨by omega, hacc⟩
          · exact tame_tup.mpr ⟨by omega, hacc⟩
          · exact tame_tup.mpr ⟨by omega, hacc⟩
        · rintro i x acc own hx ⟨a4, b4, rfl, hw4, rfl, hacc⟩
          dsimp only [wSeq, wNext, wSet, wC, wArg, wCons, wNil, wVar, wUn, wBin, wTest, wIfE, wIf, wRet, wDrop, wPar, wPar3, wAsg, wNot, wNotT, wAndT, wOrT, wAnd, wOr, wTup, wFrz, few, unD, fIsi, asData, wChain, nth, fLen, asSeq, asLst, asTup, asDct, bIx, startE, List.map, List.replicate, List.length, List.set, LcStep, lcStep, wipeE, dV, dRow, dT, dP, dN, Tg.w, Tgs.ws, lenIs, Tgs.len, fList, newO, bMod, bMul, bFDiv, bPow, bAdd, bSub, bInt, bInt0, uNeg, wCall]
          refine ⟨a4, b4, c, k - 1, ?_, rfl, hw4, by omega, by omega, fun d a5 b5 hd hw5 => ?_⟩
          · rw [show ((k : Int) - 1) = ((k - 1 : Nat) : Int) by omega]; rfl
          · dsimp only [wSeq, wNext, wSet, wC, wArg, wCons, wNil, wVar, wUn, wBin, wTest, wIfE, wIf, wRet, wDrop, wPar, wPar3, wAsg, wNot, wNotT, wAndT, wOrT, wAnd, wOr, wTup, wFrz, few, unD, fIsi, asData, wChain, nth, fLen, asSeq, asLst, asTup, asDct, bIx, startE, List.map, List.replicate, List.length, List.set, LcStep, lcStep, wipeE, dV, dRow, dT, dP, dN, Tg.w, Tgs.ws, lenIs, Tgs.len, fList, newO, backW, putA]
            refine ⟨a5, b5, rfl, hw5, by rw [List.length_append]; rfl, fun e he => ?_⟩
            rcases List.mem_append.mp he with h | h
            · exact hacc e h
            · have : e = d := by simpa using h
              subst this
              have hk2 : k - 1 + 1 = k := by omega
              rw [hk2] at hd
              exact hd
theorem ok__law_thing (h : Has K mg "_law_thing" st__law_thing ["well", "deep"]) (T : Blt mg) (c__law_take : Cal P w K mg base 1 "_law_take" ["well", "many"] sp__law_take) : Cal P w K mg base 5 "_law_thing" ["well", "deep"] sp__law_thing := by
  have r0 : Cal P w K mg base 1 "_law_thing" ["well", "deep"] (spR__law_thing 0) := (Cal.never (k := 1) h).imp fun args own Q E z => zeroR__law_thing z
  have r1 := rec__law_thing (P := P) (w := w) (base := base) 0 1 (by decide) h T c__law_take r0
  have r2 := rec__law_thing (P := P) (w := w) (base := base) 1 2 (by decide) h T c__law_take r1
  have r3 := rec__law_thing (P := P) (w := w) (base := base) 2 3 (by decide) h T c__law_take r2
  have r4 := rec__law_thing (P := P) (w := w) (base := base) 3 4 (by decide) h T c__law_take r3
  exact r4.imp fun args own Q E z => toR__law_thing z
abbrev st__law_otherwise : Stmt := topS 77
abbrev scN__law_otherwise : List Str := ["well", "thing", "deep", "parts", "at", "way", "near"]
theorem sc__law_otherwise : FnScope scN__law_otherwise ["well", "thing", "deep"] (defScope st__law_otherwise) := ⟨rfl, rfl, rfl, by decide +kernel, rfl, by decide +kernel, by decide +kernel⟩
theorem rec__law_otherwise (m j : Nat) (hj : 5 ≤ j) (h : Has K mg "_law_otherwise" st__law_otherwise ["well", "thing", "deep"]) (T : Blt mg) (c__law_thing : Cal P w K mg base 5 "_law_thing" ["well", "deep"] sp__law_thing) (c__law_take : Cal P w K mg base 1 "_law_take" ["well", "many"] sp__law_take) (c_rec : Cal P w K mg base j "_law_otherwise" ["well", "thing", "deep"] (spR__law_otherwise m)) : Cal P w K mg base (j + 1) "_law_otherwise" ["well", "thing", "deep"] (spR__law_otherwise (m + 1)) := by
  refine mkP (k := j) h sc__law_otherwise (fun args own Q E z => lenR__law_otherwise z) (fun f cdv A outer s H E hr => (pps_cons (pp_set (i := 3) sc__law_otherwise.nd rfl (Or.inl rfl) (pp_listB true T rfl (ppa_cons (ppv 1) ppa_nil)))
      (pps_cons (pp_if (ppt_eqN hr (ppv 3) (pp_lst false ppa_nil)) (pps_one (pp_ret (pp_tup (ppa_cons (pp_callC c__law_thing hr (Nat.le_trans (by decide) hj) rfl (ppa_cons (ppv 0) (ppa_cons pp_int ppa_nil))) ppa_nil)))) pps_nil)
      (pps_cons (pp_set (i := 4) sc__law_otherwise.nd rfl (Or.inl rfl) (pp_callC c__law_take hr (Nat.le_trans (by decide) hj) rfl (ppa_cons (ppv 0) (ppa_cons (pp_lenB T rfl (ppa_cons (ppv 3) ppa_nil)) ppa_nil))))
      (pps_cons (pp_if (ppt_w (ppw_and (ppt_val (pp_isiB T rfl (ppa_cons (pp_ixA (ppv 3) (ppv 4)) (ppa_cons (pp_ty (T := "tuple") rfl T.tuple (by decide +kernel)) ppa_nil)))) (ppw_and (ppt_gt (ppv 2) pp_int) (ppw_and1 (ppt_gt (pp_callC c__law_take hr (Nat.le_trans (by decide) hj) rfl (ppa_cons (ppv 0) (ppa_cons pp_int ppa_nil))) pp_int))))) (pps_cons (pp_asg (pp_callC c_rec hr (Nat.le_refl _) rfl (ppa_cons (ppv 0) (ppa_cons (pp_ixA (ppv 3) (ppv 4)) (ppa_cons (pp_sub (ppv 2) pp_int) ppa_nil)))) (ppg_sub (ppv 3) (ppv 4)))
      (pps_one (pp_ret (pp_tupleB T rfl (ppa_cons (ppv 3) ppa_nil))))) pps_nil)
      (pps_cons (pp_set (i := 5) sc__law_otherwise.nd rfl (Or.inl rfl) (pp_callC c__law_take hr (Nat.le_trans (by decide) hj) rfl (ppa_cons (ppv 0) (ppa_cons pp_int ppa_nil))))
      (pps_cons (pp_if (ppt_eq hr (ppv 5) pp_int) (pps_one (pp_expr (pp_pop (ppv 3) (ppa_cons (ppv 4) ppa_nil)))) (pps_one (pp_if (ppt_eq hr (ppv 5) pp_int) (pps_one (pp_expr (pp_ins (ppv 3) (ppa_cons (ppv 4) (ppa_cons (pp_ixA (ppv 3) (ppv 4)) ppa_nil))))) (pps_one (pp_if (ppt_eq hr (ppv 5) pp_int) (pps_one (pp_setSl (pp_revL false (pp_slice false (ppv 3) (ppo_some (ppv 4)) (ppo_some (pp_add false (ppv 4) pp_int)))) (ppv 3) (ppo_some (ppv 4)) (ppo_some (pp_add false (ppv 4) pp_int)))) (pps_one (pp_if (ppt_eq hr (ppv 5) pp_int) (pps_one (pp_asg (pp_callC c__law_thing hr (Nat.le_trans (by decide) hj) rfl (ppa_cons (ppv 0) (ppa_cons pp_int ppa_nil))) (ppg_sub (ppv 3) (ppv 4)))) (pps_one (pp_if (ppt_w (ppw_or (ppt_eq hr (ppv 5) pp_int) (ppw_or1 (ppt_eq hr (ppv 5) pp_int)))) (pps_cons (pp_set (i := 6) sc__law_otherwise.nd rfl (Or.inl rfl) (pp_lst false (ppa_cons pp_int (ppa_cons pp_int (ppa_cons (pp_neg pp_int) (ppa_cons pp_int (ppa_cons pp_int (ppa_cons pp_int (ppa_cons pp_int (ppa_cons pp_int (ppa_cons pp_int (ppa_cons pp_int (ppa_cons pp_non (ppa_cons pp_bl (ppa_cons pp_bl (ppa_cons pp_str (ppa_cons (pp_tup ppa_nil) (ppa_cons (pp_tup (ppa_cons pp_int (ppa_cons pp_int ppa_nil))) (ppa_cons (pp_tup (ppa_cons pp_int (ppa_cons pp_int ppa_nil))) (ppa_cons (pp_tup (ppa_cons pp_int (ppa_cons pp_int ppa_nil))) (ppa_cons pp_int (ppa_cons pp_str ppa_nil))))))))))))))))))))))
      (pps_one (pp_asg (pp_ixA (ppv 6) (pp_callC c__law_take hr (Nat.le_trans (by decide) hj) rfl (ppa_cons (ppv 0) (ppa_cons pp_int ppa_nil)))) (ppg_sub (ppv 3) (ppv 4))))) (pps_one (pp_if (ppt_w (ppw_and (ppt_eq hr (ppv 5) pp_int) (ppw_and (ppt_val (pp_isiB T rfl (ppa_cons (pp_ixA (ppv 3) (ppv 4)) (ppa_cons (pp_ty (T := "int") rfl T.int (by decide +kernel)) ppa_nil)))) (ppw_and1 (ppt_not (ppt_val (pp_isiB T rfl (ppa_cons (pp_ixA (ppv 3) (ppv 4)) (ppa_cons (pp_ty (T := "bool") rfl T.bool (by decide +kernel)) ppa_nil))))))))) (pps_one (pp_asg (pp_add false (pp_ixA (ppv 3) (ppv 4)) (pp_ixA (pp_lst false (ppa_cons pp_int (ppa_cons (pp_neg pp_int) (ppa_cons pp_int (ppa_cons (pp_neg pp_int) ppa_nil))))) (pp_callC c__law_take hr (Nat.le_trans (by decide) hj) rfl (ppa_cons (ppv 0) (ppa_cons pp_int ppa_nil))))) (ppg_sub (ppv 3) (ppv 4)))) (pps_one (pp_if (ppt_w (ppw_and (ppt_eq hr (ppv 5) pp_int) (ppw_and1 (ppt_val (pp_isiB T rfl (ppa_cons (pp_ixA (ppv 3) (ppv 4)) (ppa_cons (pp_ty (T := "tuple") rfl T.tuple (by decide +kernel)) ppa_nil))))))) (pps_one (pp_asg (pp_listB false T rfl (ppa_cons (pp_ixA (ppv 3) (ppv 4)) ppa_nil)) (ppg_sub (ppv 3) (ppv 4)))) (pps_one (pp_if (ppt_w (ppw_and (ppt_eq hr (ppv 5) pp_int) (ppw_and1 (ppt_val (pp_isiB T rfl (ppa_cons (pp_ixA (ppv 3) (ppv 4)) (ppa_cons (pp_ty (T := "str") rfl T.str (by decide +kernel)) ppa_nil))))))) (pps_one (pp_asg (pp_add false (pp_ixA (ppv 3) (ppv 4)) (pp_ixA (pp_lst false (ppa_cons pp_str (ppa_cons pp_str (ppa_cons pp_str (ppa_cons pp_str ppa_nil))))) (pp_callC c__law_take hr (Nat.le_trans (by decide) hj) rfl (ppa_cons (ppv 0) (ppa_cons pp_int ppa_nil))))) (ppg_sub (ppv 3) (ppv 4)))) (pps_one (pp_ret (ppz 3))))))))))))))))))
      (pps_one (pp_ret (pp_tupleB T rfl (ppa_cons (ppv 3) ppa_nil))))))))))) (fun args own Q E z => ?_)
  obtain ⟨a, b, c, k, n, ds, rfl, rfl, wo, km, k2, kn, ht, kk⟩ := z
  obtain ⟨n, rfl⟩ : ∃ n', n = n' + 1 := tame_isn ht
  obtain ⟨hl, hds⟩ := tame_tup.mp ht
  have fin : ∀ (es : List D) (a b : Int) (e4 e5 e6 : Option Val), es.length ≤ 200 → (∀ d ∈ es, tame 200 (2 ^ 41) n d = true) → WellOk a b c → wRet (wArg fTuple (wCons (wVar 3) wNil)) (endsF 1 Q fun _ _ => False) ⟨[some (.loc 0), some (.d (.tup ds)), some (.d (dN k)), some (.loc 1), e4, e5, e6], [some (dWell a b c), some (.lst es)]⟩ :=
    fun es a b e4 e5 e6 h1 h2 h3 => kk _ a b (tame_tup.mpr ⟨h1, h2⟩) h3
  have up : ∀ d, tame 100 (2 ^ 40) n d = true → tame 200 (2 ^ 41) n d = true := fun d h => tame_mono (by decide) (by decide) d n n (Nat.le_refl _) h
  have setOk : ∀ (p : Nat) (x : D), tame 200 (2 ^ 41) n x = true → ∀ d ∈ ds.set p x, tame 200 (2 ^ 41) n d = true := fun p x hx d hd => by
    rcases List.mem_or_eq_of_mem_set hd with h | h
    · exact up d (hds d h)
    · rw [h]; exact hx
  show (wSeq _ _) _ ⟨[some (.loc 0), some (.d (.tup ds)), some (.d (dN k)), none, none, none, none], [some (dWell a b c)]⟩
  generalize hR : (wSeq (wSet 5 (wCall sp__law_take _)) _ : TPs) = R
  dsimp only [wSeq, wNext, wSet, wC, wArg, wCons, wNil, wVar, wUn, wBin, wTest, wIfE, wIf, wRet, wDrop, wPar, wPar3, wAsg, wNot, wNotT, wAndT, wOrT, wAnd, wOr, wTup, wFrz, few, unD, fIsi, asData, wChain, nth, fLen, asSeq, asLst, asTup, asDct, bIx, startE, List.map, List.replicate, List.length, List.set, LcStep, lcStep, wipeE, dV, dRow, dT, dP, dN, Tg.w, Tgs.ws, lenIs, Tgs.len, fList, newO, wLst, newO, fList]
  cases ds with
  | nil =>
    refine ⟨a, b, c, 1, rfl, rfl, wo, by decide, fun d a1 b1 hd hw1 => ?_⟩
    dsimp only [wSeq, wNext, wSet, wC, wArg, wCons, wNil, wVar, wUn, wBin, wTest, wIfE, wIf, wRet, wDrop, wPar, wPar3, wAsg, wNot, wNotT, wAndT, wOrT, wAnd, wOr, wTup, wFrz, few, unD, fIsi, asData, wChain, nth, fLen, asSeq, asLst, asTup, asDct, bIx, startE, List.map, List.replicate, List.length, List.set, LcStep, lcStep, wipeE, dV, dRow, dT, dP, dN, Tg.w, Tgs.ws, lenIs, Tgs.len, fList, newO, backW, putA]
    refine kk _ a1 b1 (tame_tup.mpr ⟨by simp, fun e he => ?_⟩) hw1
    have : e = d := by simpa using he
    subst this
    exact tame_mono (by decide) (by decide) e 2 n (by omega) hd
  | cons d0 ds0 =>
    refine ⟨a, b, c, ((d0 :: ds0).length : Nat), rfl, rfl, wo, by simp; omega, by simp at hl ⊢; omega, fun r a1 b1 r0 r9 hw1 => ?_⟩
    obtain ⟨p, rfl⟩ := Int.eq_ofNat_of_zero_le r0
    have hp : p < (d0 :: ds0).length := by omega
    generalize hds0 : d0 :: ds0 = ds at *
    clear hds0
    have hx : ds[p]? = some (ds[p]'hp) := List.getElem?_eq_getElem hp
    generalize ds[p]'hp = x at hx
    have xin : x ∈ ds := List.mem_of_getElem? hx
    have tx := hds x xin
    have gx : getI ds (p : Int) = some x := by rw [getI_nat]; exact hx
    have rest : ∀ a2 b2, WellOk a2 b2 c → R (endsF 1 Q fun _ _ => False) ⟨[some (.loc 0), some (.d (.tup ds)), some (.d (dN k)), some (.loc 1), some (.d (dN p)), none, none], [some (dWell a2 b2 c), some (.lst ds)]⟩ := by
      intro a2 b2 hw2
      subst hR
      dsimp only [wSeq, wNext, wSet, wC, wArg, wCons, wNil, wVar, wUn, wBin, wTest, wIfE, wIf, wRet, wDrop, wPar, wPar3, wAsg, wNot, wNotT, wAndT, wOrT, wAnd, wOr, wTup, wFrz, few, unD, fIsi, asData, wChain, nth, fLen, asSeq, asLst, asTup, asDct, bIx, startE, List.map, List.replicate, List.length, List.set]
      refine ⟨a2, b2, c, 9, rfl, rfl, hw2, by decide, by decide, fun way a3 b3 r0 r9 hw3 => ?_⟩
      have lp : (p : Int) < 100 := by omega
      have sd := setOk p
      have ls : ∀ x, (ds.set p x).length ≤ 200 := fun x => by rw [List.length_set]; omega
      have xp : ixD ds.length (p : Int) = some p := ixD_nat hp
      rcases (by omega : way = 0 ∨ way = 1 ∨ way = 2 ∨ way = 3 ∨ way = 4 ∨ way = 5 ∨ way = 6 ∨ way = 7 ∨ way = 8) with rfl | rfl | rfl | rfl | rfl | rfl | rfl | rfl | rfl
      all_goals dsimp only [wSeq, wNext, wSet, wC, wArg, wCons, wNil, wVar, wUn, wBin, wTest, wIfE, wIf, wRet, wDrop, wPar, wPar3, wAsg, wNot, wNotT, wAndT, wOrT, wAnd, wOr, wTup, wFrz, few, unD, fIsi, asData, wChain, nth, fLen, asSeq, asLst, asTup, asDct, bIx, startE, List.map, List.replicate, List.length, List.set, LcStep, lcStep, wipeE, dV, dRow, dT, dP, dN, Tg.w, Tgs.ws, lenIs, Tgs.len, fList, newO, cEq, cNe, cEqB, cLt, cLe, cGt, cGe, bInt0, bInt, bSub, cInQ, cInB, cInS, id, Bool.not, fBools, unB, backW, putA]
      all_goals simp only [Int.reduceEq, decide_true, decide_false, eq_self]
      all_goals try dsimp only [wSeq, wNext, wSet, wC, wArg, wCons, wNil, wVar, wUn, wBin, wTest, wIfE, wIf, wRet, wDrop, wPar, wPar3, wAsg, wNot, wNotT, wAndT, wOrT, wAnd, wOr, wTup, wFrz, few, unD, fIsi, asData, wChain, nth, fLen, asSeq, asLst, asTup, asDct, bIx, startE, List.map, List.replicate, List.length, List.set, LcStep, lcStep, wipeE, dV, dRow, dT, dP, dN, Tg.w, Tgs.ws, lenIs, Tgs.len, fList, newO, cEq, cNe, cEqB, cLt, cLe, cGt, cGe, bInt0, bInt, bSub, cInQ, cInB, cInS, id, Bool.not, fBools, unB, wGT, wGs, wSub, sL, ownL, valsD, setO, mApp, wMt, backW, putA]
      all_goals try rw [gx]
      all_goals try dsimp only [wSeq, wNext, wSet, wC, wArg, wCons, wNil, wVar, wUn, wBin, wTest, wIfE, wIf, wRet, wDrop, wPar, wPar3, wAsg, wNot, wNotT, wAndT, wOrT, wAnd, wOr, wTup, wFrz, few, unD, fIsi, asData, wChain, nth, fLen, asSeq, asLst, asTup, asDct, bIx, startE, List.map, List.replicate, List.length, List.set, LcStep, lcStep, wipeE, dV, dRow, dT, dP, dN, Tg.w, Tgs.ws, lenIs, Tgs.len, fList, newO, cEq, cNe, cEqB, cLt, cLe, cGt, cGe, bInt0, bInt, bSub, cInQ, cInB, cInS, id, Bool.not, fBools, unB, wGT, wGs, wSub, sL, ownL, valsD, setO, mApp, wMt, backW, putA]
      · dsimp only [mPop, ownL, nth]
        rw [xp]
        dsimp only
        rw [show nth ds p = some x from by rw [nth_eq]; exact hx]
        exact ⟨⟨by omega, by omega⟩, kk (.tup (ds.eraseIdx p)) a3 b3 (tame_tup.mpr ⟨by have := List.length_eraseIdx_le ds p; omega, fun d hd => up d (hds d (List.mem_of_mem_eraseIdx hd))⟩) hw3⟩
      · dsimp only [mIns, ownL, nth]
        refine ⟨⟨Nat.lt_of_le_of_lt hl (by decide), by omega, by omega⟩, kk (.tup (ds.take (p : Int).toNat ++ [x] ++ ds.drop (p : Int).toNat)) a3 b3 (tame_tup.mpr ⟨?_, fun d hd => up d ?_⟩) hw3⟩
        · simp only [List.length_append, List.length_take, List.length_drop, List.length_cons, List.length_nil]; omega
        · rcases List.mem_append.mp hd with hd | hd
          · rcases List.mem_append.mp hd with hd | hd
            · exact hds d (List.mem_of_mem_take hd)
            · have : d = x := by simpa using hd
              rw [this]; exact tx
          · exact hds d (List.mem_of_mem_drop hd)
      · dsimp only [wRev, wSl, wPart, wSubSl, newO, bAdd, wSeq, wNext, wSet, wC, wArg, wCons, wNil, wVar, wUn, wBin, wTest, wIfE, wIf, wRet, wDrop, wPar, wPar3, wAsg, wNot, wNotT, wAndT, wOrT, wAnd, wOr, wTup, wFrz, few, unD, fIsi, asData, wChain, nth, fLen, asSeq, asLst, asTup, asDct, bIx, startE, List.map, List.replicate, List.length, List.set, LcStep, lcStep, wipeE, dV, dRow, dT, dP, dN, Tg.w, Tgs.ws, lenIs, Tgs.len, fList, newO, cEq, cNe, cEqB, cLt, cLe, cGt, cGe, bInt0, bInt, bSub, cInQ, cInB, cInS, id, Bool.not, fBools, unB, wGT, wGs, wSub, sL, ownL, valsD, setO, mApp, wMt]
        have cl : (cutD ds (some (p : Int)) (some ((p : Int) + 2))).reverse.length ≤ ds.length := by
          rw [List.length_reverse]; unfold cutD; rw [List.length_take, List.length_drop]; omega
        refine ⟨⟨by omega, by omega, by omega, Nat.le_trans (Nat.add_le_add hl (Nat.le_trans cl hl)) (by decide)⟩, kk (.tup (ds.take (p : Int).toNat ++ (cutD ds (some (p : Int)) (some ((p : Int) + 2))).reverse ++ ds.drop ((p : Int) + 2).toNat)) a3 b3 (tame_tup.mpr ⟨?_, fun d hd => up d (hds d ?_)⟩) hw3⟩
        · rw [List.length_append, List.length_append, List.length_take, List.length_drop]; omega
        · rcases List.mem_append.mp hd with hd | hd
          · rcases List.mem_append.mp hd with hd | hd
            · exact List.mem_of_mem_take hd
            · have := List.mem_reverse.mp hd
              unfold cutD at this
              exact List.mem_of_mem_drop (List.mem_of_mem_take this)
          · exact List.mem_of_mem_drop hd
      · refine ⟨a3, b3, c, 2, rfl, rfl, hw3, by decide, fun d a4 b4 hd hw4 => ?_⟩
        dsimp only [wSeq, wNext, wSet, wC, wArg, wCons, wNil, wVar, wUn, wBin, wTest, wIfE, wIf, wRet, wDrop, wPar, wPar3, wAsg, wNot, wNotT, wAndT, wOrT, wAnd, wOr, wTup, wFrz, few, unD, fIsi, asData, wChain, nth, fLen, asSeq, asLst, asTup, asDct, bIx, startE, List.map, List.replicate, List.length, List.set, LcStep, lcStep, wipeE, dV, dRow, dT, dP, dN, Tg.w, Tgs.ws, lenIs, Tgs.len, fList, newO, cEq, cNe, cEqB, cLt, cLe, cGt, cGe, bInt0, bInt, bSub, cInQ, cInB, cInS, id, Bool.not, fBools, unB, wGT, wGs, wSub, sL, ownL, valsD, setO, mApp, wMt, backW, putA]
        rw [xp]
        exact kk (.tup (ds.set p d)) a4 b4 (tame_tup.mpr ⟨ls d, sd d (tame_mono (by decide) (by decide) d 3 n (by omega) hd)⟩) hw4
      · dsimp only [wLst, newO, uNeg, wSeq, wNext, wSet, wC, wArg, wCons, wNil, wVar, wUn, wBin, wTest, wIfE, wIf, wRet, wDrop, wPar, wPar3, wAsg, wNot, wNotT, wAndT, wOrT, wAnd, wOr, wTup, wFrz, few, unD, fIsi, asData, wChain, nth, fLen, asSeq, asLst, asTup, asDct, bIx, startE, List.map, List.replicate, List.length, List.set, LcStep, lcStep, wipeE, dV, dRow, dT, dP, dN, Tg.w, Tgs.ws, lenIs, Tgs.len, fList, newO, cEq, cNe, cEqB, cLt, cLe, cGt, cGe, bInt0, bInt, bSub, cInQ, cInB, cInS, id, Bool.not, fBools, unB, wGT, wGs, wSub, sL, ownL, valsD, setO, mApp, wMt]
        refine ⟨a3, b3, c, 20, rfl, rfl, hw3, by decide, by decide, fun r a4 b4 q0 q1 hw4 => ?_⟩
        obtain ⟨y, ey, hy⟩ := near_get q0 q1
        dsimp only [wSeq, wNext, wSet, wC, wArg, wCons, wNil, wVar, wUn, wBin, wTest, wIfE, wIf, wRet, wDrop, wPar, wPar3, wAsg, wNot, wNotT, wAndT, wOrT, wAnd, wOr, wTup, wFrz, few, unD, fIsi, asData, wChain, nth, fLen, asSeq, asLst, asTup, asDct, bIx, startE, List.map, List.replicate, List.length, List.set, LcStep, lcStep, wipeE, dV, dRow, dT, dP, dN, Tg.w, Tgs.ws, lenIs, Tgs.len, fList, newO, cEq, cNe, cEqB, cLt, cLe, cGt, cGe, bInt0, bInt, bSub, cInQ, cInB, cInS, id, Bool.not, fBools, unB, wGT, wGs, wSub, sL, ownL, valsD, setO, mApp, wMt, backW, putA]
        unfold nearThings at ey
        rw [ey]
        dsimp only
        rw [xp]
        exact kk (.tup (ds.set p y)) a4 b4 (tame_tup.mpr ⟨ls y, sd y (tame_mono (by decide) (by decide) y 1 n (by omega) hy)⟩) hw4
      · dsimp only [wLst, newO, uNeg, wSeq, wNext, wSet, wC, wArg, wCons, wNil, wVar, wUn, wBin, wTest, wIfE, wIf, wRet, wDrop, wPar, wPar3, wAsg, wNot, wNotT, wAndT, wOrT, wAnd, wOr, wTup, wFrz, few, unD, fIsi, asData, wChain, nth, fLen, asSeq, asLst, asTup, asDct, bIx, startE, List.map, List.replicate, List.length, List.set, LcStep, lcStep, wipeE, dV, dRow, dT, dP, dN, Tg.w, Tgs.ws, lenIs, Tgs.len, fList, newO, cEq, cNe, cEqB, cLt, cLe, cGt, cGe, bInt0, bInt, bSub, cInQ, cInB, cInS, id, Bool.not, fBools, unB, wGT, wGs, wSub, sL, ownL, valsD, setO, mApp, wMt]
        refine ⟨a3, b3, c, 20, rfl, rfl, hw3, by decide, by decide, fun r a4 b4 q0 q1 hw4 => ?_⟩
        obtain ⟨y, ey, hy⟩ := near_get q0 q1
        dsimp only [wSeq, wNext, wSet, wC, wArg, wCons, wNil, wVar, wUn, wBin, wTest, wIfE, wIf, wRet, wDrop, wPar, wPar3, wAsg, wNot, wNotT, wAndT, wOrT, wAnd, wOr, wTup, wFrz, few, unD, fIsi, asData, wChain, nth, fLen, asSeq, asLst, asTup, asDct, bIx, startE, List.map, List.replicate, List.length, List.set, LcStep, lcStep, wipeE, dV, dRow, dT, dP, dN, Tg.w, Tgs.ws, lenIs, Tgs.len, fList, newO, cEq, cNe, cEqB, cLt, cLe, cGt, cGe, bInt0, bInt, bSub, cInQ, cInB, cInS, id, Bool.not, fBools, unB, wGT, wGs, wSub, sL, ownL, valsD, setO, mApp, wMt, backW, putA]
        unfold nearThings at ey
        rw [ey]
        dsimp only
        rw [xp]
        exact kk (.tup (ds.set p y)) a4 b4 (tame_tup.mpr ⟨ls y, sd y (tame_mono (by decide) (by decide) y 1 n (by omega) hy)⟩) hw4
      · have other : Q (.d (.lst ds)) [dWell a3 b3 c] := kk (.lst ds) a3 b3 (tame_lst.mpr ⟨by omega, fun d hd => up d (hds d hd)⟩) hw3
        rw [inst_int (tame_small (by decide) x n tx), inst_bool (tame_small (by decide) x n tx)]
        cases x with
        | int i =>
          dsimp only [isIntD, isBlD, Bool.or_false, wLst, newO, uNeg, wSeq, wNext, wSet, wC, wArg, wCons, wNil, wVar, wUn, wBin, wTest, wIfE, wIf, wRet, wDrop, wPar, wPar3, wAsg, wNot, wNotT, wAndT, wOrT, wAnd, wOr, wTup, wFrz, few, unD, fIsi, asData, wChain, nth, fLen, asSeq, asLst, asTup, asDct, bIx, startE, List.map, List.replicate, List.length, List.set, LcStep, lcStep, wipeE, dV, dRow, dT, dP, dN, Tg.w, Tgs.ws, lenIs, Tgs.len, fList, newO, cEq, cNe, cEqB, cLt, cLe, cGt, cGe, bInt0, bInt, bSub, cInQ, cInB, cInS, id, Bool.not, fBools, unB, wGT, wGs, wSub, sL, ownL, valsD, setO, mApp, wMt]
          show wCall sp__law_take _ _ _
          refine ⟨a3, b3, c, 4, rfl, rfl, hw3, by decide, by decide, fun r a4 b4 q0 q1 hw4 => ?_⟩
          obtain ⟨z, ez, hz⟩ := step_get q0 q1
          dsimp only [wSeq, wNext, wSet, wC, wArg, wCons, wNil, wVar, wUn, wBin, wTest, wIfE, wIf, wRet, wDrop, wPar, wPar3, wAsg, wNot, wNotT, wAndT, wOrT, wAnd, wOr, wTup, wFrz, few, unD, fIsi, asData, wChain, nth, fLen, asSeq, asLst, asTup, asDct, bIx, startE, List.map, List.replicate, List.length, List.set, LcStep, lcStep, wipeE, dV, dRow, dT, dP, dN, Tg.w, Tgs.ws, lenIs, Tgs.len, fList, newO, cEq, cNe, cEqB, cLt, cLe, cGt, cGe, bInt0, bInt, bSub, cInQ, cInB, cInS, id, Bool.not, fBools, unB, wGT, wGs, wSub, sL, ownL, valsD, setO, mApp, wMt, backW, putA]
          rw [ez]
          dsimp only [bAdd, wSeq, wNext, wSet, wC, wArg, wCons, wNil, wVar, wUn, wBin, wTest, wIfE, wIf, wRet, wDrop, wPar, wPar3, wAsg, wNot, wNotT, wAndT, wOrT, wAnd, wOr, wTup, wFrz, few, unD, fIsi, asData, wChain, nth, fLen, asSeq, asLst, asTup, asDct, bIx, startE, List.map, List.replicate, List.length, List.set, LcStep, lcStep, wipeE, dV, dRow, dT, dP, dN, Tg.w, Tgs.ws, lenIs, Tgs.len, fList, newO, cEq, cNe, cEqB, cLt, cLe, cGt, cGe, bInt0, bInt, bSub, cInQ, cInB, cInS, id, Bool.not, fBools, unB, wGT, wGs, wSub, sL, ownL, valsD, setO, mApp, wMt]
          rw [xp]
          have ti := tame_int.mp tx
          exact kk (.tup (ds.set p (.int (i + z)))) a4 b4 (tame_tup.mpr ⟨ls _, sd _ (tame_int.mpr (by omega))⟩) hw4
        | bl b => exact other
        | non => exact other
        | str z => exact other
        | tup z => exact other
        | lst z => exact other
        | dct z => exact other
        | raw z => exact other
        | scr z => exact other
      · have other : Q (.d (.lst ds)) [dWell a3 b3 c] := kk (.lst ds) a3 b3 (tame_lst.mpr ⟨by omega, fun d hd => up d (hds d hd)⟩) hw3
        rw [inst_tup (tame_small (by decide) x n tx)]
        cases x with
        | tup z =>
          dsimp only [isTupD]
          rw [xp]
          refine kk (.tup (ds.set p (.lst z))) a3 b3 (tame_tup.mpr ⟨ls _, sd _ ?_⟩) hw3
          obtain ⟨n', rfl⟩ := tame_isn tx
          obtain ⟨z1, z2⟩ := tame_tup.mp tx
          exact tame_lst.mpr ⟨by omega, fun d hd => tame_mono (by decide) (by decide) d n' n' (Nat.le_refl _) (z2 d hd)⟩
        | int i => exact other
        | bl b => exact other
        | non => exact other
        | str z => exact other
        | lst z => exact other
        | dct z => exact other
        | raw z => exact other
        | scr z => exact other
      · have other : Q (.d (.lst ds)) [dWell a3 b3 c] := kk (.lst ds) a3 b3 (tame_lst.mpr ⟨by omega, fun d hd => up d (hds d hd)⟩) hw3
        rw [inst_str (tame_small (by decide) x n tx)]
        cases x with
        | str z =>
          dsimp only [isStrD, wLst, newO, uNeg, wSeq, wNext, wSet, wC, wArg, wCons, wNil, wVar, wUn, wBin, wTest, wIfE, wIf, wRet, wDrop, wPar, wPar3, wAsg, wNot, wNotT, wAndT, wOrT, wAnd, wOr, wTup, wFrz, few, unD, fIsi, asData, wChain, nth, fLen, asSeq, asLst, asTup, asDct, bIx, startE, List.map, List.replicate, List.length, List.set, LcStep, lcStep, wipeE, dV, dRow, dT, dP, dN, Tg.w, Tgs.ws, lenIs, Tgs.len, fList, newO, cEq, cNe, cEqB, cLt, cLe, cGt, cGe, bInt0, bInt, bSub, cInQ, cInB, cInS, id, Bool.not, fBools, unB, wGT, wGs, wSub, sL, ownL, valsD, setO, mApp, wMt]
          refine ⟨a3, b3, c, 4, rfl, rfl, hw3, by decide, by decide, fun r a4 b4 q0 q1 hw4 => ?_⟩
          obtain ⟨y, ey, hy, ok⟩ := sign_get q0 q1
          dsimp only [wSeq, wNext, wSet, wC, wArg, wCons, wNil, wVar, wUn, wBin, wTest, wIfE, wIf, wRet, wDrop, wPar, wPar3, wAsg, wNot, wNotT, wAndT, wOrT, wAnd, wOr, wTup, wFrz, few, unD, fIsi, asData, wChain, nth, fLen, asSeq, asLst, asTup, asDct, bIx, startE, List.map, List.replicate, List.length, List.set, LcStep, lcStep, wipeE, dV, dRow, dT, dP, dN, Tg.w, Tgs.ws, lenIs, Tgs.len, fList, newO, cEq, cNe, cEqB, cLt, cLe, cGt, cGe, bInt0, bInt, bSub, cInQ, cInB, cInS, id, Bool.not, fBools, unB, wGT, wGs, wSub, sL, ownL, valsD, setO, mApp, wMt, backW, putA]
          rw [ey]
          obtain ⟨t1, t2⟩ := tame_str.mp tx
          have ll : (z ++ y).length ≤ 200 := by rw [str_append_length]; omega
          dsimp only [bAdd, wSeq, wNext, wSet, wC, wArg, wCons, wNil, wVar, wUn, wBin, wTest, wIfE, wIf, wRet, wDrop, wPar, wPar3, wAsg, wNot, wNotT, wAndT, wOrT, wAnd, wOr, wTup, wFrz, few, unD, fIsi, asData, wChain, nth, fLen, asSeq, asLst, asTup, asDct, bIx, startE, List.map, List.replicate, List.length, List.set, LcStep, lcStep, wipeE, dV, dRow, dT, dP, dN, Tg.w, Tgs.ws, lenIs, Tgs.len, fList, newO, cEq, cNe, cEqB, cLt, cLe, cGt, cGe, bInt0, bInt, bSub, cInQ, cInB, cInS, id, Bool.not, fBools, unB, wGT, wGs, wSub, sL, ownL, valsD, setO, mApp, wMt]
          rw [xp]
          exact ⟨Nat.le_trans (Nat.add_le_add t1 hy) (by decide), kk (.tup (ds.set p (.str (z ++ y)))) a4 b4 (tame_tup.mpr ⟨ls _, sd _ (tame_str.mpr ⟨ll, str_append_ok t2 ok⟩)⟩) hw4⟩
        | int i => exact other
        | bl b => exact other
        | non => exact other
        | tup z => exact other
        | lst z => exact other
        | dct z => exact other
        | raw z => exact other
        | scr z => exact other
    dsimp only [wSeq, wNext, wSet, wC, wArg, wCons, wNil, wVar, wUn, wBin, wTest, wIfE, wIf, wRet, wDrop, wPar, wPar3, wAsg, wNot, wNotT, wAndT, wOrT, wAnd, wOr, wTup, wFrz, few, unD, fIsi, asData, wChain, nth, fLen, asSeq, asLst, asTup, asDct, bIx, startE, List.map, List.replicate, List.length, List.set, LcStep, lcStep, wipeE, dV, dRow, dT, dP, dN, Tg.w, Tgs.ws, lenIs, Tgs.len, fList, newO, backW, putA]
    simp only [List.cons_append, List.nil_append]
    dsimp only [wSeq, wNext, wSet, wC, wArg, wCons, wNil, wVar, wUn, wBin, wTest, wIfE, wIf, wRet, wDrop, wPar, wPar3, wAsg, wNot, wNotT, wAndT, wOrT, wAnd, wOr, wTup, wFrz, few, unD, fIsi, asData, wChain, nth, fLen, asSeq, asLst, asTup, asDct, bIx, startE, List.map, List.replicate, List.length, List.set, LcStep, lcStep, wipeE, dV, dRow, dT, dP, dN, Tg.w, Tgs.ws, lenIs, Tgs.len, fList, newO, backW, putA]
    rw [gx]
    dsimp only
    rw [inst_tup (tame_small (by decide) x n tx)]
    dsimp only
    have skip := rest a1 b1 hw1
    cases hxt : isTupD x with
    | false => exact skip
    | true =>
      dsimp only [cEq, cNe, cEqB, cLt, cLe, cGt, cGe, bInt0, bInt, bSub, cInQ, cInB, cInS, id, Bool.not, fBools, unB]
      by_cases hk : (0 : Int) < (k : Int)
      · rw [decide_eq_true hk]
        dsimp only [wSeq, wNext, wSet, wC, wArg, wCons, wNil, wVar, wUn, wBin, wTest, wIfE, wIf, wRet, wDrop, wPar, wPar3, wAsg, wNot, wNotT, wAndT, wOrT, wAnd, wOr, wTup, wFrz, few, unD, fIsi, asData, wChain, nth, fLen, asSeq, asLst, asTup, asDct, bIx, startE, List.map, List.replicate, List.length, List.set, LcStep, lcStep, wipeE, dV, dRow, dT, dP, dN, Tg.w, Tgs.ws, lenIs, Tgs.len, fList, newO]
        refine ⟨a1, b1, c, 4, rfl, rfl, hw1, by decide, by decide, fun r a2 b2 _ _ hw2 => ?_⟩
        dsimp only [wSeq, wNext, wSet, wC, wArg, wCons, wNil, wVar, wUn, wBin, wTest, wIfE, wIf, wRet, wDrop, wPar, wPar3, wAsg, wNot, wNotT, wAndT, wOrT, wAnd, wOr, wTup, wFrz, few, unD, fIsi, asData, wChain, nth, fLen, asSeq, asLst, asTup, asDct, bIx, startE, List.map, List.replicate, List.length, List.set, LcStep, lcStep, wipeE, dV, dRow, dT, dP, dN, Tg.w, Tgs.ws, lenIs, Tgs.len, fList, newO, cEq, cNe, cEqB, cLt, cLe, cGt, cGe, bInt0, bInt, bSub, cInQ, cInB, cInS, id, Bool.not, fBools, unB, backW, putA]
        by_cases hr4 : (0 : Int) < r
        · rw [decide_eq_true hr4]
          dsimp only [wSeq, wNext, wSet, wC, wArg, wCons, wNil, wVar, wUn, wBin, wTest, wIfE, wIf, wRet, wDrop, wPar, wPar3, wAsg, wNot, wNotT, wAndT, wOrT, wAnd, wOr, wTup, wFrz, few, unD, fIsi, asData, wChain, nth, fLen, asSeq, asLst, asTup, asDct, bIx, startE, List.map, List.replicate, List.length, List.set, LcStep, lcStep, wipeE, dV, dRow, dT, dP, dN, Tg.w, Tgs.ws, lenIs, Tgs.len, fList, newO, cEq, cNe, cEqB, cLt, cLe, cGt, cGe, bInt0, bInt, bSub, cInQ, cInB, cInS, id, Bool.not, fBools, unB, backW, putA]
          cases x with
          | tup ys =>
            obtain ⟨n', rfl⟩ := tame_isn tx
            show (match getI ds (p : Int) with | some x => _ | none => _)
            rw [gx]
            dsimp only [wSeq, wNext, wSet, wC, wArg, wCons, wNil, wVar, wUn, wBin, wTest, wIfE, wIf, wRet, wDrop, wPar, wPar3, wAsg, wNot, wNotT, wAndT, wOrT, wAnd, wOr, wTup, wFrz, few, unD, fIsi, asData, wChain, nth, fLen, asSeq, asLst, asTup, asDct, bIx, startE, List.map, List.replicate, List.length, List.set, LcStep, lcStep, wipeE, dV, dRow, dT, dP, dN, Tg.w, Tgs.ws, lenIs, Tgs.len, fList, newO, cEq, cNe, cEqB, cLt, cLe, cGt, cGe, bInt0, bInt, bSub, cInQ, cInB, cInS, id, Bool.not, fBools, unB, bMod, bMul, bFDiv, bPow, bAdd, bSub, bInt, bInt0, uNeg, backW, putA]
            refine ⟨a2, b2, c, k - 1, n' + 1, ys, ?_, rfl, hw2, by omega, by omega, by omega, tx, fun d a3 b3 hd hw3 => ?_⟩
            · rw [show ((k : Int) - 1) = ((k - 1 : Nat) : Int) by omega]; rfl
            · dsimp only [wSeq, wNext, wSet, wC, wArg, wCons, wNil, wVar, wUn, wBin, wTest, wIfE, wIf, wRet, wDrop, wPar, wPar3, wAsg, wNot, wNotT, wAndT, wOrT, wAnd, wOr, wTup, wFrz, few, unD, fIsi, asData, wChain, nth, fLen, asSeq, asLst, asTup, asDct, bIx, startE, List.map, List.replicate, List.length, List.set, LcStep, lcStep, wipeE, dV, dRow, dT, dP, dN, Tg.w, Tgs.ws, lenIs, Tgs.len, fList, newO, cEq, cNe, cEqB, cLt, cLe, cGt, cGe, bInt0, bInt, bSub, cInQ, cInB, cInS, id, Bool.not, fBools, unB, wGT, wGs, wSub, sL, ownL, valsD, setO, mApp, wMt, backW, putA]
              rw [ixD_nat hp]
              exact kk (.tup (ds.set p d)) a3 b3 (tame_tup.mpr ⟨by rw [List.length_set]; omega, setOk p d hd⟩) hw3
          | _ => cases hxt
        · rw [decide_eq_false hr4]
          exact rest a2 b2 hw2
      · rw [decide_eq_false hk]
        exact skip
theorem ok__law_otherwise (h : Has K mg "_law_otherwise" st__law_otherwise ["well", "thing", "deep"]) (T : Blt mg) (c__law_thing : Cal P w K mg base 5 "_law_thing" ["well", "deep"] sp__law_thing) (c__law_take : Cal P w K mg base 1 "_law_take" ["well", "many"] sp__law_take) : Cal P w K mg base 10 "_law_otherwise" ["well", "thing", "deep"] sp__law_otherwise := by
  have r0 : Cal P w K mg base 5 "_law_otherwise" ["well", "thing", "deep"] (spR__law_otherwise 0) := (Cal.never (k := 5) h).imp fun args own Q E z => zeroR__law_otherwise z
  have r1 := rec__law_otherwise (P := P) (w := w) (base := base) 0 5 (by decide) h T c__law_thing c__law_take r0
  have r2 := rec__law_otherwise (P := P) (w := w) (base := base) 1 6 (by decide) h T c__law_thing c__law_take r1
  have r3 := rec__law_otherwise (P := P) (w := w) (base := base) 2 7 (by decide) h T c__law_thing c__law_take r2
  have r4 := rec__law_otherwise (P := P) (w := w) (base := base) 3 8 (by decide) h T c__law_thing c__law_take r3
  have r5 := rec__law_otherwise (P := P) (w := w) (base := base) 4 9 (by decide) h T c__law_thing c__law_take r4
  exact r5.imp fun args own Q E z => toR__law_otherwise z
end
end Bx
end

section
/-! The law k01: what is near to a net. -/
namespace Bx
open PySem L2 PySem.Spec PyProof.Rows
theorem smt {n : Nat} {xs : List D} (hl : xs.length ≤ 1000) (h : smalls n xs = true) : small (n + 1) (.tup xs) = true := by
  simp only [small]
  rw [decide_eq_true hl, h]; rfl
theorem sml {n : Nat} {xs : List D} (hl : xs.length ≤ 1000) (h : smalls n xs = true) : small (n + 1) (.lst xs) = true := by
  simp only [small]
  rw [decide_eq_true hl, h]; rfl
theorem smn {n : Nat} : smalls n [] = true := by simp only [smalls]
theorem smc {n : Nat} {x : D} {xs : List D} (h1 : small n x = true) (h2 : smalls n xs = true) : smalls n (x :: xs) = true := by
  simp only [smalls]
  rw [h1, h2]; rfl
theorem sm_i {i : Int} (n : Nat) : small n (.int i) = true := by simp only [small]
theorem sm_b {b : Bool} (n : Nat) : small n (.bl b) = true := by simp only [small]
def zed : Str := "zed"
theorem hzed (n : Nat) : small n (.str zed) = true := by
  have : (decide (zed.length ≤ 1000) && PyData.strOk zed) = true := by decide +kernel
  simpa [small] using this
def rowsA (a b : Str) : List D := [.tup [.tup [.str a, .int 20], .tup [.str b, .int (-20)]], .tup [.tup [.str a, .int 21], .tup [.str b, .int 1]], .tup [.tup [.str a, .int 0], .tup [.str b, .int 1]], .tup [.tup [.str b, .int 1], .tup [.str a, .int 1]], .tup [.tup [.str a, .int 1], .tup [.str a, .int 2]], .tup [.tup [.str a, .int 1]]]
def rowsB (a b : Str) : List D := [.tup [.tup [.str a, .int 1], .tup [.str zed, .int 1]], .tup [.tup [.str a, .bl true], .tup [.str b, .int 1]], .lst [.tup [.str a, .int 1], .tup [.str b, .int 1]], .tup [.tup [.str a, .int 1], .str b], .tup []]
theorem rowsA_small {a b : Str} (ha : ∀ n, small n (.str a) = true) (hb : ∀ n, small n (.str b) = true) : ∀ d ∈ rowsA a b, small 50 d = true := by
  intro d hd
  unfold rowsA at hd
  simp only [List.mem_cons, List.not_mem_nil, or_false] at hd
  rcases hd with rfl | rfl | rfl | rfl | rfl | rfl
  · exact (smt (by simp) (smc (smt (by simp) (smc (ha _) (smc (sm_i _) smn))) (smc (smt (by simp) (smc (hb _) (smc (sm_i _) smn))) smn)))
  · exact (smt (by simp) (smc (smt (by simp) (smc (ha _) (smc (sm_i _) smn))) (smc (smt (by simp) (smc (hb _) (smc (sm_i _) smn))) smn)))
  · exact (smt (by simp) (smc (smt (by simp) (smc (ha _) (smc (sm_i _) smn))) (smc (smt (by simp) (smc (hb _) (smc (sm_i _) smn))) smn)))
  · exact (smt (by simp) (smc (smt (by simp) (smc (hb _) (smc (sm_i _) smn))) (smc (smt (by simp) (smc (ha _) (smc (sm_i _) smn))) smn)))
  · exact (smt (by simp) (smc (smt (by simp) (smc (ha _) (smc (sm_i _) smn))) (smc (smt (by simp) (smc (ha _) (smc (sm_i _) smn))) smn)))
  · exact (smt (by simp) (smc (smt (by simp) (smc (ha _) (smc (sm_i _) smn))) smn))
theorem rowsB_small {a b : Str} (ha : ∀ n, small n (.str a) = true) (hb : ∀ n, small n (.str b) = true) : ∀ d ∈ rowsB a b, small 50 d = true := by
  intro d hd
  unfold rowsB at hd
  simp only [List.mem_cons, List.not_mem_nil, or_false] at hd
  rcases hd with rfl | rfl | rfl | rfl | rfl
  · exact (smt (by simp) (smc (smt (by simp) (smc (ha _) (smc (sm_i _) smn))) (smc (smt (by simp) (smc (hzed _) (smc (sm_i _) smn))) smn)))
  · exact (smt (by simp) (smc (smt (by simp) (smc (ha _) (smc (sm_b _) smn))) (smc (smt (by simp) (smc (hb _) (smc (sm_i _) smn))) smn)))
  · exact (sml (by simp) (smc (smt (by simp) (smc (ha _) (smc (sm_i _) smn))) (smc (smt (by simp) (smc (hb _) (smc (sm_i _) smn))) smn)))
  · exact (smt (by simp) (smc (smt (by simp) (smc (ha _) (smc (sm_i _) smn))) (smc (hb _) smn)))
  · exact (smt (by simp) smn)
theorem net_parts {N : Net} (hN : NetOk N) : small 50 (.tup (N.shafts.map dS)) = true ∧ small 50 (.tup (N.boxes.map dBox)) = true := by
  obtain ⟨m, e, _, h⟩ := small_tup hN.sm
  have e : m = 9 := by omega
  subst e
  exact ⟨small_le (h _ (by simp)) (by decide), small_le (h _ (by simp)) (by decide)⟩
theorem small_lst {n : Nat} {ds : List D} (h : small n (.tup ds) = true) : small n (.lst ds) = true := by
  cases n with
  | zero => simp [small] at h
  | succ n => simpa [small] using h
/-- what the law writes first -/
def firstK (N : Net) : List D := [.tup [.tup (N.shafts.map dS), .tup (N.boxes.map dBox)], .lst [.tup (N.shafts.map dS), .tup (N.boxes.map dBox)], .tup [.tup (N.shafts.map dS), .lst (N.boxes.map dBox)], .tup [.lst (N.shafts.map dS), .tup (N.boxes.map dBox)],
  .tup (cutD [.tup (N.shafts.map dS), .tup (N.boxes.map dBox)] none (some 1)), .tup [.tup (N.shafts.map dS).reverse, .tup (N.boxes.map dBox)], .tup [.tup [], .tup []]]
theorem firstK_small {N : Net} (hN : NetOk N) : ∀ d ∈ firstK N, small 60 d = true := by
  obtain ⟨h1, h2⟩ := net_parts hN
  have h1' : small 59 (.tup (N.shafts.map dS)) = true := small_le h1 (by decide)
  have h2' : small 59 (.tup (N.boxes.map dBox)) = true := small_le h2 (by decide)
  have h3 : small 59 (.tup (N.shafts.map dS).reverse) = true := by
    obtain ⟨m, e, hl, h⟩ := small_tup h1
    have e : m = 49 := by omega
    subst e
    exact small_le (small_tup_of (n := 49) (by rw [List.length_reverse]; exact hl) fun d hd => h d (List.mem_reverse.mp hd)) (by decide)
  intro d hd
  unfold firstK at hd
  simp only [List.mem_cons, List.not_mem_nil, or_false] at hd
  rcases hd with rfl | rfl | rfl | rfl | rfl | rfl | rfl
  · exact smt (by simp) (smc h1' (smc h2' smn))
  · exact sml (by simp) (smc h1' (smc h2' smn))
  · exact smt (by simp) (smc h1' (smc (small_lst h2') smn))
  · exact smt (by simp) (smc (small_lst h1') (smc h2' smn))
  · rw [show cutD [D.tup (N.shafts.map dS), .tup (N.boxes.map dBox)] none (some 1) = [.tup (N.shafts.map dS)] from rfl]
    exact smt (by simp) (smc h1' smn)
  · exact smt (by simp) (smc h3 (smc h2' smn))
  · rfl
theorem cut_two {s0 s1 : Str} {rest : List Str} : cutD ((s0 :: s1 :: rest).map dS) none (some 2) = [dS s0, dS s1] := by
  unfold cutD
  rw [show HT.sIx _ 0 none = 0 from rfl, show (2 : Int) = ((2 : Nat) : Int) from rfl, HT.sIx_nat]
  simp
def ten : Str := "abcdefghij"
theorem ten_cut {r : Int} (h0 : 0 ≤ r) (h3 : r < 3) : (cutS ten none (some (7 + r))).cps.size ≤ 1000 ∧ small 50 (.tup (chrD (cutS ten none (some (7 + r))))) = true := by
  rcases (by omega : r = 0 ∨ r = 1 ∨ r = 2) with rfl | rfl | rfl <;> decide +kernel
theorem reps_small {n m : Nat} {x : D} (h : small n x = true) (hm : m ≤ 1000) : small (n + 1) (.tup (List.replicate m [x]).flatten) = true := by
  have e : ∀ k : Nat, (List.replicate k [x]).flatten = List.replicate k x := fun k => by
    induction k with
    | zero => rfl
    | succ k ih => rw [List.replicate_succ, List.flatten_cons, ih]; rfl
  rw [e]
  exact small_tup_of (by rw [List.length_replicate]; exact hm) fun d hd => by rw [List.eq_of_mem_replicate hd]; exact h
theorem names8_tame : ∀ s ∈ names8, tame 100 (2 ^ 40) 1 (.str s) = true := by
  have : names8.all (fun s => tame 100 (2 ^ 40) 1 (.str s)) = true := by decide +kernel
  exact fun s hs => List.all_eq_true.mp this s hs
theorem tame_net {N : Net} (hN : NetOk N) (hS : ShOk N.shafts) : tame 100 (2 ^ 40) 12 (.tup [.tup (N.shafts.map dS), .tup (N.boxes.map dBox)]) = true := by
  have h8 := hS.len
  have hb8 := hN.parts.2.1
  have up : ∀ s ∈ N.shafts, ∀ n, 1 ≤ n → tame 100 (2 ^ 40) n (.str s) = true := fun s hs n h => tame_mono (Nat.le_refl _) (Nat.le_refl _) _ 1 n h (names8_tame s (hS.sub.subset hs))
  refine tame_tup.mpr ⟨by simp, fun d hd => ?_⟩
  simp only [List.mem_cons, List.not_mem_nil, or_false] at hd
  rcases hd with rfl | rfl
  · refine tame_tup.mpr ⟨by rw [List.length_map]; omega, fun d hd => ?_⟩
    obtain ⟨s, hs, rfl⟩ := List.mem_map.mp hd
    exact up s hs _ (by decide)
  · refine tame_tup.mpr ⟨by rw [List.length_map]; omega, fun d hd => ?_⟩
    obtain ⟨bx, hb, rfl⟩ := List.mem_map.mp hd
    have hbo := hN.parts.2.2 bx hb
    obtain ⟨hl, hn⟩ := boxD_names hbo
    refine tame_tup.mpr ⟨by rw [List.length_map]; omega, fun d hd => ?_⟩
    obtain ⟨p, hp, rfl⟩ := List.mem_map.mp hd
    refine tame_tup.mpr ⟨by simp, fun d hd => ?_⟩
    simp only [List.mem_cons, List.not_mem_nil, or_false] at hd
    rcases hd with rfl | rfl
    · exact up p.1 (hn p hp) _ (by decide)
    · exact tame_int.mpr (Nat.le_trans (box_le hbo hp) (by decide))
def lastK : D := .tup [.tup [.str "a", .str "b", .str "c", .str "d"], .tup [.tup [.tup [.str "a", .int 1], .tup [.str "b", .int 1], .tup [.str "c", .int 1], .tup [.str "d", .int 1]]]]
theorem lastK_small : small 60 lastK = true := by decide +kernel
theorem oneK_small : small 60 (.tup [.tup [.str "a"], .tup []]) = true := by decide +kernel
theorem nx_mk {f : S → Prop} {rt bk ct ex s} (h : f s) : (EndsP.mk f rt bk ct ex).nx s := h
theorem nx_seq {A B : TPs} {E0 : EndsP} {rt bk ct ex s} (h : A ⟨B E0, E0.rt, E0.bk, E0.ct, E0.ex⟩ s) : (EndsP.mk (wSeq A B E0) rt bk ct ex).nx s := h
/-- what is no net -/
theorem bad_at {r : Int} (h0 : 0 ≤ r) (h4 : r < 4) : ∃ d, getI [D.non, .tup [.tup [], .tup []], .tup [.tup [.str (Str.ofString "b"), .str (Str.ofString "a")], .tup []], .tup [.tup [.str (Str.ofString "a")], .non]] r = some d ∧ small 60 d = true ∧ netD d = false := by
  rcases (by omega : r = 0 ∨ r = 1 ∨ r = 2 ∨ r = 3) with rfl | rfl | rfl | rfl
  · exact ⟨_, rfl, by decide +kernel, by decide +kernel⟩
  · exact ⟨_, rfl, by decide +kernel, by decide +kernel⟩
  · exact ⟨_, rfl, by decide +kernel, by decide +kernel⟩
  · exact ⟨_, rfl, by decide +kernel, by decide +kernel⟩
end Bx
end

section
namespace Bx
open PySem L2 PySem.Spec PyProof.Rows
section
variable {P : Program} {w : World} {K : PySem.W.Frag} {mg : Str → Option Value} {base : Heap}
abbrev st__law_near : Stmt := topS 87
abbrev scN__law_near : List Str := ["well", "net", "shafts", "boxes", "found", "a", "b", "rows", "box", "many"]
theorem sc__law_near : FnScope scN__law_near ["well", "net"] (defScope st__law_near) := ⟨rfl, rfl, rfl, by decide +kernel, rfl, by decide +kernel, by decide +kernel⟩
theorem ok__law_near (h : Has K mg "_law_near" st__law_near ["well", "net"]) (T : Blt mg) (c__law_thing : Cal P w K mg base 5 "_law_thing" ["well", "deep"] sp__law_thing) (c__law_otherwise : Cal P w K mg base 10 "_law_otherwise" ["well", "thing", "deep"] sp__law_otherwise) (c__law_take : Cal P w K mg base 1 "_law_take" ["well", "many"] sp__law_take) : Cal P w K mg base 11 "_law_near" ["well", "net"] sp__law_near := by
  refine mkP h sc__law_near (fun args own Q E z => len__law_near z) (fun f cdv A outer s H E hr => (pps_cons (pp_asg (ppv 1) (ppg_tg (.tup (.cons (.nm 2) (.cons (.nm 3) .nil))) (pg_tup rfl (pgs_cons (pg_name (i := 2) sc__law_near.nd rfl (Or.inl rfl)) (pgs_cons (pg_name (i := 3) sc__law_near.nd rfl (Or.inl rfl)) pgs_nil)))))
      (pps_cons (pp_set (i := 4) sc__law_near.nd rfl (Or.inl rfl) (pp_lst true (ppa_cons (ppv 1) (ppa_cons (pp_listB false T rfl (ppa_cons (ppv 1) ppa_nil)) (ppa_cons (pp_tup (ppa_cons (ppv 2) (ppa_cons (pp_listB false T rfl (ppa_cons (ppv 3) ppa_nil)) ppa_nil))) (ppa_cons (pp_tup (ppa_cons (pp_listB false T rfl (ppa_cons (ppv 2) ppa_nil)) (ppa_cons (ppv 3) ppa_nil))) (ppa_cons (pp_slice false (ppv 1) ppo_none (ppo_some pp_int)) (ppa_cons (pp_tup (ppa_cons (pp_revT (ppv 2)) (ppa_cons (ppv 3) ppa_nil))) (ppa_cons (pp_tup (ppa_cons (pp_tup ppa_nil) (ppa_cons (pp_tup ppa_nil) ppa_nil))) ppa_nil)))))))))
      (pps_cons (pp_asg (pp_slice false (ppv 2) ppo_none (ppo_some pp_int)) (ppg_tg (.tup (.cons (.nm 5) (.cons (.nm 6) .nil))) (pg_tup rfl (pgs_cons (pg_name (i := 5) sc__law_near.nd rfl (Or.inl rfl)) (pgs_cons (pg_name (i := 6) sc__law_near.nd rfl (Or.inl rfl)) pgs_nil)))))
      (pps_cons (pp_set (i := 7) sc__law_near.nd rfl (Or.inl rfl) (pp_lst false (ppa_cons (pp_tup (ppa_cons (pp_tup (ppa_cons (ppv 5) (ppa_cons pp_int ppa_nil))) (ppa_cons (pp_tup (ppa_cons (ppv 6) (ppa_cons (pp_neg pp_int) ppa_nil))) ppa_nil))) (ppa_cons (pp_tup (ppa_cons (pp_tup (ppa_cons (ppv 5) (ppa_cons pp_int ppa_nil))) (ppa_cons (pp_tup (ppa_cons (ppv 6) (ppa_cons pp_int ppa_nil))) ppa_nil))) (ppa_cons (pp_tup (ppa_cons (pp_tup (ppa_cons (ppv 5) (ppa_cons pp_int ppa_nil))) (ppa_cons (pp_tup (ppa_cons (ppv 6) (ppa_cons pp_int ppa_nil))) ppa_nil))) (ppa_cons (pp_tup (ppa_cons (pp_tup (ppa_cons (ppv 6) (ppa_cons pp_int ppa_nil))) (ppa_cons (pp_tup (ppa_cons (ppv 5) (ppa_cons pp_int ppa_nil))) ppa_nil))) (ppa_cons (pp_tup (ppa_cons (pp_tup (ppa_cons (ppv 5) (ppa_cons pp_int ppa_nil))) (ppa_cons (pp_tup (ppa_cons (ppv 5) (ppa_cons pp_int ppa_nil))) ppa_nil))) ppa_nil)))))))
      (pps_cons (pp_for PassesOwn.never rfl (ppi_seq (pp_add false (ppv 7) (pp_lst false (ppa_cons (pp_tup (ppa_cons (pp_tup (ppa_cons (ppv 5) (ppa_cons pp_int ppa_nil))) ppa_nil)) ppa_nil)))) (ppg_tg (.nm 8) (pg_name (i := 8) sc__law_near.nd rfl (Or.inl rfl))) (pps_one (pp_expr (pp_app (ppv 4) (ppa_cons (pp_tup (ppa_cons (ppv 2) (ppa_cons (pp_tup (ppa_cons (ppv 8) ppa_nil)) ppa_nil))) ppa_nil)))))
      (pps_cons (pp_for PassesOwn.never rfl (ppi_seq (pp_lst false (ppa_cons (pp_tup (ppa_cons (pp_tup (ppa_cons (ppv 5) (ppa_cons pp_int ppa_nil))) (ppa_cons (pp_tup (ppa_cons pp_str (ppa_cons pp_int ppa_nil))) ppa_nil))) (ppa_cons (pp_tup (ppa_cons (pp_tup (ppa_cons (ppv 5) (ppa_cons pp_bl ppa_nil))) (ppa_cons (pp_tup (ppa_cons (ppv 6) (ppa_cons pp_int ppa_nil))) ppa_nil))) (ppa_cons (pp_lst false (ppa_cons (pp_tup (ppa_cons (ppv 5) (ppa_cons pp_int ppa_nil))) (ppa_cons (pp_tup (ppa_cons (ppv 6) (ppa_cons pp_int ppa_nil))) ppa_nil))) (ppa_cons (pp_tup (ppa_cons (pp_tup (ppa_cons (ppv 5) (ppa_cons pp_int ppa_nil))) (ppa_cons (ppv 6) ppa_nil))) (ppa_cons (pp_tup ppa_nil) ppa_nil))))))) (ppg_tg (.nm 8) (pg_name (i := 8) sc__law_near.nd rfl (Or.inl rfl))) (pps_one (pp_expr (pp_app (ppv 4) (ppa_cons (pp_tup (ppa_cons (ppv 2) (ppa_cons (pp_tup (ppa_cons (ppv 8) ppa_nil)) ppa_nil))) ppa_nil)))))
      (pps_cons (pp_set (i := 9) sc__law_near.nd rfl (Or.inl rfl) (pp_add false pp_int (pp_callC c__law_take hr (by decide) rfl (ppa_cons (ppv 0) (ppa_cons pp_int ppa_nil)))))
      (pps_cons (pp_set (i := 4) sc__law_near.nd rfl (Or.inl rfl) (pp_add true (ppv 4) (pp_lst false (ppa_cons (pp_tup (ppa_cons (ppv 2) (ppa_cons (pp_mul false (pp_tup (ppa_cons (pp_tup (ppa_cons (pp_tup (ppa_cons (ppv 5) (ppa_cons pp_int ppa_nil))) (ppa_cons (pp_tup (ppa_cons (ppv 6) (ppa_cons pp_int ppa_nil))) ppa_nil))) ppa_nil)) (ppv 9)) ppa_nil))) (ppa_cons (pp_tup (ppa_cons (pp_tupStr T rfl rfl (pp_slice false pp_str ppo_none (ppo_some (ppv 9)))) (ppa_cons (pp_tup ppa_nil) ppa_nil))) (ppa_cons (pp_tup (ppa_cons (pp_tup (ppa_cons pp_str ppa_nil)) (ppa_cons (pp_tup ppa_nil) ppa_nil))) ppa_nil))))))
      (pps_cons (pp_expr (pp_app (ppv 4) (ppa_cons (pp_tup (ppa_cons (pp_tup (ppa_cons pp_str (ppa_cons pp_str (ppa_cons pp_str (ppa_cons pp_str ppa_nil))))) (ppa_cons (pp_tup (ppa_cons (pp_tup (ppa_cons (pp_tup (ppa_cons pp_str (ppa_cons pp_int ppa_nil))) (ppa_cons (pp_tup (ppa_cons pp_str (ppa_cons pp_int ppa_nil))) (ppa_cons (pp_tup (ppa_cons pp_str (ppa_cons pp_int ppa_nil))) (ppa_cons (pp_tup (ppa_cons pp_str (ppa_cons pp_int ppa_nil))) ppa_nil))))) ppa_nil)) ppa_nil))) ppa_nil)))
      (pps_one (pp_ret (pp_add false (ppv 4) (pp_lst false (ppa_cons (pp_callC c__law_otherwise hr (by decide) rfl (ppa_cons (ppv 0) (ppa_cons (ppv 1) (ppa_cons pp_int ppa_nil)))) (ppa_cons (pp_callC c__law_otherwise hr (by decide) rfl (ppa_cons (ppv 0) (ppa_cons (ppv 1) (ppa_cons pp_int ppa_nil)))) (ppa_cons (pp_callC c__law_thing hr (by decide) rfl (ppa_cons (ppv 0) (ppa_cons pp_int ppa_nil))) ppa_nil))))))))))))))))) (fun args own Q E z => ?_)
  obtain ⟨a, b, c, N, rfl, rfl, hw, hN, hS, k⟩ := z
  have h8 := hN.few
  have h2 := hS.two
  obtain ⟨s0, s1, rest, es⟩ : ∃ s0 s1 rest, N.shafts = s0 :: s1 :: rest := by
    match e : N.shafts with
    | [] => rw [e] at h2; simp at h2
    | [x] => rw [e] at h2; simp at h2
    | x :: y :: r => exact ⟨x, y, r, rfl⟩
  have m0 : s0 ∈ N.shafts := by rw [es]; exact List.mem_cons_self
  have m1 : s1 ∈ N.shafts := by rw [es]; exact List.mem_cons_of_mem _ List.mem_cons_self
  have sm0 := names8_small s0 (hS.sub.subset m0)
  have sm1 := names8_small s1 (hS.sub.subset m1)
  obtain ⟨pS, pB⟩ := net_parts hN
  generalize hR3 : (wSeq (wSet 9 _) _ : TPs) = R3
  generalize hR2 : (wSeq (wFor (wSeqI (wLst false _)) _ _) R3 : TPs) = R2
  show (wSeq _ _) _ ⟨[some (.loc 0), some (.d (dNet N)), none, none, none, none, none, none, none, none], [some (dWell a b c)]⟩
  dsimp only [wSeq, wNext, wSet, wC, wArg, wCons, wNil, wVar, wUn, wBin, wTest, wIfE, wIf, wRet, wDrop, wPar, wPar3, wAsg, wNot, wNotT, wAndT, wOrT, wAnd, wOr, wTup, wFrz, few, unD, fIsi, asData, wChain, nth, fLen, asSeq, asLst, asTup, asDct, bIx, startE, List.map, List.replicate, List.length, List.set, LcStep, lcStep, wipeE, dV, dRow, dT, dP, dN, Tg.w, Tgs.ws, lenIs, Tgs.len, fList, newO, wGT, wGs, wSub, sL, ownL, valsD, setO, mApp, wMt, dNet, wLst, newO, fList, wSl, wNoPart, wPart, wRevT, uNeg]
  try rw [show cutD (N.shafts.map dS) none (some 2) = [dS s0, dS s1] by rw [es]; exact cut_two]
  try dsimp only [wSeq, wNext, wSet, wC, wArg, wCons, wNil, wVar, wUn, wBin, wTest, wIfE, wIf, wRet, wDrop, wPar, wPar3, wAsg, wNot, wNotT, wAndT, wOrT, wAnd, wOr, wTup, wFrz, few, unD, fIsi, asData, wChain, nth, fLen, asSeq, asLst, asTup, asDct, bIx, startE, List.map, List.replicate, List.length, List.set, LcStep, lcStep, wipeE, dV, dRow, dT, dP, dN, Tg.w, Tgs.ws, lenIs, Tgs.len, fList, newO, wGT, wGs, wSub, sL, ownL, valsD, setO, mApp, wMt, dNet, wLst, newO, fList, wSl, wNoPart, wPart, wRevT, uNeg]
  simp only [List.cons_append, List.nil_append]
  have app : ∀ (box : D), small 50 box = true → small 60 (.tup [.tup (N.shafts.map dS), .tup [box]]) = true := fun box h => smt (by simp) (smc (small_le pS (by decide)) (smc (smt (n := 58) (by simp) (smc (small_le h (by decide)) smn)) smn))
  refine wFor_inv (items := rowsA s0 s1) (s0 := ⟨[some (.loc 0), some (.d (dNet N)), some (.d (.tup (N.shafts.map dS))), some (.d (.tup (N.boxes.map dBox))), some (.loc 1), some (.d (.str s0)), some (.d (.str s1)), some (.d (.lst [.tup [.tup [.str s0, .int 20], .tup [.str s1, .int (-20)]], .tup [.tup [.str s0, .int 21], .tup [.str s1, .int 1]], .tup [.tup [.str s0, .int 0], .tup [.str s1, .int 1]], .tup [.tup [.str s1, .int 1], .tup [.str s0, .int 1]], .tup [.tup [.str s0, .int 1], .tup [.str s0, .int 2]]])), none, none], [some (dWell a b c), some (.lst (firstK N))]⟩) (rowsA s0 s1) id
    (fun i s => ∃ (e8 : Option Val) (L : List D), s = ⟨[some (.loc 0), some (.d (dNet N)), some (.d (.tup (N.shafts.map dS))), some (.d (.tup (N.boxes.map dBox))), some (.loc 1), some (.d (.str s0)), some (.d (.str s1)), some (.d (.lst [.tup [.tup [.str s0, .int 20], .tup [.str s1, .int (-20)]], .tup [.tup [.str s0, .int 21], .tup [.str s1, .int 1]], .tup [.tup [.str s0, .int 0], .tup [.str s1, .int 1]], .tup [.tup [.str s1, .int 1], .tup [.str s0, .int 1]], .tup [.tup [.str s0, .int 1], .tup [.str s0, .int 2]]])), e8, none], [some (dWell a b c), some (.lst L)]⟩ ∧ L.length = 7 + i ∧ ∀ d ∈ L, small 60 d = true) (fun Q z => ?_) (List.map_id _).symm ⟨_, firstK N, rfl, rfl, firstK_small hN⟩ ?_ ?_
  · dsimp only [wSeq, wNext, wSet, wC, wArg, wCons, wNil, wVar, wUn, wBin, wTest, wIfE, wIf, wRet, wDrop, wPar, wPar3, wAsg, wNot, wNotT, wAndT, wOrT, wAnd, wOr, wTup, wFrz, few, unD, fIsi, asData, wChain, nth, fLen, asSeq, asLst, asTup, asDct, bIx, startE, List.map, List.replicate, List.length, List.set, LcStep, lcStep, wipeE, dV, dRow, dT, dP, dN, Tg.w, Tgs.ws, lenIs, Tgs.len, fList, newO, wSeqI, wLst, newO, bAdd]
    exact ⟨by rw [sizeLine_eq]; omega, z⟩
  · rintro s ⟨e8, L, rfl, hL, hs⟩
    subst hR2
    refine nx_seq ?_
    generalize hRI : (wSeqI (wLst false _)) = RI
    refine wFor_inv (items := rowsB s0 s1) (s0 := ⟨[some (.loc 0), some (.d (dNet N)), some (.d (.tup (N.shafts.map dS))), some (.d (.tup (N.boxes.map dBox))), some (.loc 1), some (.d (.str s0)), some (.d (.str s1)), some (.d (.lst [.tup [.tup [.str s0, .int 20], .tup [.str s1, .int (-20)]], .tup [.tup [.str s0, .int 21], .tup [.str s1, .int 1]], .tup [.tup [.str s0, .int 0], .tup [.str s1, .int 1]], .tup [.tup [.str s1, .int 1], .tup [.str s0, .int 1]], .tup [.tup [.str s0, .int 1], .tup [.str s0, .int 2]]])), e8, none], [some (dWell a b c), some (.lst L)]⟩) (rowsB s0 s1) id
      (fun i s => ∃ (e8 : Option Val) (L : List D), s = ⟨[some (.loc 0), some (.d (dNet N)), some (.d (.tup (N.shafts.map dS))), some (.d (.tup (N.boxes.map dBox))), some (.loc 1), some (.d (.str s0)), some (.d (.str s1)), some (.d (.lst [.tup [.tup [.str s0, .int 20], .tup [.str s1, .int (-20)]], .tup [.tup [.str s0, .int 21], .tup [.str s1, .int 1]], .tup [.tup [.str s0, .int 0], .tup [.str s1, .int 1]], .tup [.tup [.str s1, .int 1], .tup [.str s0, .int 1]], .tup [.tup [.str s0, .int 1], .tup [.str s0, .int 2]]])), e8, none], [some (dWell a b c), some (.lst L)]⟩ ∧ L.length = 13 + i ∧ ∀ d ∈ L, small 60 d = true) (fun Q z => ?_) (List.map_id _).symm ⟨_, L, rfl, hL, hs⟩ ?_ ?_
    · subst hRI
      dsimp only [wSeq, wNext, wSet, wC, wArg, wCons, wNil, wVar, wUn, wBin, wTest, wIfE, wIf, wRet, wDrop, wPar, wPar3, wAsg, wNot, wNotT, wAndT, wOrT, wAnd, wOr, wTup, wFrz, few, unD, fIsi, asData, wChain, nth, fLen, asSeq, asLst, asTup, asDct, bIx, startE, List.map, List.replicate, List.length, List.set, LcStep, lcStep, wipeE, dV, dRow, dT, dP, dN, Tg.w, Tgs.ws, lenIs, Tgs.len, fList, newO, wSeqI, wLst, newO]
      exact z
    · rintro s ⟨e8, L, rfl, hL, hs⟩
      have hL : L.length = 18 := hL
      subst hR3
      refine nx_mk ?_
      dsimp only [wSeq, wNext, wSet, wC, wArg, wCons, wNil, wVar, wUn, wBin, wTest, wIfE, wIf, wRet, wDrop, wPar, wPar3, wAsg, wNot, wNotT, wAndT, wOrT, wAnd, wOr, wTup, wFrz, few, unD, fIsi, asData, wChain, nth, fLen, asSeq, asLst, asTup, asDct, bIx, startE, List.map, List.replicate, List.length, List.set, LcStep, lcStep, wipeE, dV, dRow, dT, dP, dN, Tg.w, Tgs.ws, lenIs, Tgs.len, fList, newO, wCall]
      refine ⟨a, b, c, 3, rfl, rfl, hw, by decide, by decide, fun r a1 b1 r0 r3 hw1 => ?_⟩
      dsimp only [wSeq, wNext, wSet, wC, wArg, wCons, wNil, wVar, wUn, wBin, wTest, wIfE, wIf, wRet, wDrop, wPar, wPar3, wAsg, wNot, wNotT, wAndT, wOrT, wAnd, wOr, wTup, wFrz, few, unD, fIsi, asData, wChain, nth, fLen, asSeq, asLst, asTup, asDct, bIx, startE, List.map, List.replicate, List.length, List.set, LcStep, lcStep, wipeE, dV, dRow, dT, dP, dN, Tg.w, Tgs.ws, lenIs, Tgs.len, fList, newO, backW, putA, bAdd, wLst, newO, bMul, wTupStr, wSl, wNoPart, wPart]
      obtain ⟨tc1, tc2⟩ := ten_cut r0 r3
      refine ⟨⟨by omega, by omega, by decide⟩, by rw [sizeLine_eq]; decide +kernel, tc1, by rw [hL, sizeLine_eq]; omega, ?_⟩
      have hX1 : small 60 (.tup [.tup [.str s0], .tup [.tup [.tup [.str s0, .int 1]]]]) = true := smt (by simp) (smc (smt (by simp) (smc (sm0 _) smn)) (smc (smt (by simp) (smc (smt (by simp) (smc (smt (by simp) (smc (sm0 _) (smc (sm_i _) smn))) smn)) smn)) smn))
      have hX2 : small 60 (.tup [.tup (chrD (cutS ten none (some (7 + r)))), .tup []]) = true := smt (by simp) (smc (small_le tc2 (by decide)) (smc (smt (by simp) smn) smn))
      have hX0 : small 60 (.tup [.tup (N.shafts.map dS), .tup (List.replicate (7 + r).toNat [D.tup [D.tup [D.str s0, .int 1], .tup [.str s1, .int 1]]]).flatten]) = true :=
        smt (by simp) (smc (small_le pS (by decide)) (smc (reps_small (n := 58) (smt (by simp) (smc (smt (by simp) (smc (sm0 _) (smc (sm_i _) smn))) (smc (smt (by simp) (smc (sm1 _) (smc (sm_i _) smn))) smn))) (by omega)) smn))
      clear hX1
      generalize hL3 : L ++ _ = L3
      have hl3 : L3.length = 21 := by rw [← hL3, List.length_append, hL]; rfl
      have hs3 : ∀ d ∈ L3, small 60 d = true := fun d hd => by
        rw [← hL3] at hd
        rcases List.mem_append.mp hd with h | h
        · exact hs d h
        · simp only [List.mem_cons, List.not_mem_nil, or_false] at h
          rcases h with rfl | rfl | rfl
          · exact hX0
          · exact hX2
          · exact oneK_small
      dsimp only [List.cons_append, List.nil_append]
      dsimp only [wSeq, wNext, wSet, wC, wArg, wCons, wNil, wVar, wUn, wBin, wTest, wIfE, wIf, wRet, wDrop, wPar, wPar3, wAsg, wNot, wNotT, wAndT, wOrT, wAnd, wOr, wTup, wFrz, few, unD, fIsi, asData, wChain, nth, fLen, asSeq, asLst, asTup, asDct, bIx, startE, List.map, List.replicate, List.length, List.set, LcStep, lcStep, wipeE, dV, dRow, dT, dP, dN, Tg.w, Tgs.ws, lenIs, Tgs.len, fList, newO, wGT, wGs, wSub, sL, ownL, valsD, setO, mApp, wMt]
      refine ⟨by rw [hl3, sizeLine_eq]; omega, ?_⟩
      generalize hL4 : L3 ++ _ = L4
      have hl4 : L4.length = 22 := by rw [← hL4, List.length_append, hl3]; rfl
      have hs4 : ∀ d ∈ L4, small 60 d = true := fun d hd => by
        rw [← hL4] at hd
        rcases List.mem_append.mp hd with h | h
        · exact hs3 d h
        · simp only [List.mem_cons, List.not_mem_nil, or_false] at h
          rw [h]; exact lastK_small
      dsimp only [wSeq, wNext, wSet, wC, wArg, wCons, wNil, wVar, wUn, wBin, wTest, wIfE, wIf, wRet, wDrop, wPar, wPar3, wAsg, wNot, wNotT, wAndT, wOrT, wAnd, wOr, wTup, wFrz, few, unD, fIsi, asData, wChain, nth, fLen, asSeq, asLst, asTup, asDct, bIx, startE, List.map, List.replicate, List.length, List.set, LcStep, lcStep, wipeE, dV, dRow, dT, dP, dN, Tg.w, Tgs.ws, lenIs, Tgs.len, fList, newO, wCall]
      refine ⟨a1, b1, c, 4, 12, [.tup (N.shafts.map dS), .tup (N.boxes.map dBox)], rfl, rfl, hw1, by decide, by decide, tame_net hN hS, fun o1 a2 b2 ho1 hw2 => ?_⟩
      dsimp only [wSeq, wNext, wSet, wC, wArg, wCons, wNil, wVar, wUn, wBin, wTest, wIfE, wIf, wRet, wDrop, wPar, wPar3, wAsg, wNot, wNotT, wAndT, wOrT, wAnd, wOr, wTup, wFrz, few, unD, fIsi, asData, wChain, nth, fLen, asSeq, asLst, asTup, asDct, bIx, startE, List.map, List.replicate, List.length, List.set, LcStep, lcStep, wipeE, dV, dRow, dT, dP, dN, Tg.w, Tgs.ws, lenIs, Tgs.len, fList, newO, backW, putA, wCall]
      refine ⟨a2, b2, c, 2, 12, [.tup (N.shafts.map dS), .tup (N.boxes.map dBox)], rfl, rfl, hw2, by decide, by decide, tame_net hN hS, fun o2 a3 b3 ho2 hw3 => ?_⟩
      dsimp only [wSeq, wNext, wSet, wC, wArg, wCons, wNil, wVar, wUn, wBin, wTest, wIfE, wIf, wRet, wDrop, wPar, wPar3, wAsg, wNot, wNotT, wAndT, wOrT, wAnd, wOr, wTup, wFrz, few, unD, fIsi, asData, wChain, nth, fLen, asSeq, asLst, asTup, asDct, bIx, startE, List.map, List.replicate, List.length, List.set, LcStep, lcStep, wipeE, dV, dRow, dT, dP, dN, Tg.w, Tgs.ws, lenIs, Tgs.len, fList, newO, backW, putA, wCall]
      refine ⟨a3, b3, c, 3, rfl, rfl, hw3, by decide, fun o3 a4 b4 ho3 hw4 => ?_⟩
      dsimp only [wSeq, wNext, wSet, wC, wArg, wCons, wNil, wVar, wUn, wBin, wTest, wIfE, wIf, wRet, wDrop, wPar, wPar3, wAsg, wNot, wNotT, wAndT, wOrT, wAnd, wOr, wTup, wFrz, few, unD, fIsi, asData, wChain, nth, fLen, asSeq, asLst, asTup, asDct, bIx, startE, List.map, List.replicate, List.length, List.set, LcStep, lcStep, wipeE, dV, dRow, dT, dP, dN, Tg.w, Tgs.ws, lenIs, Tgs.len, fList, newO, backW, putA, wCall]
      refine ⟨by show L4.length + 3 ≤ sizeLine; rw [hl4, sizeLine_eq]; omega, ?_⟩
      refine k _ a4 b4 (by rw [List.length_append, hl4]; show 22 + 3 ≤ 1000; omega) (fun d hd => ?_) hw4
      rcases List.mem_append.mp hd with h | h
      · exact hs4 d h
      · simp only [List.mem_cons, List.not_mem_nil, or_false] at h
        rcases h with rfl | rfl | rfl
        · exact small_le (tame_small (by decide) _ _ ho1) (by decide)
        · exact small_le (tame_small (by decide) _ _ ho2) (by decide)
        · exact small_le (tame_small (by decide) _ _ ho3) (by decide)
    · rintro i d s hx ⟨e8, L, rfl, hL, hs⟩
      have hd := rowsB_small sm0 sm1 d (List.mem_of_getElem? hx)
      have hi := (List.getElem?_eq_some_iff.mp hx).1
      have hi : i < 5 := hi
      dsimp only [wSeq, wNext, wSet, wC, wArg, wCons, wNil, wVar, wUn, wBin, wTest, wIfE, wIf, wRet, wDrop, wPar, wPar3, wAsg, wNot, wNotT, wAndT, wOrT, wAnd, wOr, wTup, wFrz, few, unD, fIsi, asData, wChain, nth, fLen, asSeq, asLst, asTup, asDct, bIx, startE, List.map, List.replicate, List.length, List.set, LcStep, lcStep, wipeE, dV, dRow, dT, dP, dN, Tg.w, Tgs.ws, lenIs, Tgs.len, fList, newO, wGT, wGs, wSub, sL, ownL, valsD, setO, mApp, wMt, id]
      refine ⟨by rw [sizeLine_eq]; omega, _, _, rfl, by rw [List.length_append, hL]; rfl, fun x hx => ?_⟩
      rcases List.mem_append.mp hx with h | h
      · exact hs x h
      · have : x = .tup [.tup (N.shafts.map dS), .tup [d]] := by simpa using h
        rw [this]; exact app d hd
  · rintro i d s hx ⟨e8, L, rfl, hL, hs⟩
    have hd := rowsA_small sm0 sm1 d (List.mem_of_getElem? hx)
    have hi := (List.getElem?_eq_some_iff.mp hx).1
    have hi : i < 6 := hi
    dsimp only [wSeq, wNext, wSet, wC, wArg, wCons, wNil, wVar, wUn, wBin, wTest, wIfE, wIf, wRet, wDrop, wPar, wPar3, wAsg, wNot, wNotT, wAndT, wOrT, wAnd, wOr, wTup, wFrz, few, unD, fIsi, asData, wChain, nth, fLen, asSeq, asLst, asTup, asDct, bIx, startE, List.map, List.replicate, List.length, List.set, LcStep, lcStep, wipeE, dV, dRow, dT, dP, dN, Tg.w, Tgs.ws, lenIs, Tgs.len, fList, newO, wGT, wGs, wSub, sL, ownL, valsD, setO, mApp, wMt, id]
    refine ⟨by rw [sizeLine_eq]; omega, _, _, rfl, by rw [List.length_append, hL]; rfl, fun x hx => ?_⟩
    rcases List.mem_append.mp hx with h | h
    · exact hs x h
    · have : x = .tup [.tup (N.shafts.map dS), .tup [d]] := by simpa using h
      rw [this]; exact app d hd
end
end Bx
end

section
namespace Bx
open PySem L2 PySem.Spec PyProof.Rows
section
variable {P : Program} {w : World} {K : PySem.W.Frag} {mg : Str → Option Value} {base : Heap}
abbrev st_law : Stmt := topS 88
abbrev scN_law : List Str := ["script", "k", "well", "net", "run", "thing", "good", "bad", "way"]
theorem sc_law : FnScope scN_law ["script"] (defScope st_law) := ⟨rfl, rfl, rfl, by decide +kernel, rfl, by decide +kernel, by decide +kernel⟩
theorem ok_law (h : Has K mg "law" st_law ["script"]) (T : Blt mg) (c__law_word : Cal P w K mg base 8 "_law_word" ["way", "thing"] sp__law_word) (c__law_take : Cal P w K mg base 1 "_law_take" ["well", "many"] sp__law_take) (c__law_near : Cal P w K mg base 11 "_law_near" ["well", "net"] sp__law_near) (c__law_says : Cal P w K mg base 1 "_law_says" ["found", "due"] sp__law_says) (c_is_net : Cal P w K mg base 4 "is_net" ["thing"] sp_is_net) (c__law_is_net : Cal P w K mg base 3 "_law_is_net" ["thing"] sp__law_is_net) (c__law_net : Cal P w K mg base 3 "_law_net" ["well", "top"] sp__law_net) (c__law_well : Cal P w K mg base 1 "_law_well" ["script", "k"] sp__law_well) : Cal P w K mg base 12 "law" ["script"] sp_law := by
  refine mkP h sc_law (fun args own Q E z => len_law z) (fun f cdv A outer s H E hr => (pps_cons (pp_for PassesOwn.never rfl (ppi_rng1 rfl T.range (ppa_cons (pp_max2B T rfl rfl (ppa_cons pp_int (ppa_cons (pp_min2B T rfl rfl (ppa_cons pp_int (ppa_cons (pp_lenB T rfl (ppa_cons (ppv 0) ppa_nil)) ppa_nil))) ppa_nil))) ppa_nil)) (ppg_tg (.nm 1) (pg_name (i := 1) sc_law.nd rfl (Or.inl rfl))) (pps_cons (pp_set (i := 2) sc_law.nd rfl (Or.inl rfl) (pp_callC c__law_well hr (by decide) rfl (ppa_cons (ppv 0) (ppa_cons (ppv 1) ppa_nil))))
      (pps_cons (pp_asg (pp_callC c__law_net hr (by decide) rfl (ppa_cons (ppv 2) (ppa_cons pp_int ppa_nil))) (ppg_tg (.ls (.cons (.nm 3) (.cons (.nm 4) .nil))) (pg_lst rfl (pgs_cons (pg_name (i := 3) sc_law.nd rfl (Or.inl rfl)) (pgs_cons (pg_name (i := 4) sc_law.nd rfl (Or.inl rfl)) pgs_nil)))))
      (pps_cons (pp_for PassesOwn.never rfl (ppi_seq (pp_callC c__law_near hr (by decide) rfl (ppa_cons (ppv 2) (ppa_cons (ppv 3) ppa_nil)))) (ppg_tg (.nm 5) (pg_name (i := 5) sc_law.nd rfl (Or.inl rfl))) (pps_cons (pp_set (i := 6) sc_law.nd rfl (Or.inl rfl) (pp_callC c__law_is_net hr (by decide) rfl (ppa_cons (ppv 5) ppa_nil)))
      (pps_cons (pp_if (ppt_not (ppt_val (pp_callC c__law_says hr (by decide) rfl (ppa_cons (pp_callC c_is_net hr (by decide) rfl (ppa_cons (ppv 5) ppa_nil)) (ppa_cons (ppv 6) ppa_nil))))) (pps_one (pp_ret pp_bl)) pps_nil)
      (pps_one (pp_if (ppt_w (ppw_and (ppt_not (ppt_val (ppv 6))) (ppw_and1 (ppt_ne hr (pp_callC c__law_word hr (by decide) rfl (ppa_cons (pp_callC c__law_take hr (by decide) rfl (ppa_cons (ppv 2) (ppa_cons pp_int ppa_nil))) (ppa_cons (ppv 5) ppa_nil))) pp_str)))) (pps_one (pp_ret pp_bl)) pps_nil)))))
      (pps_cons (pp_set (i := 7) sc_law.nd rfl (Or.inr rfl) (pp_ixA (pp_lst false (ppa_cons pp_non (ppa_cons (pp_tup (ppa_cons (pp_tup ppa_nil) (ppa_cons (pp_tup ppa_nil) ppa_nil))) (ppa_cons (pp_tup (ppa_cons (pp_tup (ppa_cons pp_str (ppa_cons pp_str ppa_nil))) (ppa_cons (pp_tup ppa_nil) ppa_nil))) (ppa_cons (pp_tup (ppa_cons (pp_tup (ppa_cons pp_str ppa_nil)) (ppa_cons pp_non ppa_nil))) ppa_nil))))) (pp_callC c__law_take hr (by decide) rfl (ppa_cons (ppv 2) (ppa_cons pp_int ppa_nil)))))
      (pps_one (pp_if (ppt_neN hr (pp_lc false (.nm 8) rfl sc_law.nd (ppi_rng1 rfl T.range (ppa_cons pp_int ppa_nil)) (blkOk_by (own := [("way", 8)]) (N := scN_law) (sc := defScope st_law) (by decide +kernel)) (by decide) (fun _ _ _ _ _ => by exact (pg_name (i := 8) sc_law.nd rfl (Or.inl rfl))) (fun _ _ _ _ _ => by exact (ppts_one (ppt_ne hr (pp_callC c__law_word hr (by decide) rfl (ppa_cons (ppv 8) (ppa_cons (ppv 7) ppa_nil))) pp_str))) (fun _ _ _ _ _ => by exact (ppv 8))) (pp_lst false ppa_nil)) (pps_one (pp_ret pp_bl)) pps_nil)))))))
      (pps_one (pp_ret pp_bl)))) (fun args own Q E z => ?_)
  obtain ⟨xs, rfl, rfl, hl, k⟩ := z
  generalize hR4 : (wSeq (wSet 7 _) _ : TPs) = R4
  generalize hB : (wSeq (wSet 6 _) _ : TPs) = B
  show (wSeq _ _) _ ⟨[some (.d (dScr xs)), none, none, none, none, none, none, none, none], []⟩
  dsimp only [wSeq, wNext, wSet, wC, wArg, wCons, wNil, wVar, wUn, wBin, wTest, wIfE, wIf, wRet, wDrop, wPar, wPar3, wAsg, wNot, wNotT, wAndT, wOrT, wAnd, wOr, wTup, wFrz, few, unD, fIsi, asData, wChain, nth, fLen, asSeq, asLst, asTup, asDct, bIx, startE, List.map, List.replicate, List.length, List.set, LcStep, lcStep, wipeE, dV, dRow, dT, dP, dN, Tg.w, Tgs.ws, lenIs, Tgs.len, fList, newO, wCall]
  obtain ⟨n, hn5, hn40, hn⟩ : ∃ n : Nat, 6 ≤ n ∧ n ≤ 40 ∧ max 6 (min 40 (xs.length : Int)) = (n : Int) := ⟨(max 6 (min 40 (xs.length : Int))).toNat, by omega, by omega, by omega⟩
  refine wFor_inv (items := intsD 0 n) (s0 := ⟨[some (.d (dScr xs)), none, none, none, none, none, none, none, none], []⟩) (List.range n) dN
    (fun i s => ∃ (own : List (Option D)) (e1 e2 e3 e4 e5 e6 e7 : Option Val), s = ⟨[some (.d (dScr xs)), e1, e2, e3, e4, e5, e6, e7, none], own⟩) (fun Q h => ?_) (intsD_map n) ⟨_, _, _, _, _, _, _, _, rfl⟩ ?_ ?_
  · dsimp only [wSeq, wNext, wSet, wC, wArg, wCons, wNil, wVar, wUn, wBin, wTest, wIfE, wIf, wRet, wDrop, wPar, wPar3, wAsg, wNot, wNotT, wAndT, wOrT, wAnd, wOr, wTup, wFrz, few, unD, fIsi, asData, wChain, nth, fLen, asSeq, asLst, asTup, asDct, bIx, startE, List.map, List.replicate, List.length, List.set, LcStep, lcStep, wipeE, dV, dRow, dT, dP, dN, Tg.w, Tgs.ws, lenIs, Tgs.len, fList, newO, dScr, fInt2, wRng1]
    rw [List.length_map, hn]
    exact ⟨by unfold RngOk; omega, h⟩
  · rintro s ⟨own, e1, e2, e3, e4, e5, e6, e7, rfl⟩
    exact k
  · rintro i x s hx ⟨own, e1, e2, e3, e4, e5, e6, e7, rfl⟩
    have hi : i < n := by simpa using (List.getElem?_eq_some_iff.mp hx).1
    obtain rfl : x = i := by
      rw [List.getElem?_range hi] at hx
      exact (Option.some.inj hx).symm
    dsimp only [wSeq, wNext, wSet, wC, wArg, wCons, wNil, wVar, wUn, wBin, wTest, wIfE, wIf, wRet, wDrop, wPar, wPar3, wAsg, wNot, wNotT, wAndT, wOrT, wAnd, wOr, wTup, wFrz, few, unD, fIsi, asData, wChain, nth, fLen, asSeq, asLst, asTup, asDct, bIx, startE, List.map, List.replicate, List.length, List.set, LcStep, lcStep, wipeE, dV, dRow, dT, dP, dN, Tg.w, Tgs.ws, lenIs, Tgs.len, fList, newO, wCall]
    refine ⟨xs, x, rfl, rfl, by omega, by omega, fun a b c hw => ?_⟩
    dsimp only [wSeq, wNext, wSet, wC, wArg, wCons, wNil, wVar, wUn, wBin, wTest, wIfE, wIf, wRet, wDrop, wPar, wPar3, wAsg, wNot, wNotT, wAndT, wOrT, wAnd, wOr, wTup, wFrz, few, unD, fIsi, asData, wChain, nth, fLen, asSeq, asLst, asTup, asDct, bIx, startE, List.map, List.replicate, List.length, List.set, LcStep, lcStep, wipeE, dV, dRow, dT, dP, dN, Tg.w, Tgs.ws, lenIs, Tgs.len, fList, newO, backW, putA, wCall, callW, splitA, freshN]
    rw [nth_push_self]
    dsimp only [freshN, List.any, Bool.not, Bool.and]
    refine ⟨a, b, c, 8, rfl, rfl, hw, by decide, by decide, fun N run a1 b1 hN hS _ hR hw1 => ?_⟩
    dsimp only [wSeq, wNext, wSet, wC, wArg, wCons, wNil, wVar, wUn, wBin, wTest, wIfE, wIf, wRet, wDrop, wPar, wPar3, wAsg, wNot, wNotT, wAndT, wOrT, wAnd, wOr, wTup, wFrz, few, unD, fIsi, asData, wChain, nth, fLen, asSeq, asLst, asTup, asDct, bIx, startE, List.map, List.replicate, List.length, List.set, LcStep, lcStep, wipeE, dV, dRow, dT, dP, dN, Tg.w, Tgs.ws, lenIs, Tgs.len, fList, newO, backW, putA, wCall]
    rw [set_push]
    clear hw a b
    refine wFor_then (fun items s0 => ∃ (a b : Int), (∀ d ∈ items, small 60 d = true) ∧ WellOk a b c ∧ s0 = ⟨[some (.d (dScr xs)), some (.d (dN x)), some (.loc own.length), some (.d (dNet N)), some (.d (.dct run)), e5, e6, e7, none], own ++ [some (dWell a b c)]⟩) (fun R h => ?_) ?_
    · dsimp only [wSeq, wNext, wSet, wC, wArg, wCons, wNil, wVar, wUn, wBin, wTest, wIfE, wIf, wRet, wDrop, wPar, wPar3, wAsg, wNot, wNotT, wAndT, wOrT, wAnd, wOr, wTup, wFrz, few, unD, fIsi, asData, wChain, nth, fLen, asSeq, asLst, asTup, asDct, bIx, startE, List.map, List.replicate, List.length, List.set, LcStep, lcStep, wipeE, dV, dRow, dT, dP, dN, Tg.w, Tgs.ws, lenIs, Tgs.len, fList, newO, wSeqI, wCall, callW, splitA, freshN]
      rw [nth_push_self]
      dsimp only [freshN, List.any, Bool.not, Bool.and]
      refine ⟨a1, b1, c, N, rfl, rfl, hw1, hN, hS, fun ds a b hl hd hw => ?_⟩
      dsimp only [wSeq, wNext, wSet, wC, wArg, wCons, wNil, wVar, wUn, wBin, wTest, wIfE, wIf, wRet, wDrop, wPar, wPar3, wAsg, wNot, wNotT, wAndT, wOrT, wAnd, wOr, wTup, wFrz, few, unD, fIsi, asData, wChain, nth, fLen, asSeq, asLst, asTup, asDct, bIx, startE, List.map, List.replicate, List.length, List.set, LcStep, lcStep, wipeE, dV, dRow, dT, dP, dN, Tg.w, Tgs.ws, lenIs, Tgs.len, fList, newO, backW, putA]
      rw [set_push]
      exact h _ _ ⟨a, b, hd, hw, rfl⟩
    · rintro ds s0 ⟨a, b, hd, hw, rfl⟩
      refine wFor_inv (s0 := ⟨[some (.d (dScr xs)), some (.d (dN x)), some (.loc own.length), some (.d (dNet N)), some (.d (.dct run)), e5, e6, e7, none], own ++ [some (dWell a b c)]⟩) ds id
        (fun i s => ∃ (a b : Int) (e5 e6 : Option Val), s = ⟨[some (.d (dScr xs)), some (.d (dN x)), some (.loc own.length), some (.d (dNet N)), some (.d (.dct run)), e5, e6, e7, none], own ++ [some (dWell a b c)]⟩ ∧ WellOk a b c) (fun Q h => h) (List.map_id _).symm ⟨a, b, _, _, rfl, hw⟩ ?_ ?_
      · rintro s ⟨a, b, e5, e6, rfl, hw⟩
        subst hR4
        refine nx_mk ?_
        dsimp only [wSeq, wNext, wSet, wC, wArg, wCons, wNil, wVar, wUn, wBin, wTest, wIfE, wIf, wRet, wDrop, wPar, wPar3, wAsg, wNot, wNotT, wAndT, wOrT, wAnd, wOr, wTup, wFrz, few, unD, fIsi, asData, wChain, nth, fLen, asSeq, asLst, asTup, asDct, bIx, startE, List.map, List.replicate, List.length, List.set, LcStep, lcStep, wipeE, dV, dRow, dT, dP, dN, Tg.w, Tgs.ws, lenIs, Tgs.len, fList, newO, wCall, callW, splitA]
        dsimp only [wSeq, wNext, wSet, wC, wArg, wCons, wNil, wVar, wUn, wBin, wTest, wIfE, wIf, wRet, wDrop, wPar, wPar3, wAsg, wNot, wNotT, wAndT, wOrT, wAnd, wOr, wTup, wFrz, few, unD, fIsi, asData, wChain, nth, fLen, asSeq, asLst, asTup, asDct, bIx, startE, List.map, List.replicate, List.length, List.set, LcStep, lcStep, wipeE, dV, dRow, dT, dP, dN, Tg.w, Tgs.ws, lenIs, Tgs.len, fList, newO, wLst, newO, callW, splitA]
        rw [nth_push_self]
        dsimp only [freshN, List.any, Bool.not, Bool.and, splitA]
        refine ⟨a, b, c, 4, rfl, rfl, hw, by decide, by decide, fun r a b r0 r4 hw => ?_⟩
        dsimp only [wSeq, wNext, wSet, wC, wArg, wCons, wNil, wVar, wUn, wBin, wTest, wIfE, wIf, wRet, wDrop, wPar, wPar3, wAsg, wNot, wNotT, wAndT, wOrT, wAnd, wOr, wTup, wFrz, few, unD, fIsi, asData, wChain, nth, fLen, asSeq, asLst, asTup, asDct, bIx, startE, List.map, List.replicate, List.length, List.set, LcStep, lcStep, wipeE, dV, dRow, dT, dP, dN, Tg.w, Tgs.ws, lenIs, Tgs.len, fList, newO, backW, putA]
        rw [set_push]
        obtain ⟨d, hd, sd, nd⟩ := bad_at r0 r4
        rw [hd]
        dsimp only [wSeq, wNext, wSet, wC, wArg, wCons, wNil, wVar, wUn, wBin, wTest, wIfE, wIf, wRet, wDrop, wPar, wPar3, wAsg, wNot, wNotT, wAndT, wOrT, wAnd, wOr, wTup, wFrz, few, unD, fIsi, asData, wChain, nth, fLen, asSeq, asLst, asTup, asDct, bIx, startE, List.map, List.replicate, List.length, List.set, LcStep, lcStep, wipeE, dV, dRow, dT, dP, dN, Tg.w, Tgs.ws, lenIs, Tgs.len, fList, newO]
        refine wLc_filter (items := intsD 0 10) (s0 := ⟨[some (.d (dScr xs)), some (.d (dN x)), some (.loc own.length), some (.d (dNet N)), some (.d (.dct run)), e5, e6, some (.d d), none], own ++ [some (dWell a b c)]⟩) (List.range 10) dN (fun _ => false) dN (fun Q h => ?_) (intsD_map 10) ?_ ?_
        · dsimp only [wSeq, wNext, wSet, wC, wArg, wCons, wNil, wVar, wUn, wBin, wTest, wIfE, wIf, wRet, wDrop, wPar, wPar3, wAsg, wNot, wNotT, wAndT, wOrT, wAnd, wOr, wTup, wFrz, few, unD, fIsi, asData, wChain, nth, fLen, asSeq, asLst, asTup, asDct, bIx, startE, List.map, List.replicate, List.length, List.set, LcStep, lcStep, wipeE, dV, dRow, dT, dP, dN, Tg.w, Tgs.ws, lenIs, Tgs.len, fList, newO, wRng1, fInt2]
          exact ⟨by unfold RngOk; omega, h⟩
        · rw [show (List.range 10).filter (fun _ => false) = [] from rfl]
          dsimp only [wSeq, wNext, wSet, wC, wArg, wCons, wNil, wVar, wUn, wBin, wTest, wIfE, wIf, wRet, wDrop, wPar, wPar3, wAsg, wNot, wNotT, wAndT, wOrT, wAnd, wOr, wTup, wFrz, few, unD, fIsi, asData, wChain, nth, fLen, asSeq, asLst, asTup, asDct, bIx, startE, List.map, List.replicate, List.length, List.set, LcStep, lcStep, wipeE, dV, dRow, dT, dP, dN, Tg.w, Tgs.ws, lenIs, Tgs.len, fList, newO, cNil, newO]
          rw [show (([] : List D)).isEmpty = true from rfl]
          dsimp only [Bool.not]
          exact ⟨_, _, _, _, _, _, _, _, rfl⟩
        · intro w hw' A F hA hF
          have hw10 : w < 10 := List.mem_range.mp hw'
          dsimp only [wSeq, wNext, wSet, wC, wArg, wCons, wNil, wVar, wUn, wBin, wTest, wIfE, wIf, wRet, wDrop, wPar, wPar3, wAsg, wNot, wNotT, wAndT, wOrT, wAnd, wOr, wTup, wFrz, few, unD, fIsi, asData, wChain, nth, fLen, asSeq, asLst, asTup, asDct, bIx, startE, List.map, List.replicate, List.length, List.set, LcStep, lcStep, wipeE, dV, dRow, dT, dP, dN, Tg.w, Tgs.ws, lenIs, Tgs.len, fList, newO, wCall]
          refine ⟨(w : Int), d, 60, rfl, rfl, by omega, by omega, sd, by decide, nd, ?_⟩
          dsimp only [wSeq, wNext, wSet, wC, wArg, wCons, wNil, wVar, wUn, wBin, wTest, wIfE, wIf, wRet, wDrop, wPar, wPar3, wAsg, wNot, wNotT, wAndT, wOrT, wAnd, wOr, wTup, wFrz, few, unD, fIsi, asData, wChain, nth, fLen, asSeq, asLst, asTup, asDct, bIx, startE, List.map, List.replicate, List.length, List.set, LcStep, lcStep, wipeE, dV, dRow, dT, dP, dN, Tg.w, Tgs.ws, lenIs, Tgs.len, fList, newO, backW, putA, cEq, cNe, cEqB, cLt, cLe, cGt, cGe, bInt0, bInt, bSub, cInQ, cInB, cInS, id, Bool.not, fBools, unB]
          rw [decide_eq_true (show Str.ofString "net" = Str.ofString "net" from rfl)]
          exact hF rfl
      · rintro i d s hx ⟨a, b, e5, e6, rfl, hw⟩
        have hdd := hd d (List.mem_of_getElem? hx)
        subst hB
        dsimp only [wSeq, wNext, wSet, wC, wArg, wCons, wNil, wVar, wUn, wBin, wTest, wIfE, wIf, wRet, wDrop, wPar, wPar3, wAsg, wNot, wNotT, wAndT, wOrT, wAnd, wOr, wTup, wFrz, few, unD, fIsi, asData, wChain, nth, fLen, asSeq, asLst, asTup, asDct, bIx, startE, List.map, List.replicate, List.length, List.set, LcStep, lcStep, wipeE, dV, dRow, dT, dP, dN, Tg.w, Tgs.ws, lenIs, Tgs.len, fList, newO, wCall, id]
        refine ⟨d, 60, rfl, rfl, hdd, by decide, ?_⟩
        dsimp only [wSeq, wNext, wSet, wC, wArg, wCons, wNil, wVar, wUn, wBin, wTest, wIfE, wIf, wRet, wDrop, wPar, wPar3, wAsg, wNot, wNotT, wAndT, wOrT, wAnd, wOr, wTup, wFrz, few, unD, fIsi, asData, wChain, nth, fLen, asSeq, asLst, asTup, asDct, bIx, startE, List.map, List.replicate, List.length, List.set, LcStep, lcStep, wipeE, dV, dRow, dT, dP, dN, Tg.w, Tgs.ws, lenIs, Tgs.len, fList, newO, backW, putA, wCall]
        refine ⟨d, 60, rfl, rfl, hdd, by decide, ?_⟩
        dsimp only [wSeq, wNext, wSet, wC, wArg, wCons, wNil, wVar, wUn, wBin, wTest, wIfE, wIf, wRet, wDrop, wPar, wPar3, wAsg, wNot, wNotT, wAndT, wOrT, wAnd, wOr, wTup, wFrz, few, unD, fIsi, asData, wChain, nth, fLen, asSeq, asLst, asTup, asDct, bIx, startE, List.map, List.replicate, List.length, List.set, LcStep, lcStep, wipeE, dV, dRow, dT, dP, dN, Tg.w, Tgs.ws, lenIs, Tgs.len, fList, newO, backW, putA, wCall]
        refine ⟨netD d, netD d, rfl, rfl, ?_⟩
        dsimp only [wSeq, wNext, wSet, wC, wArg, wCons, wNil, wVar, wUn, wBin, wTest, wIfE, wIf, wRet, wDrop, wPar, wPar3, wAsg, wNot, wNotT, wAndT, wOrT, wAnd, wOr, wTup, wFrz, few, unD, fIsi, asData, wChain, nth, fLen, asSeq, asLst, asTup, asDct, bIx, startE, List.map, List.replicate, List.length, List.set, LcStep, lcStep, wipeE, dV, dRow, dT, dP, dN, Tg.w, Tgs.ws, lenIs, Tgs.len, fList, newO, backW, putA, cEq, cNe, cEqB, cLt, cLe, cGt, cGe, bInt0, bInt, bSub, cInQ, cInB, cInS, id, Bool.not, fBools, unB]
        rw [decide_eq_true rfl]
        dsimp only [wSeq, wNext, wSet, wC, wArg, wCons, wNil, wVar, wUn, wBin, wTest, wIfE, wIf, wRet, wDrop, wPar, wPar3, wAsg, wNot, wNotT, wAndT, wOrT, wAnd, wOr, wTup, wFrz, few, unD, fIsi, asData, wChain, nth, fLen, asSeq, asLst, asTup, asDct, bIx, startE, List.map, List.replicate, List.length, List.set, LcStep, lcStep, wipeE, dV, dRow, dT, dP, dN, Tg.w, Tgs.ws, lenIs, Tgs.len, fList, newO, cEq, cNe, cEqB, cLt, cLe, cGt, cGe, bInt0, bInt, bSub, cInQ, cInB, cInS, id, Bool.not, fBools, unB]
        cases hnd : netD d with
        | true => exact ⟨a, b, _, _, rfl, hw⟩
        | false =>
          dsimp only [callW, splitA]
          rw [nth_push_self]
          dsimp only [freshN, List.any, Bool.not, Bool.and, splitA]
          refine ⟨a, b, c, 10, rfl, rfl, hw, by decide, by decide, fun r a b r0 r4 hw => ?_⟩
          dsimp only [wSeq, wNext, wSet, wC, wArg, wCons, wNil, wVar, wUn, wBin, wTest, wIfE, wIf, wRet, wDrop, wPar, wPar3, wAsg, wNot, wNotT, wAndT, wOrT, wAnd, wOr, wTup, wFrz, few, unD, fIsi, asData, wChain, nth, fLen, asSeq, asLst, asTup, asDct, bIx, startE, List.map, List.replicate, List.length, List.set, LcStep, lcStep, wipeE, dV, dRow, dT, dP, dN, Tg.w, Tgs.ws, lenIs, Tgs.len, fList, newO, backW, putA, wCall]
          rw [set_push]
          refine ⟨r, d, 60, rfl, rfl, r0, r4, hdd, by decide, hnd, ?_⟩
          dsimp only [wSeq, wNext, wSet, wC, wArg, wCons, wNil, wVar, wUn, wBin, wTest, wIfE, wIf, wRet, wDrop, wPar, wPar3, wAsg, wNot, wNotT, wAndT, wOrT, wAnd, wOr, wTup, wFrz, few, unD, fIsi, asData, wChain, nth, fLen, asSeq, asLst, asTup, asDct, bIx, startE, List.map, List.replicate, List.length, List.set, LcStep, lcStep, wipeE, dV, dRow, dT, dP, dN, Tg.w, Tgs.ws, lenIs, Tgs.len, fList, newO, backW, putA, cEq, cNe, cEqB, cLt, cLe, cGt, cGe, bInt0, bInt, bSub, cInQ, cInB, cInS, id, Bool.not, fBools, unB]
          rw [decide_eq_true (show Str.ofString "net" = Str.ofString "net" from rfl)]
          dsimp only [wSeq, wNext, wSet, wC, wArg, wCons, wNil, wVar, wUn, wBin, wTest, wIfE, wIf, wRet, wDrop, wPar, wPar3, wAsg, wNot, wNotT, wAndT, wOrT, wAnd, wOr, wTup, wFrz, few, unD, fIsi, asData, wChain, nth, fLen, asSeq, asLst, asTup, asDct, bIx, startE, List.map, List.replicate, List.length, List.set, LcStep, lcStep, wipeE, dV, dRow, dT, dP, dN, Tg.w, Tgs.ws, lenIs, Tgs.len, fList, newO, cEq, cNe, cEqB, cLt, cLe, cGt, cGe, bInt0, bInt, bSub, cInQ, cInB, cInS, id, Bool.not, fBools, unB]
          exact ⟨a, b, _, _, rfl, hw⟩
end
end Bx
end

section
/-! The end, where classes of refusals are handled. -/
namespace Bx
open PySem L2 PySem.Spec PyProof.Rows
def obKY (tu : List (Str × List Int)) (fa : List He.Fa) (fn : List He.DefD) (K : PySem.W.Frag) : Bool × He.AlD := (tuOk tu K && exB K, He.obsD fa fn K)
def obY (n : Nat) (tu : List (Str × List Int)) (fa : List He.Fa) (fn : List He.DefD) (g : Addr → Option Obj) : Bool × He.AlD := obKY tu fa fn (He.frG g (He.asD g n))
def hookY (n : Nat) (tu : List (Str × List Int)) (fa : List He.Fa) (fn : List He.DefD) : PySem.W.Hook where
  α := Bool × He.AlD
  obs := fun s => obY n tu fa fn s.heap.get?
  val := fun _ => (true, He.valD fn)
  says := fun _ h => ∃ K : PySem.W.Frag, K.In h ∧ tuOk tu K = true ∧ exB K = true ∧ He.SaysD fa fn K
  of := fun _ _ e => ⟨_, He.frG_in, (He.ba (congrArg Prod.fst e)).1, (He.ba (congrArg Prod.fst e)).2, congrArg Prod.snd e⟩
  keeps := fun _ _ _ ⟨K, hK, t, x, c⟩ k => ⟨K, PySem.W.Frag.In.keeps hK k, t, x, c⟩
theorem obY_eq {n : Nat} {tu : List (Str × List Int)} {fa : List He.Fa} {fn : List He.DefD} {g : Addr → Option Obj} {s : Shared} (h : ∀ a, g a = s.heap.get? a) : obY n tu fa fn g = (hookY n tu fa fn).obs s := by
  have e : g = s.heap.get? := funext h
  rw [e] <;> rfl
end Bx
end

section
namespace Bx
open PySem L2 PySem.Spec PyProof.Rows
abbrev RwO : PySem.W.OpenLaw := PySem.Challenge.rw_boxshafts_k01_what_are_nets
abbrev RwR : PySem.W.OpenRow := PySem.W.OpenLaw.row RwO
def hFa_0 : List He.Fa := [.glo "are_rising", .glo "are_of", .glo "is_whole", .glo "is_box", .glo "is_name", .glo "are_shafts", .glo "is_net", .glo "need_net", .glo "need_hands", .glo "turned", .glo "sum_of", .glo "is_turning", .glo "two_ways", .glo "reason", .glo "bars", .glo "held_so", .glo "fewest_held", .glo "at_will", .glo "parting", .glo "_law_kinds", .glo "_law_refusal", .glo "_law_word", .glo "_law_take", .glo "_law_thing", .glo "_law_otherwise", .glo "_law_near", .glo "_law_says", .glo "_law_is_int", .glo "_law_is_name", .glo "_law_is_box"]
def hFa_1 : List He.Fa := [.glo "_law_is_net", .glo "_law_box", .glo "_law_shafts", .glo "_law_net", .glo "_law_well", .glo "law", .free "len", .free "range", .free "zip", .free "enumerate", .free "abs", .free "min", .free "max", .free "sum", .free "all", .free "any", .free "int", .free "str", .free "bool", .free "tuple", .free "list", .free "dict", .free "set", .free "sorted", .free "isinstance", .int "MOST_NUMBER" 20, .str "LETTERS" "abcdefghijklmnopqrstuvwxyz", .int "MOST_SHAFTS" 8, .int "MOST_BOXES" 8]
def hFa : List He.Fa := hFa_0 ++ hFa_1
def hFn_0 : List He.DefD := [⟨("are_rising", none), "are_rising", "are_rising", defArgs st_are_rising, defBody st_are_rising, defScope st_are_rising, [], []⟩, ⟨("are_of", none), "are_of", "are_of", defArgs st_are_of, defBody st_are_of, defScope st_are_of, [], []⟩, ⟨("is_whole", none), "is_whole", "is_whole", defArgs st_is_whole, defBody st_is_whole, defScope st_is_whole, [], []⟩, ⟨("is_box", none), "is_box", "is_box", defArgs st_is_box, defBody st_is_box, defScope st_is_box, [], []⟩, ⟨("is_name", none), "is_name", "is_name", defArgs st_is_name, defBody st_is_name, defScope st_is_name, [], []⟩, ⟨("are_shafts", none), "are_shafts", "are_shafts", defArgs st_are_shafts, defBody st_are_shafts, defScope st_are_shafts, [], []⟩, ⟨("is_net", none), "is_net", "is_net", defArgs st_is_net, defBody st_is_net, defScope st_is_net, [], []⟩, ⟨("need_net", none), "need_net", "need_net", defArgs st_need_net, defBody st_need_net, defScope st_need_net, [], []⟩, ⟨("need_hands", none), "need_hands", "need_hands", defArgs st_need_hands, defBody st_need_hands, defScope st_need_hands, [], []⟩, ⟨("turned", none), "turned", "turned", defArgs st_turned, defBody st_turned, defScope st_turned, [], []⟩, ⟨("sum_of", none), "sum_of", "sum_of", defArgs st_sum_of, defBody st_sum_of, defScope st_sum_of, [], []⟩, ⟨("is_turning", none), "is_turning", "is_turning", defArgs st_is_turning, defBody st_is_turning, defScope st_is_turning, [], []⟩, ⟨("two_ways", none), "two_ways", "two_ways", defArgs st_two_ways, defBody st_two_ways, defScope st_two_ways, [], []⟩, ⟨("reason", none), "reason", "reason", defArgs st_reason, defBody st_reason, defScope st_reason, [], []⟩, ⟨("bars", none), "bars", "bars", defArgs st_bars, defBody st_bars, defScope st_bars, [], []⟩, ⟨("held_so", none), "held_so", "held_so", defArgs st_held_so, defBody st_held_so, defScope st_held_so, [], []⟩, ⟨("fewest_held", none), "fewest_held", "fewest_held", defArgs st_fewest_held, defBody st_fewest_held, defScope st_fewest_held, [], []⟩, ⟨("at_will", none), "at_will", "at_will", defArgs st_at_will, defBody st_at_will, defScope st_at_will, [], []⟩, ⟨("parting", none), "parting", "parting", defArgs st_parting, defBody st_parting, defScope st_parting, [], []⟩, ⟨("_law_kinds", none), "_law_kinds", "_law_kinds", defArgs st__law_kinds, defBody st__law_kinds, defScope st__law_kinds, [], []⟩, ⟨("_law_refusal", none), "_law_refusal", "_law_refusal", defArgs st__law_refusal, defBody st__law_refusal, defScope st__law_refusal, [], []⟩, ⟨("_law_word", none), "_law_word", "_law_word", defArgs st__law_word, defBody st__law_word, defScope st__law_word, [], []⟩, ⟨("_law_take", none), "_law_take", "_law_take", defArgs st__law_take, defBody st__law_take, defScope st__law_take, [], []⟩, ⟨("_law_thing", none), "_law_thing", "_law_thing", defArgs st__law_thing, defBody st__law_thing, defScope st__law_thing, [], []⟩, ⟨("_law_otherwise", none), "_law_otherwise", "_law_otherwise", defArgs st__law_otherwise, defBody st__law_otherwise, defScope st__law_otherwise, [], []⟩, ⟨("_law_near", none), "_law_near", "_law_near", defArgs st__law_near, defBody st__law_near, defScope st__law_near, [], []⟩, ⟨("_law_says", none), "_law_says", "_law_says", defArgs st__law_says, defBody st__law_says, defScope st__law_says, [], []⟩, ⟨("_law_is_int", none), "_law_is_int", "_law_is_int", defArgs st__law_is_int, defBody st__law_is_int, defScope st__law_is_int, [], []⟩, ⟨("_law_is_name", none), "_law_is_name", "_law_is_name", defArgs st__law_is_name, defBody st__law_is_name, defScope st__law_is_name, [], []⟩, ⟨("_law_is_box", none), "_law_is_box", "_law_is_box", defArgs st__law_is_box, defBody st__law_is_box, defScope st__law_is_box, [], []⟩]
def hFn_1 : List He.DefD := [⟨("_law_is_net", none), "_law_is_net", "_law_is_net", defArgs st__law_is_net, defBody st__law_is_net, defScope st__law_is_net, [], []⟩, ⟨("_law_box", none), "_law_box", "_law_box", defArgs st__law_box, defBody st__law_box, defScope st__law_box, [], []⟩, ⟨("_law_shafts", none), "_law_shafts", "_law_shafts", defArgs st__law_shafts, defBody st__law_shafts, defScope st__law_shafts, [], []⟩, ⟨("_law_net", none), "_law_net", "_law_net", defArgs st__law_net, defBody st__law_net, defScope st__law_net, [], []⟩, ⟨("_law_well", none), "_law_well", "_law_well", defArgs st__law_well, defBody st__law_well, defScope st__law_well, [], []⟩, ⟨("law", none), "law", "law", defArgs st_law, defBody st_law, defScope st_law, [], []⟩]
def hFn : List He.DefD := hFn_0 ++ hFn_1
def hTu : List (Str × List Int) := []
def hLo_0 : List Str := ["ShaftError", "NoNet", "NoNumbers", "NoHands", "NoPulls", "NoShafts", "NoShaft", "NoSpeed", "NoBox", "NoPlace", "NoHand", "Full", "Barred", "NOUGHT", "ONE", "divisor", "fraction", "plus", "minus", "times", "shared", "is_whole", "is_fraction", "more", "dot", "led", "solved", "LETTERS", "MOST_SHAFTS", "MOST_BOXES"]
def hLo_1 : List Str := ["MOST_NUMBER", "is_name", "are_rising", "are_shafts", "are_of", "is_box", "is_net", "need_net", "need_shafts", "need_shaft", "rows_of", "are_fractions", "is_turning", "sum_for", "sum_of", "are_pairs", "need_hands", "open_shafts", "ways", "whole_turning", "turned_by", "turned", "bars", "reason", "two_ways", "held_so", "all_ways", "rank_on", "fewest_held", "at_will"]
def hLo_2 : List Str := ["seen", "is_sum", "parting", "_law_well", "_law_take", "_law_is_int", "_law_says", "_law_thing", "_law_otherwise", "_law_kinds", "_law_refusal", "_law_box", "_law_shafts", "_law_net", "_law_is_name", "_law_is_box", "_law_is_net", "_law_word", "_law_near"]
def hLo : List Str := hLo_0 ++ hLo_1 ++ hLo_2
abbrev hHk : PySem.W.Hook := hookY 4 hTu hFa hFn
def hOb (s : PySem.W.SharedT) : Bool × He.AlD := obY 4 hTu hFa hFn (HandSHeadRun.getT s)
theorem hOb_eq (s : PySem.W.SharedT) : hOb s = hHk.obs s.abs := obY_eq (HandSHeadRun.getT_eq s)
theorem hRun (w : World) : HandSHeadRun.RunEq RwR (PySem.W.view RwR.prog [88]) hHk hOb 6000 hLo w := by
  intro os
  kernel_rfl
theorem all_ok {P : Program} {w : World} {K : PySem.W.Frag} {mg : Str → Option Value} {base : Heap} (T : Blt mg) {cl : Str → Addr} (XA : ExcAll K mg cl) (h_are_rising : Has K mg "are_rising" st_are_rising ["thing"]) (h_are_of : Has K mg "are_of" st_are_of ["shafts", "thing"]) (h_is_whole : Has K mg "is_whole" st_is_whole ["thing", "low", "high"]) (h_is_box : Has K mg "is_box" st_is_box ["shafts", "thing"]) (h_is_name : Has K mg "is_name" st_is_name ["thing"]) (h_are_shafts : Has K mg "are_shafts" st_are_shafts ["thing"]) (h_is_net : Has K mg "is_net" st_is_net ["thing"]) (h_need_net : Has K mg "need_net" st_need_net ["net"]) (h_need_hands : Has K mg "need_hands" st_need_hands ["net", "hands"]) (h_turned : Has K mg "turned" st_turned ["net", "hands"]) (h_sum_of : Has K mg "sum_of" st_sum_of ["net", "numbers"]) (h_is_turning : Has K mg "is_turning" st_is_turning ["net", "thing"]) (h_two_ways : Has K mg "two_ways" st_two_ways ["net", "hands", "shaft"]) (h_reason : Has K mg "reason" st_reason ["net", "hands", "shaft"]) (h_bars : Has K mg "bars" st_bars ["net", "hands", "thing"]) (h_held_so : Has K mg "held_so" st_held_so ["net", "pulls", "held"]) (h_fewest_held : Has K mg "fewest_held" st_fewest_held ["net"]) (h_at_will : Has K mg "at_will" st_at_will ["net", "shafts"]) (h_parting : Has K mg "parting" st_parting ["one", "other", "outside"]) (h__law_kinds : Has K mg "_law_kinds" st__law_kinds ["e"]) (h__law_refusal : Has K mg "_law_refusal" st__law_refusal ["e"]) (h__law_word : Has K mg "_law_word" st__law_word ["way", "thing"]) (h__law_take : Has K mg "_law_take" st__law_take ["well", "many"]) (h__law_thing : Has K mg "_law_thing" st__law_thing ["well", "deep"]) (h__law_otherwise : Has K mg "_law_otherwise" st__law_otherwise ["well", "thing", "deep"]) (h__law_near : Has K mg "_law_near" st__law_near ["well", "net"]) (h__law_says : Has K mg "_law_says" st__law_says ["found", "due"]) (h__law_is_int : Has K mg "_law_is_int" st__law_is_int ["thing", "low", "high"]) (h__law_is_name : Has K mg "_law_is_name" st__law_is_name ["thing"]) (h__law_is_box : Has K mg "_law_is_box" st__law_is_box ["shafts", "thing"]) (h__law_is_net : Has K mg "_law_is_net" st__law_is_net ["thing"]) (h__law_box : Has K mg "_law_box" st__law_box ["well", "shafts", "run"]) (h__law_shafts : Has K mg "_law_shafts" st__law_shafts ["well", "top"]) (h__law_net : Has K mg "_law_net" st__law_net ["well", "top"]) (h__law_well : Has K mg "_law_well" st__law_well ["script", "k"]) (h_law : Has K mg "law" st_law ["script"]) (g_MOST_NUMBER : GlobD K mg "MOST_NUMBER" gl_MOST_NUMBER) (g_LETTERS : GlobD K mg "LETTERS" gl_LETTERS) (g_MOST_SHAFTS : GlobD K mg "MOST_SHAFTS" gl_MOST_SHAFTS) (g_MOST_BOXES : GlobD K mg "MOST_BOXES" gl_MOST_BOXES) : Cal P w K mg base 12 "law" ["script"] sp_law := by
  have c_are_rising := ok_are_rising (P := P) (w := w) (base := base) h_are_rising T
  have c_are_of := ok_are_of (P := P) (w := w) (base := base) h_are_of T c_are_rising
  have c_is_whole := ok_is_whole (P := P) (w := w) (base := base) h_is_whole T
  have c_is_box := ok_is_box (P := P) (w := w) (base := base) h_is_box T c_are_of c_is_whole g_MOST_NUMBER
  have c_is_name := ok_is_name (P := P) (w := w) (base := base) h_is_name T g_LETTERS
  have c_are_shafts := ok_are_shafts (P := P) (w := w) (base := base) h_are_shafts T c_are_rising c_is_name g_MOST_SHAFTS
  have c_is_net := ok_is_net (P := P) (w := w) (base := base) h_is_net T c_is_box c_are_shafts g_MOST_BOXES
  have cX_need_net := okX_need_net (P := P) (w := w) (base := base) XA h_need_net T c_is_net
  have c_need_net : Cal P w K mg base 5 "need_net" ["net"] sp_need_net := cX_need_net.cal.imp fun args own Q E z => calm_need_net z
  have cX_need_hands := okX_need_hands (P := P) (w := w) (base := base) XA h_need_hands T cX_need_net
  have cX_turned := okX_turned (P := P) (w := w) (base := base) XA h_turned T cX_need_hands
  have cX_sum_of := okX_sum_of (P := P) (w := w) (base := base) XA h_sum_of T cX_need_net
  have cX_is_turning := okX_is_turning (P := P) (w := w) (base := base) XA h_is_turning T cX_need_net
  have cX_two_ways := okX_two_ways (P := P) (w := w) (base := base) XA h_two_ways T cX_need_hands
  have cX_reason := okX_reason (P := P) (w := w) (base := base) XA h_reason T cX_need_hands
  have cX_bars := okX_bars (P := P) (w := w) (base := base) XA h_bars T cX_need_hands
  have cX_held_so := okX_held_so (P := P) (w := w) (base := base) XA h_held_so T cX_need_net
  have cX_fewest_held := okX_fewest_held (P := P) (w := w) (base := base) XA h_fewest_held T cX_need_net
  have cX_at_will := okX_at_will (P := P) (w := w) (base := base) XA h_at_will T cX_need_net
  have cX_parting := okX_parting (P := P) (w := w) (base := base) XA h_parting T cX_need_net
  have c__law_kinds := fun n (hn : n ∈ exNames) => ok__law_kinds (P := P) (w := w) (base := base) XA h__law_kinds T hn
  have c__law_refusal := fun n (hn : n ∈ exNames) => ok__law_refusal (P := P) (w := w) (base := base) XA h__law_refusal T (c__law_kinds n hn)
  have c__law_word := ok__law_word (P := P) (w := w) (base := base) XA h__law_word T cX_turned cX_sum_of cX_is_turning cX_two_ways cX_reason cX_bars cX_held_so cX_fewest_held cX_at_will cX_parting c__law_refusal
  have c__law_take := ok__law_take (P := P) (w := w) (base := base) h__law_take T
  have c__law_thing := ok__law_thing (P := P) (w := w) (base := base) h__law_thing T c__law_take
  have c__law_otherwise := ok__law_otherwise (P := P) (w := w) (base := base) h__law_otherwise T c__law_thing c__law_take
  have c__law_near := ok__law_near (P := P) (w := w) (base := base) h__law_near T c__law_thing c__law_otherwise c__law_take
  have c__law_says := ok__law_says (P := P) (w := w) (base := base) h__law_says T
  have c__law_is_int := ok__law_is_int (P := P) (w := w) (base := base) h__law_is_int T
  have c__law_is_name := ok__law_is_name (P := P) (w := w) (base := base) h__law_is_name T
  have c__law_is_box := ok__law_is_box (P := P) (w := w) (base := base) h__law_is_box T c__law_is_int c__law_is_name
  have c__law_is_net := ok__law_is_net (P := P) (w := w) (base := base) h__law_is_net T c__law_is_box c__law_is_name
  have c__law_box := ok__law_box (P := P) (w := w) (base := base) h__law_box T c__law_take
  have c__law_shafts := ok__law_shafts (P := P) (w := w) (base := base) h__law_shafts T c__law_take
  have c__law_net := ok__law_net (P := P) (w := w) (base := base) h__law_net T c__law_take c__law_box c__law_shafts
  have c__law_well := ok__law_well (P := P) (w := w) (base := base) h__law_well T
  exact ok_law (P := P) (w := w) (base := base) h_law T c__law_word c__law_take c__law_near c__law_says c_is_net c__law_is_net c__law_net c__law_well
theorem hFacts {P : Program} {w : World} {K : PySem.W.Frag} {h : Heap} {mg : Str → Option Value} {f : Addr} (X : K.In h) (G : h.Ns mainGlobals mg) (hfa : mg ("law" : Str) = some (.ref f)) (tu : tuOk hTu K = true) (ex : exB K = true) (c : He.SaysD hFa hFn K) :
    ∃ fd : FuncData, (∀ (s : Shared) (v : Value), BindsTo s fd ⟨[v], []⟩ [("script", v)]) ∧ ∀ base : Heap, K.In base → base.Ns mainGlobals mg → FnOk P w K mg base CX0 12 f fd ["script"] (liftF K sp_law) := by
  have h_are_rising : Has K mg "are_rising" st_are_rising ["thing"] := has_at X G (c.fact 0 (f := .glo "are_rising") rfl) (c.def_ 0 rfl) fun _ _ _ _ _ _ us hl => match us, hl with | [_], _ => rfl
  have h_are_of : Has K mg "are_of" st_are_of ["shafts", "thing"] := has_at X G (c.fact 1 (f := .glo "are_of") rfl) (c.def_ 1 rfl) fun _ _ _ _ _ _ us hl => match us, hl with | [_, _], _ => rfl
  have h_is_whole : Has K mg "is_whole" st_is_whole ["thing", "low", "high"] := has_at X G (c.fact 2 (f := .glo "is_whole") rfl) (c.def_ 2 rfl) fun _ _ _ _ _ _ us hl => match us, hl with | [_, _, _], _ => rfl
  have h_is_box : Has K mg "is_box" st_is_box ["shafts", "thing"] := has_at X G (c.fact 3 (f := .glo "is_box") rfl) (c.def_ 3 rfl) fun _ _ _ _ _ _ us hl => match us, hl with | [_, _], _ => rfl
  have h_is_name : Has K mg "is_name" st_is_name ["thing"] := has_at X G (c.fact 4 (f := .glo "is_name") rfl) (c.def_ 4 rfl) fun _ _ _ _ _ _ us hl => match us, hl with | [_], _ => rfl
  have h_are_shafts : Has K mg "are_shafts" st_are_shafts ["thing"] := has_at X G (c.fact 5 (f := .glo "are_shafts") rfl) (c.def_ 5 rfl) fun _ _ _ _ _ _ us hl => match us, hl with | [_], _ => rfl
  have h_is_net : Has K mg "is_net" st_is_net ["thing"] := has_at X G (c.fact 6 (f := .glo "is_net") rfl) (c.def_ 6 rfl) fun _ _ _ _ _ _ us hl => match us, hl with | [_], _ => rfl
  have h_need_net : Has K mg "need_net" st_need_net ["net"] := has_at X G (c.fact 7 (f := .glo "need_net") rfl) (c.def_ 7 rfl) fun _ _ _ _ _ _ us hl => match us, hl with | [_], _ => rfl
  have h_need_hands : Has K mg "need_hands" st_need_hands ["net", "hands"] := has_at X G (c.fact 8 (f := .glo "need_hands") rfl) (c.def_ 8 rfl) fun _ _ _ _ _ _ us hl => match us, hl with | [_, _], _ => rfl
  have h_turned : Has K mg "turned" st_turned ["net", "hands"] := has_at X G (c.fact 9 (f := .glo "turned") rfl) (c.def_ 9 rfl) fun _ _ _ _ _ _ us hl => match us, hl with | [_, _], _ => rfl
  have h_sum_of : Has K mg "sum_of" st_sum_of ["net", "numbers"] := has_at X G (c.fact 10 (f := .glo "sum_of") rfl) (c.def_ 10 rfl) fun _ _ _ _ _ _ us hl => match us, hl with | [_, _], _ => rfl
  have h_is_turning : Has K mg "is_turning" st_is_turning ["net", "thing"] := has_at X G (c.fact 11 (f := .glo "is_turning") rfl) (c.def_ 11 rfl) fun _ _ _ _ _ _ us hl => match us, hl with | [_, _], _ => rfl
  have h_two_ways : Has K mg "two_ways" st_two_ways ["net", "hands", "shaft"] := has_at X G (c.fact 12 (f := .glo "two_ways") rfl) (c.def_ 12 rfl) fun _ _ _ _ _ _ us hl => match us, hl with | [_, _, _], _ => rfl
  have h_reason : Has K mg "reason" st_reason ["net", "hands", "shaft"] := has_at X G (c.fact 13 (f := .glo "reason") rfl) (c.def_ 13 rfl) fun _ _ _ _ _ _ us hl => match us, hl with | [_, _, _], _ => rfl
  have h_bars : Has K mg "bars" st_bars ["net", "hands", "thing"] := has_at X G (c.fact 14 (f := .glo "bars") rfl) (c.def_ 14 rfl) fun _ _ _ _ _ _ us hl => match us, hl with | [_, _, _], _ => rfl
  have h_held_so : Has K mg "held_so" st_held_so ["net", "pulls", "held"] := has_at X G (c.fact 15 (f := .glo "held_so") rfl) (c.def_ 15 rfl) fun _ _ _ _ _ _ us hl => match us, hl with | [_, _, _], _ => rfl
  have h_fewest_held : Has K mg "fewest_held" st_fewest_held ["net"] := has_at X G (c.fact 16 (f := .glo "fewest_held") rfl) (c.def_ 16 rfl) fun _ _ _ _ _ _ us hl => match us, hl with | [_], _ => rfl
  have h_at_will : Has K mg "at_will" st_at_will ["net", "shafts"] := has_at X G (c.fact 17 (f := .glo "at_will") rfl) (c.def_ 17 rfl) fun _ _ _ _ _ _ us hl => match us, hl with | [_, _], _ => rfl
  have h_parting : Has K mg "parting" st_parting ["one", "other", "outside"] := has_at X G (c.fact 18 (f := .glo "parting") rfl) (c.def_ 18 rfl) fun _ _ _ _ _ _ us hl => match us, hl with | [_, _, _], _ => rfl
  have h__law_kinds : Has K mg "_law_kinds" st__law_kinds ["e"] := has_at X G (c.fact 19 (f := .glo "_law_kinds") rfl) (c.def_ 19 rfl) fun _ _ _ _ _ _ us hl => match us, hl with | [_], _ => rfl
  have h__law_refusal : Has K mg "_law_refusal" st__law_refusal ["e"] := has_at X G (c.fact 20 (f := .glo "_law_refusal") rfl) (c.def_ 20 rfl) fun _ _ _ _ _ _ us hl => match us, hl with | [_], _ => rfl
  have h__law_word : Has K mg "_law_word" st__law_word ["way", "thing"] := has_at X G (c.fact 21 (f := .glo "_law_word") rfl) (c.def_ 21 rfl) fun _ _ _ _ _ _ us hl => match us, hl with | [_, _], _ => rfl
  have h__law_take : Has K mg "_law_take" st__law_take ["well", "many"] := has_at X G (c.fact 22 (f := .glo "_law_take") rfl) (c.def_ 22 rfl) fun _ _ _ _ _ _ us hl => match us, hl with | [_, _], _ => rfl
  have h__law_thing : Has K mg "_law_thing" st__law_thing ["well", "deep"] := has_at X G (c.fact 23 (f := .glo "_law_thing") rfl) (c.def_ 23 rfl) fun _ _ _ _ _ _ us hl => match us, hl with | [_, _], _ => rfl
  have h__law_otherwise : Has K mg "_law_otherwise" st__law_otherwise ["well", "thing", "deep"] := has_at X G (c.fact 24 (f := .glo "_law_otherwise") rfl) (c.def_ 24 rfl) fun _ _ _ _ _ _ us hl => match us, hl with | [_, _, _], _ => rfl
  have h__law_near : Has K mg "_law_near" st__law_near ["well", "net"] := has_at X G (c.fact 25 (f := .glo "_law_near") rfl) (c.def_ 25 rfl) fun _ _ _ _ _ _ us hl => match us, hl with | [_, _], _ => rfl
  have h__law_says : Has K mg "_law_says" st__law_says ["found", "due"] := has_at X G (c.fact 26 (f := .glo "_law_says") rfl) (c.def_ 26 rfl) fun _ _ _ _ _ _ us hl => match us, hl with | [_, _], _ => rfl
  have h__law_is_int : Has K mg "_law_is_int" st__law_is_int ["thing", "low", "high"] := has_at X G (c.fact 27 (f := .glo "_law_is_int") rfl) (c.def_ 27 rfl) fun _ _ _ _ _ _ us hl => match us, hl with | [_, _, _], _ => rfl
  have h__law_is_name : Has K mg "_law_is_name" st__law_is_name ["thing"] := has_at X G (c.fact 28 (f := .glo "_law_is_name") rfl) (c.def_ 28 rfl) fun _ _ _ _ _ _ us hl => match us, hl with | [_], _ => rfl
  have h__law_is_box : Has K mg "_law_is_box" st__law_is_box ["shafts", "thing"] := has_at X G (c.fact 29 (f := .glo "_law_is_box") rfl) (c.def_ 29 rfl) fun _ _ _ _ _ _ us hl => match us, hl with | [_, _], _ => rfl
  have h__law_is_net : Has K mg "_law_is_net" st__law_is_net ["thing"] := has_at X G (c.fact 30 (f := .glo "_law_is_net") rfl) (c.def_ 30 rfl) fun _ _ _ _ _ _ us hl => match us, hl with | [_], _ => rfl
  have h__law_box : Has K mg "_law_box" st__law_box ["well", "shafts", "run"] := has_at X G (c.fact 31 (f := .glo "_law_box") rfl) (c.def_ 31 rfl) fun _ _ _ _ _ _ us hl => match us, hl with | [_, _, _], _ => rfl
  have h__law_shafts : Has K mg "_law_shafts" st__law_shafts ["well", "top"] := has_at X G (c.fact 32 (f := .glo "_law_shafts") rfl) (c.def_ 32 rfl) fun _ _ _ _ _ _ us hl => match us, hl with | [_, _], _ => rfl
  have h__law_net : Has K mg "_law_net" st__law_net ["well", "top"] := has_at X G (c.fact 33 (f := .glo "_law_net") rfl) (c.def_ 33 rfl) fun _ _ _ _ _ _ us hl => match us, hl with | [_, _], _ => rfl
  have h__law_well : Has K mg "_law_well" st__law_well ["script", "k"] := has_at X G (c.fact 34 (f := .glo "_law_well") rfl) (c.def_ 34 rfl) fun _ _ _ _ _ _ us hl => match us, hl with | [_, _], _ => rfl
  have h_law : Has K mg "law" st_law ["script"] := has_at X G (c.fact 35 (f := .glo "law") rfl) (c.def_ 35 rfl) fun _ _ _ _ _ _ us hl => match us, hl with | [_], _ => rfl
  have T : Blt mg := ⟨He.free_ok X G (c.fact 36 (f := .free "len") rfl), He.free_ok X G (c.fact 37 (f := .free "range") rfl), He.free_ok X G (c.fact 38 (f := .free "zip") rfl), He.free_ok X G (c.fact 39 (f := .free "enumerate") rfl), He.free_ok X G (c.fact 40 (f := .free "abs") rfl), He.free_ok X G (c.fact 41 (f := .free "min") rfl), He.free_ok X G (c.fact 42 (f := .free "max") rfl), He.free_ok X G (c.fact 43 (f := .free "sum") rfl), He.free_ok X G (c.fact 44 (f := .free "all") rfl), He.free_ok X G (c.fact 45 (f := .free "any") rfl), He.free_ok X G (c.fact 46 (f := .free "int") rfl), He.free_ok X G (c.fact 47 (f := .free "str") rfl), He.free_ok X G (c.fact 48 (f := .free "bool") rfl), He.free_ok X G (c.fact 49 (f := .free "tuple") rfl), He.free_ok X G (c.fact 50 (f := .free "list") rfl), He.free_ok X G (c.fact 51 (f := .free "dict") rfl), He.free_ok X G (c.fact 52 (f := .free "set") rfl), He.free_ok X G (c.fact 53 (f := .free "sorted") rfl), He.free_ok X G (c.fact 54 (f := .free "isinstance") rfl)⟩
  have g_MOST_NUMBER : GlobD K mg "MOST_NUMBER" gl_MOST_NUMBER := glob_int X G (c.fact 55 (f := .int "MOST_NUMBER" 20) rfl)
  have g_LETTERS : GlobD K mg "LETTERS" gl_LETTERS := glob_str X G (c.fact 56 (f := .str "LETTERS" "abcdefghijklmnopqrstuvwxyz") rfl)
  have g_MOST_SHAFTS : GlobD K mg "MOST_SHAFTS" gl_MOST_SHAFTS := glob_int X G (c.fact 57 (f := .int "MOST_SHAFTS" 8) rfl)
  have g_MOST_BOXES : GlobD K mg "MOST_BOXES" gl_MOST_BOXES := glob_int X G (c.fact 58 (f := .int "MOST_BOXES" 8) rfl)
  exact facts_end (st := st_law) X G hfa (c.fact 35 (f := .glo "law") rfl) (c.def_ 35 rfl) (fun _ _ _ _ _ _ us hl => match us, hl with | [_], _ => rfl) fun base =>  all_ok (P := P) (w := w) (base := base) T (exc_all X G ex) h_are_rising h_are_of h_is_whole h_is_box h_is_name h_are_shafts h_is_net h_need_net h_need_hands h_turned h_sum_of h_is_turning h_two_ways h_reason h_bars h_held_so h_fewest_held h_at_will h_parting h__law_kinds h__law_refusal h__law_word h__law_take h__law_thing h__law_otherwise h__law_near h__law_says h__law_is_int h__law_is_name h__law_is_box h__law_is_net h__law_box h__law_shafts h__law_net h__law_well h_law g_MOST_NUMBER g_LETTERS g_MOST_SHAFTS g_MOST_BOXES
end Bx
open PySem PySem.W PySem.Calls PyProof.Rows
theorem PySem.Challenge.cw_boxshafts_k01_what_are_nets_holds : PySem.Challenge.rw_boxshafts_k01_what_are_nets.Holds := by
  w_on; o_law
  refine HandSHeadRun.head_any (r := OpenLaw.row Bx.RwO) (q := view (OpenLaw.row Bx.RwO).prog [88]) (H := Bx.hHk) (ob := Bx.hOb) (M := 6000) (loose := Bx.hLo) (d := HandSHeadRun.topDef (OpenLaw.row Bx.RwO).prog 88) (kwd := []) Bx.hOb_eq
    (by kernel_rfl) (fun s => by kernel_rfl) Bx.hRun (by kernel_rfl) (by kernel_rfl) (by kernel_rfl) (by rfl) (by first | assumption | decide +kernel) (by decide +kernel) ⟨rfl, rfl, rfl, rfl, rfl, by decide +kernel⟩ ?hw ?hc
  case hw => w_witness2
  case hc =>
    refine L2.walk_ofE (l := Bx.RwO) (n := 63) (k := 12) (x := "script") (CX := L2.CX0) rfl (by decide) (by kernel_rfl) ⟨rfl, by decide, by decide⟩ ?F (fun _ _ _ _ z => z)
    intro w mg fa h Y G hmg0
    obtain ⟨K, KX, tu, ex, c⟩ := Y
    have hmg : mg ("law" : PySem.Str) = some (.ref fa) := by
      have e : (HandSHeadRun.topDef (OpenLaw.row Bx.RwO).prog 88).name = ("law" : PySem.Str) := by kernel_rfl
      rw [← e]
      exact hmg0
    obtain ⟨fd, hb, hF⟩ := Bx.hFacts (P := Bx.RwO.prog) (w := w) KX G hmg tu ex c
    exact ⟨K, fd, Bx.liftF K Bx.sp_law, KX, hb, fun H a ns hl _ hS => Bx.law_start hl hS fun Q E q => ⟨ns, rfl, rfl, hl, q⟩, hF⟩
end

