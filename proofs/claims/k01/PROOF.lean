import PyProof.Rows.All
import Wide.All
import OpenK.AllK
import Wide.FinOn
import HandS.ForMost
import HandS.Walk
import HandS.Conv
import HandS.Style
import HandS.Wide
import HandS.WideMore
import HandS.Zip
import HandS.SortInts
import HandS.Gcd
import HandS.Defaults
import HandS.TupAny
import HandS.TupMul
import HandS.IsInst
import HandS.HeadHook2
import HandS.HeadEnd
import HandS.Head2
import KE.GoesEnum
import HandS.More
import HandS.Words
import HandS.Dict
import HandS.EndBits
import HandS.SetFor
import HandS.Strs
import KE.DatumOrd
import HandS.TryOnly
import HandS.Small
import HandS.Head3
import PySem.Challenge.RW_everyexact_k01_what_are_scales
set_option Elab.async false
set_option linter.all false
set_option maxRecDepth 100000
set_option maxHeartbeats 4000000
set_option autoImplicit false
namespace B
open PySem PySem.Spec L2
/-! the deck -/
def deckKv (d : Addr) (st : Int) : List (Key × V) := [(.inr "deep", .ref d), (.inr "state", .int st)]
structure DeckAt (p d : Addr) (H : Hp) : Prop where
  ne : p ≠ d
  ex : ∃ (ds : List Int) (st : Int), H p = some (.dK (deckKv d st)) ∧ H d = some (.lst (ds.map V.int)) ∧ ds.length < sizeLine ∧ 0 ≤ st ∧ st < 2305843009213693951
/-- the deck's state and the objects it stands in -/
def Dk (ad : Nat → Addr) (H : Hp) (F : Addr → Prop) : Prop := ∃ d : Addr, DeckAt (ad 0) d H ∧ F = fun b => b = ad 0 ∨ b = d
theorem Dk_loc {ad : Nat → Addr} {H H' : Hp} {F : Addr → Prop} (h : Dk ad H F) (e : ∀ b, F b → H' b = H b) : Dk ad H' F := by
  obtain ⟨d, ⟨n1, ds, st, h1, h2, h4⟩, rfl⟩ := h
  exact ⟨d, ⟨n1, ds, st, (e _ (.inl rfl)).trans h1, (e _ (.inr rfl)).trans h2, h4⟩, rfl⟩
theorem Dk_some {ad : Nat → Addr} {H : Hp} {F : Addr → Prop} (h : Dk ad H F) : ∀ b, F b → ∃ o, H b = some o := by
  obtain ⟨d, ⟨n1, ds, st, h1, h2, h4⟩, rfl⟩ := h
  rintro b (rfl | rfl)
  · exact ⟨_, h1⟩
  · exact ⟨_, h2⟩
end B

namespace B
open PySem PySem.Spec L2

/-! data by value -/
inductive D where
  | non
  | bl (b : Bool)
  | int (i : Int)
  | str (s : Str)
  | tup (l : List D)
  | lst (l : List D)
  | dic (k : List Key) (l : List D)
  | hd (n : Nat)

-- v stands for d, by what H tracks
mutual
inductive Rep (K : PySem.W.Frag) (ad : Nat → Addr) (H : Hp) : V → D → Prop
  | non : Rep K ad H .non .non
  | bl (b : Bool) : Rep K ad H (.bl b) (.bl b)
  | int (i : Int) : Rep K ad H (.int i) (.int i)
  | str (s : Str) : Rep K ad H (.str s) (.str s)
  | tup {a : Addr} {vs : List V} {ds : List D} : H a = some (.tup vs) → RepL K ad H vs ds → Rep K ad H (.ref a) (.tup ds)
  | lst {a : Addr} {vs : List V} {ds : List D} : H a = some (.lst vs) → RepL K ad H vs ds → Rep K ad H (.ref a) (.lst ds)
  | dic {a : Addr} {kvs : List (Key × V)} {ds : List D} : Rd H a (.dK kvs) → RepL K ad H (kvs.map (·.2)) ds → Rep K ad H (.ref a) (.dic (kvs.map (·.1)) ds)
  | hd (n : Nat) : Rep K ad H (.ref (ad n)) (.hd n)
inductive RepL (K : PySem.W.Frag) (ad : Nat → Addr) (H : Hp) : List V → List D → Prop
  | nil : RepL K ad H [] []
  | cons {v : V} {d : D} {vs : List V} {ds : List D} : Rep K ad H v d → RepL K ad H vs ds → RepL K ad H (v :: vs) (d :: ds)
end

theorem rd_mono {H H' : Hp} {a : Addr} {u : HO} (e : Same H H') (h : Rd H a u) : Rd H' a u := by
  rcases h with h | ⟨o, h⟩
  · exact .inl (e _ _ h)
  · exact .inr ⟨o, e _ _ h⟩
section
variable {K : PySem.W.Frag} {ad : Nat → Addr} {H H' : Hp}
mutual
theorem Rep.mono (e : Same H H') : ∀ {v : V} {d : D}, Rep K ad H v d → Rep K ad H' v d
  | _, _, .non => .non
  | _, _, .bl b => .bl b
  | _, _, .int i => .int i
  | _, _, .str s => .str s
  | _, _, .tup h r => .tup (e _ _ h) (RepL.mono e r)
  | _, _, .lst h r => .lst (e _ _ h) (RepL.mono e r)
  | _, _, .dic h r => .dic (rd_mono e h) (RepL.mono e r)
  | _, _, .hd n => .hd n
theorem RepL.mono (e : Same H H') : ∀ {vs : List V} {ds : List D}, RepL K ad H vs ds → RepL K ad H' vs ds
  | _, _, .nil => .nil
  | _, _, .cons h r => .cons (Rep.mono e h) (RepL.mono e r)
end
theorem RepL.length : ∀ {vs : List V} {ds : List D}, RepL K ad H vs ds → vs.length = ds.length
  | _, _, .nil => rfl
  | _, _, .cons _ r => congrArg Nat.succ (RepL.length r)
theorem RepL.get : ∀ {vs : List V} {ds : List D} {i : Nat} {d : D}, RepL K ad H vs ds → ds[i]? = some d → ∃ v, vs[i]? = some v ∧ Rep K ad H v d
  | _, _, _, _, .nil, e => by simp at e
  | _, _, 0, _, .cons h _, e => by simp at e; subst e; exact ⟨_, rfl, h⟩
  | _, _, i + 1, _, .cons _ r, e => by
    obtain ⟨v, h1, h2⟩ := RepL.get (i := i) r (by simpa using e)
    exact ⟨v, by simpa using h1, h2⟩
theorem RepL.get' : ∀ {vs : List V} {ds : List D} {i : Nat} {v : V}, RepL K ad H vs ds → vs[i]? = some v → ∃ d, ds[i]? = some d ∧ Rep K ad H v d
  | _, _, _, _, .nil, e => by simp at e
  | _, _, 0, _, .cons h _, e => by simp at e; subst e; exact ⟨_, rfl, h⟩
  | _, _, i + 1, _, .cons _ r, e => by
    obtain ⟨v, h1, h2⟩ := RepL.get' (i := i) r (by simpa using e)
    exact ⟨v, by simpa using h1, h2⟩
theorem RepL.append : ∀ {vs ws : List V} {ds es : List D}, RepL K ad H vs ds → RepL K ad H ws es → RepL K ad H (vs ++ ws) (ds ++ es)
  | _, _, _, _, .nil, s => s
  | _, _, _, _, .cons h r, s => .cons h (RepL.append r s)
theorem RepL.set {v : V} {d : D} (h : Rep K ad H v d) : ∀ {vs : List V} {ds : List D} (i : Nat), RepL K ad H vs ds → RepL K ad H (vs.set i v) (ds.set i d)
  | _, _, _, .nil => .nil
  | _, _, 0, .cons _ r => .cons h r
  | _, _, i + 1, .cons q r => .cons q (RepL.set h i r)
theorem RepL.take : ∀ {vs : List V} {ds : List D} (n : Nat), RepL K ad H vs ds → RepL K ad H (vs.take n) (ds.take n)
  | _, _, 0, _ => .nil
  | _, _, _ + 1, .nil => .nil
  | _, _, n + 1, .cons h r => .cons h (RepL.take n r)
theorem RepL.drop : ∀ {vs : List V} {ds : List D} (n : Nat), RepL K ad H vs ds → RepL K ad H (vs.drop n) (ds.drop n)
  | _, _, 0, r => r
  | _, _, _ + 1, .nil => .nil
  | _, _, n + 1, .cons _ r => RepL.drop n r
theorem RepL.dropLast : ∀ {vs : List V} {ds : List D}, RepL K ad H vs ds → RepL K ad H vs.dropLast ds.dropLast
  | _, _, .nil => .nil
  | _, _, .cons _ .nil => .nil
  | _, _, .cons h (.cons h2 r) => .cons h (RepL.dropLast (.cons h2 r))
theorem RepL.eraseIdx : ∀ {vs : List V} {ds : List D} (i : Nat), RepL K ad H vs ds → RepL K ad H (vs.eraseIdx i) (ds.eraseIdx i)
  | _, _, _, .nil => .nil
  | _, _, 0, .cons _ r => r
  | _, _, i + 1, .cons h r => .cons h (RepL.eraseIdx i r)
theorem RepL.reverse {vs : List V} {ds : List D} (h : RepL K ad H vs ds) : RepL K ad H vs.reverse ds.reverse := by
  induction vs generalizing ds with
  | nil => cases h; exact .nil
  | cons v vs ih =>
    cases h with
    | cons h r =>
      rw [List.reverse_cons, List.reverse_cons]
      exact (ih r).append (.cons h .nil)
theorem RepL.rep {vs : List V} {ds : List D} (h : RepL K ad H vs ds) : ∀ k : Nat, RepL K ad H (List.replicate k vs).flatten (List.replicate k ds).flatten
  | 0 => .nil
  | k + 1 => by
    rw [List.replicate_succ, List.replicate_succ, List.flatten_cons, List.flatten_cons]
    exact h.append (RepL.rep h k)
theorem RepL.ints : ∀ {vs : List V} {ns : List Int}, RepL K ad H vs (ns.map D.int) → vs = ns.map V.int
  | _, [], .nil => rfl
  | _, _ :: _, .cons h r => by cases h; rw [RepL.ints r]; rfl
theorem RepL.of_ints : ∀ (ns : List Int), RepL K ad H (ns.map V.int) (ns.map D.int)
  | [] => .nil
  | n :: ns => .cons (.int n) (RepL.of_ints ns)
theorem RepL.bls : ∀ {vs : List V} {bs : List Bool}, RepL K ad H vs (bs.map D.bl) → vs = bs.map V.bl
  | _, [], .nil => rfl
  | _, _ :: _, .cons h r => by cases h; rw [RepL.bls r]; rfl
end

/-! what a name holds: data that may be shared, or a list (a dict) of its own, nowhere else to be met -/
inductive C where
  | sh (d : D)
  | ow (d : D)
def C.d : C → D
  | .sh d => d
  | .ow d => d
abbrev En := List (Option C)

/-- the fixed part: the written part, handles, the deck's state and how it hangs on its objects alone, what was seen at the entry, what is set aside -/
structure Gd where
  K : PySem.W.Frag
  ad : Nat → Addr
  V0 : Hp
  T : Hp

/-- H is what is tracked; Hv of it may be leaned on; F are the deck's objects -/
structure HS (G : Gd) (H Hv : Hp) (F : Addr → Prop) : Prop where
  sub : Same Hv H
  old : Same G.V0 Hv
  tmp : ∀ b o, G.T b = some o → H b = some o ∧ Hv b = none ∧ ¬ F b
  dk : Dk G.ad H F
  dkv : ∀ b, F b → Hv b = none ∧ ∃ o, H b = some o

def OwnIn (G : Gd) (H Hv : Hp) (a : Addr) : D → Prop
  | .lst ds => ∃ vs, H a = some (.lst vs) ∧ RepL G.K G.ad Hv vs ds
  | .dic ks ds => ∃ kvs : List (Key × V), H a = some (.dK kvs) ∧ kvs.map (·.1) = ks ∧ RepL G.K G.ad Hv (kvs.map (·.2)) ds
  | _ => False
def OwnAt (G : Gd) (H Hv : Hp) (F : Addr → Prop) (a : Addr) (d : D) : Prop := (Hv a = none ∧ ¬ F a ∧ G.T a = none) ∧ OwnIn G H Hv a d
def RC (G : Gd) (H Hv : Hp) (F : Addr → Prop) (v : V) : C → Prop
  | .sh d => Rep G.K G.ad Hv v d
  | .ow d => ∃ a, v = .ref a ∧ OwnAt G H Hv F a d
def Apart (env : En) (σ : St) (v : V) : Prop := ∀ (i : Nat) (e : D), env[i]? = some (some (.ow e)) → σ[i]? ≠ some (some v)
structure Rel (G : Gd) (env : En) (σ : St) (H Hv : Hp) (F : Addr → Prop) : Prop where
  hs : HS G H Hv F
  len : env.length = σ.length
  sl : ∀ (i : Nat) (c : C), env[i]? = some (some c) → ∃ v, σ[i]? = some (some v) ∧ RC G H Hv F v c
  ap : ∀ (i j : Nat) (d e : D) (v : V), i ≠ j → env[i]? = some (some (.ow d)) → env[j]? = some (some (.ow e)) → σ[i]? = some (some v) → σ[j]? = some (some v) → False
def Res (G : Gd) (env : En) (σ : St) (H Hv : Hp) (F : Addr → Prop) (v : V) (c : C) : Prop := RC G H Hv F v c ∧ ∀ d, c = .ow d → Apart env σ v

theorem OwnIn.obj {G : Gd} {H Hv : Hp} {a : Addr} {d : D} (h : OwnIn G H Hv a d) : ∃ o, H a = some o := by
  cases d with
  | lst ds => obtain ⟨vs, e, _⟩ := h; exact ⟨_, e⟩
  | dic ks ds => obtain ⟨kvs, e, _⟩ := h; exact ⟨_, e⟩
  | _ => exact h.elim
/-- the same object, more that is seen -/
theorem OwnIn.mono {G G' : Gd} {H H' Hv Hv' : Hp} {a : Addr} {d : D} (h : OwnIn G H Hv a d) (hK : G'.K = G.K) (hA : G'.ad = G.ad) (e : H' a = H a) (s : Same Hv Hv') : OwnIn G' H' Hv' a d := by
  cases d with
  | lst ds => obtain ⟨vs, e1, r⟩ := h; exact ⟨vs, by rw [e]; exact e1, by rw [hK, hA]; exact r.mono s⟩
  | dic ks ds => obtain ⟨kvs, e1, e2, r⟩ := h; exact ⟨kvs, by rw [e]; exact e1, e2, by rw [hK, hA]; exact r.mono s⟩
  | _ => exact h.elim

/-- what stands out of sight, but for the deck -/
noncomputable def hid (H Hv : Hp) (F : Addr → Prop) : Hp := fun b => open Classical in if Hv b = none ∧ ¬ F b then H b else none
theorem hid_some {H Hv : Hp} {F : Addr → Prop} {b : Addr} {o : HO} (h1 : Hv b = none) (h2 : ¬ F b) (h3 : H b = some o) : hid H Hv F b = some o := by
  unfold hid
  rw [if_pos ⟨h1, h2⟩]
  exact h3
theorem of_hid {H Hv : Hp} {F : Addr → Prop} {b : Addr} {o : HO} (h : hid H Hv F b = some o) : Hv b = none ∧ ¬ F b ∧ H b = some o := by
  unfold hid at h
  split at h
  · rename_i c; exact ⟨c.1, c.2, h⟩
  · cases h
/-- from here on: what is seen stays, what is out of sight stays -/
noncomputable def Gd.at_ (G : Gd) (H Hv : Hp) (F : Addr → Prop) : Gd := { G with V0 := Hv, T := hid H Hv F }
/-- one more object set aside -/
def Gd.aside (G : Gd) (a : Addr) (o : HO) : Gd := { G with T := upd G.T a o }
/-- from what is seen now -/
def Gd.from_ (G : Gd) (Hv : Hp) : Gd := { G with V0 := Hv }

section
variable {G : Gd} {env env' : En} {σ : St} {H Hv H' Hv' : Hp} {F F' : Addr → Prop} {v : V} {c : C} {d : D} {a p : Addr} {o : HO}

theorem HS.at_self (h : HS G H Hv F) : HS (G.at_ H Hv F) H Hv F :=
  ⟨h.sub, Same.refl _, fun b o e => by obtain ⟨h1, h2, h3⟩ := of_hid e; exact ⟨h3, h1, h2⟩, h.dk, h.dkv⟩
theorem HS.hv_none (h : HS G H Hv F) (hp : H p = none) : Hv p = none := by
  cases e : Hv p with
  | none => rfl
  | some o => rw [h.sub _ _ e] at hp; cases hp
theorem HS.notF (h : HS G H Hv F) (hp : H p = none) : ¬ F p := fun q => by
  obtain ⟨_, o, e⟩ := h.dkv _ q
  rw [hp] at e; cases e
theorem HS.notT (h : HS G H Hv F) (hp : H p = none) : G.T p = none := by
  cases e : G.T p with
  | none => rfl
  | some o => rw [(h.tmp _ _ e).1] at hp; cases hp
theorem same_upd {H Hv : Hp} {p : Addr} {o : HO} (s : Same Hv H) (hp : Hv p = none) : Same Hv (upd H p o) := fun b u e => by
  have hb : b ≠ p := fun z => by rw [z, hp] at e; cases e
  rw [upd_ne hb]; exact s _ _ e
theorem same_upd2 {H Hv : Hp} {p : Addr} {o : HO} (s : Same Hv H) : Same (upd Hv p o) (upd H p o) := fun b u e => by
  by_cases hb : b = p
  · subst hb; rw [upd_same] at e ⊢; exact e
  · rw [upd_ne hb] at e ⊢; exact s _ _ e
theorem same_self_upd {Hv : Hp} {p : Addr} {o : HO} (hp : Hv p = none) : Same Hv (upd Hv p o) := same_upd (Same.refl _) hp
/-- an object that is out of sight, set aside by nobody, no deck's, comes or changes -/
theorem HS.put (h : HS G H Hv F) (hv : Hv p = none) (hF : ¬ F p) (hT : G.T p = none) : HS G (upd H p o) Hv F where
  sub := same_upd h.sub hv
  old := h.old
  tmp := fun b u e => by
    have hb : b ≠ p := fun z => by rw [z, hT] at e; cases e
    obtain ⟨h1, h2, h3⟩ := h.tmp b u e
    exact ⟨by rw [upd_ne hb]; exact h1, h2, h3⟩
  dk := Dk_loc h.dk fun b hb => upd_ne fun z => hF (z ▸ hb)
  dkv := fun b hb => by
    obtain ⟨h1, u, h2⟩ := h.dkv b hb
    exact ⟨h1, u, by rw [upd_ne (show b ≠ p from fun z => hF (z ▸ hb))]; exact h2⟩
theorem HS.new (h : HS G H Hv F) (hp : H p = none) : HS G (upd H p o) Hv F := h.put (h.hv_none hp) (h.notF hp) (h.notT hp)
/-- it comes in sight -/
theorem HS.show (h : HS G H Hv F) (hv : Hv p = none) (hF : ¬ F p) (hT : G.T p = none) (hp : H p = some o) : HS G H (upd Hv p o) F where
  sub := fun b u e => by
    by_cases hb : b = p
    · subst hb; rw [upd_same] at e; rw [← e]; exact hp
    · rw [upd_ne hb] at e; exact h.sub _ _ e
  old := h.old.trans (same_self_upd hv)
  tmp := fun b u e => by
    have hb : b ≠ p := fun z => by rw [z, hT] at e; cases e
    obtain ⟨h1, h2, h3⟩ := h.tmp b u e
    exact ⟨h1, by rw [upd_ne hb]; exact h2, h3⟩
  dk := h.dk
  dkv := fun b hb => by
    obtain ⟨h1, u, h2⟩ := h.dkv b hb
    exact ⟨by rw [upd_ne (show b ≠ p from fun z => hF (z ▸ hb))]; exact h1, u, h2⟩
theorem HS.news (h : HS G H Hv F) (hp : H p = none) : HS G (upd H p o) (upd Hv p o) F :=
  (h.new (o := o) hp).show (h.hv_none hp) (h.notF hp) (h.notT hp) upd_same

theorem RC.rep_of (h : RC G H Hv F v (.sh d)) : Rep G.K G.ad Hv v d := h
theorem Rel.get (R : Rel G env σ H Hv F) {i : Nat} (e : env[i]? = some (some c)) (e2 : σ[i]? = some (some v)) : RC G H Hv F v c := by
  obtain ⟨u, h1, h2⟩ := R.sl i c e
  rw [e2] at h1; cases h1; exact h2
/-- a call's end, a step that leaves all that is out of sight -/
theorem Rel.step (R : Rel G env σ H Hv F) (h : HS (G.at_ H Hv F) H' Hv' F') : Rel G env σ H' Hv' F' where
  len := R.len
  hs := ⟨h.sub, R.hs.old.trans h.old, fun b o e => by
    obtain ⟨h1, h2, h3⟩ := R.hs.tmp b o e
    exact h.tmp b o (hid_some h2 h3 h1), h.dk, h.dkv⟩
  sl := fun i c e => by
    obtain ⟨v, h1, h2⟩ := R.sl i c e
    refine ⟨v, h1, ?_⟩
    cases c with
    | sh d => exact Rep.mono h.old h2
    | ow d =>
      obtain ⟨a, rfl, ⟨n1, n2, n3⟩, o1⟩ := h2
      obtain ⟨o, eo⟩ := o1.obj
      obtain ⟨q1, q2, q3⟩ := h.tmp a o (hid_some n1 n2 eo)
      exact ⟨a, rfl, ⟨q2, q3, n3⟩, o1.mono rfl rfl (by rw [q1, eo]) h.old⟩
  ap := R.ap
/-- a step by one object's change -/
theorem Rel.put (R : Rel G env σ H Hv F) (hv : Hv p = none) (hF : ¬ F p) (hT : G.T p = none) (hA : Apart env σ (.ref p)) : Rel G env σ (upd H p o) Hv F where
  len := R.len
  hs := R.hs.put hv hF hT
  sl := fun i c e => by
    obtain ⟨v, h1, h2⟩ := R.sl i c e
    refine ⟨v, h1, ?_⟩
    cases c with
    | sh d => exact h2
    | ow d =>
      obtain ⟨a, rfl, n, o1⟩ := h2
      have hne : a ≠ p := fun z => hA i d e (by rw [← z]; exact h1)
      exact ⟨a, rfl, n, o1.mono rfl rfl (upd_ne hne) (Same.refl _)⟩
  ap := R.ap
theorem Rel.apart_new (R : Rel G env σ H Hv F) (hp : H p = none) : Apart env σ (.ref p) := fun i e q z => by
  obtain ⟨v, h1, h2⟩ := R.sl i _ q
  rw [z] at h1; cases h1
  obtain ⟨a, e1, _, o1⟩ := h2
  cases e1
  obtain ⟨o, eo⟩ := o1.obj
  rw [hp] at eo; cases eo
theorem Rel.new (R : Rel G env σ H Hv F) (hp : H p = none) : Rel G env σ (upd H p o) Hv F := R.put (R.hs.hv_none hp) (R.hs.notF hp) (R.hs.notT hp) (R.apart_new hp)
theorem Rel.show (R : Rel G env σ H Hv F) (hv : Hv p = none) (hF : ¬ F p) (hT : G.T p = none) (hp : H p = some o) (hA : Apart env σ (.ref p)) : Rel G env σ H (upd Hv p o) F where
  len := R.len
  hs := R.hs.show hv hF hT hp
  sl := fun i c e => by
    obtain ⟨v, h1, h2⟩ := R.sl i c e
    refine ⟨v, h1, ?_⟩
    cases c with
    | sh d => exact Rep.mono (same_self_upd hv) h2
    | ow d =>
      obtain ⟨a, rfl, ⟨n1, n2, n3⟩, o1⟩ := h2
      have hne : a ≠ p := fun z => hA i d e (by rw [← z]; exact h1)
      exact ⟨a, rfl, ⟨by rw [upd_ne hne]; exact n1, n2, n3⟩, o1.mono rfl rfl rfl (same_self_upd hv)⟩
  ap := R.ap
theorem Rel.news (R : Rel G env σ H Hv F) (hp : H p = none) : Rel G env σ (upd H p o) (upd Hv p o) F :=
  (R.new (o := o) hp).show (R.hs.hv_none hp) (R.hs.notF hp) (R.hs.notT hp) upd_same (R.apart_new hp)

/-- an object of one's own, seen from now on by all -/
theorem rep_shown (hO : OwnIn G H Hv a d) (hv : Hv a = none) : ∃ o, H a = some o ∧ Rep G.K G.ad (upd Hv a o) (.ref a) d := by
  cases d with
  | lst ds =>
    obtain ⟨vs, e, r⟩ := hO
    exact ⟨_, e, .lst upd_same (r.mono (same_self_upd hv))⟩
  | dic ks ds =>
    obtain ⟨kvs, e, rfl, r⟩ := hO
    exact ⟨_, e, .dic (.inl upd_same) (r.mono (same_self_upd hv))⟩
  | _ => exact hO.elim
/-- a result is given away -/
theorem Res.freeze (R : Rel G env σ H Hv F) (h : Res G env σ H Hv F v c) : ∃ Hv', Rel G env σ H Hv' F ∧ Rep G.K G.ad Hv' v c.d ∧ Same Hv Hv' := by
  obtain ⟨h1, h2⟩ := h
  cases c with
  | sh d => exact ⟨Hv, R, h1, Same.refl _⟩
  | ow d =>
    obtain ⟨a, rfl, ⟨n1, n2, n3⟩, o1⟩ := h1
    obtain ⟨o, eo, r⟩ := rep_shown o1 n1
    exact ⟨upd Hv a o, R.show n1 n2 n3 eo (h2 d rfl), r, same_self_upd n1⟩
theorem get_set_ne {α : Type} {l : List α} {i j : Nat} {x : α} (h : i ≠ j) : (l.set i x)[j]? = l[j]? := List.getElem?_set_ne h
theorem set_self {env : En} {i : Nat} {c c' : Option C} (h : env[i]? = some c) : (env.set i c')[i]? = some c' := by
  have : i < env.length := (List.getElem?_eq_some_iff.mp h).1
  rw [List.getElem?_set_self this]
/-- a name's content, given away -/
theorem Rel.freeze (R : Rel G env σ H Hv F) {i : Nat} (e : env[i]? = some (some c)) (e2 : σ[i]? = some (some v)) :
    ∃ Hv', Rel G (env.set i (some (.sh c.d))) σ H Hv' F ∧ Rep G.K G.ad Hv' v c.d ∧ Same Hv Hv' := by
  have hr := R.get e e2
  have hi := set_self (c' := some (.sh c.d)) e
  cases c with
  | sh d =>
    refine ⟨Hv, ?_, hr, Same.refl _⟩
    have : env.set i (some (.sh d)) = env := by
      obtain ⟨hlt, hv⟩ := List.getElem?_eq_some_iff.mp e
      rw [← hv]; exact List.set_getElem_self hlt
    show Rel G (env.set i (some (.sh d))) σ H Hv F
    rw [this]; exact R
  | ow d =>
    obtain ⟨a, rfl, ⟨n1, n2, n3⟩, o1⟩ := hr
    obtain ⟨o, eo, r⟩ := rep_shown o1 n1
    refine ⟨upd Hv a o, ⟨R.hs.show n1 n2 n3 eo, by rw [List.length_set]; exact R.len, fun j c' ej => ?_, fun j k d1 d2 u hne ej ek sj sk => ?_⟩, r, same_self_upd n1⟩
    · by_cases hj : i = j
      · subst hj
        rw [hi] at ej; cases ej
        exact ⟨_, e2, r⟩
      · rw [get_set_ne hj] at ej
        obtain ⟨u, h1, h2⟩ := R.sl j c' ej
        refine ⟨u, h1, ?_⟩
        cases c' with
        | sh d' => exact Rep.mono (same_self_upd n1) h2
        | ow d' =>
          obtain ⟨b, rfl, ⟨m1, m2, m3⟩, o2⟩ := h2
          have hne : b ≠ a := fun z => R.ap i j d d' (.ref a) hj e ej e2 (by rw [← z]; exact h1)
          exact ⟨b, rfl, ⟨by rw [upd_ne hne]; exact m1, m2, m3⟩, o2.mono rfl rfl rfl (same_self_upd n1)⟩
    · have hj : i ≠ j := fun z => by subst z; rw [hi] at ej; cases ej
      have hk : i ≠ k := fun z => by subst z; rw [hi] at ek; cases ek
      rw [get_set_ne hj] at ej
      rw [get_set_ne hk] at ek
      exact R.ap j k d1 d2 u hne ej ek sj sk
end
end B

namespace B
open PySem PySem.Spec L2

/-! what a text of the form says, by value -/
inductive Bi where
  | len | abs | int | bool | str | repr | sum | max1 | min1 | max2 | min2 | lst | tup | sorted | all_ | any_ | gcd | dct | minP | lrg1 | lrg2 | trg1 | trg2 | sset | reprB
  deriving DecidableEq
inductive T where
  | nm (i : Nat)
  | nil
  | cons (t : T) (r : T)
mutual
inductive E where
  | var (i : Nat)
  | cst (d : D)
  | bin (op : Operator) (a b : E)
  | neg (a : E)
  | nt (a : E)
  | bop (isAnd : Bool) (a b : E)
  | cmp (op : CmpOp) (a b : E)
  | chn (o1 o2 : CmpOp) (a b c : E)
  | ife (c a b : E)
  | tup (es : Es)
  | lst (es : Es)
  | ix (a i : E)
  | sl (a : E) (lo hi : Oe)
  | rv (a : E)
  | dnil
  | dsp (es : Es)
  | bi (f : Bi) (es : Es)
  | call (f : Nat) (es : Es)
  | pop (i : Nat)
  | popA (i : Nat) (e : E)
  | comp (own : List Nat) (t : T) (it : It) (cnd : Oe) (elt : E)
  | isi (a : E) (ty : String)
inductive Es where
  | nil
  | cons (e : E) (r : Es)
inductive Oe where
  | no
  | so (e : E)
inductive It where
  | rg1 (a : E)
  | rg2 (a b : E)
  | rg3 (a b c : E)
  | sq (a : E)
  | en (a : E)
  | zp (a b : E)
  | rev (a : E)
  | dk (i : Nat)
end
mutual
inductive S where
  | asg (t : T) (e : E)
  | par (is : List Nat) (es : Es)
  | seti (i : Nat) (ix v : E)
  | setk (i : Nat) (ix v : E)
  | app (i : Nat) (e : E)
  | ext (i : Nat) (e : E)
  | ins (i : Nat) (p e : E)
  | expr (e : E)
  | ret (e : E)
  | iff (c : E) (a b : Ss)
  | forr (t : T) (it : It) (b : Ss)
  | whl (c : E) (b : Ss)
  | pass
  | brk
  | cont
  | never
inductive Ss where
  | nil
  | cons (s : S) (r : Ss)
end

/-! plain data of the library -/
def kPy : Key → PyData
  | .inl i => .int i
  | .inr x => .str x
mutual
def toPy : D → PyData
  | .non => .none
  | .bl b => .bool b
  | .int i => .int i
  | .str s => .str s
  | .tup l => .tuple (toPyL l)
  | .lst l => .list (toPyL l)
  | .dic k l => .dict (List.zip (k.map kPy) (toPyL l))
  | .hd _ => .none
def toPyL : List D → List PyData
  | [] => []
  | d :: ds => toPy d :: toPyL ds
end
mutual
/-- no dict, no handle within -/
def pln : D → Bool
  | .non => true
  | .bl _ => true
  | .int _ => true
  | .str _ => true
  | .tup l => plnL l
  | .lst l => plnL l
  | .dic _ _ => false
  | .hd _ => false
def plnL : List D → Bool
  | [] => true
  | d :: ds => pln d && plnL ds
end
mutual
/-- no handle within -/
def plx : D → Bool
  | .non => true
  | .bl _ => true
  | .int _ => true
  | .str _ => true
  | .tup l => plxL l
  | .lst l => plxL l
  | .dic _ l => plxL l
  | .hd _ => false
def plxL : List D → Bool
  | [] => true
  | d :: ds => plx d && plxL ds
end
/-- may be compared -/
def okEq (d : D) : Prop := pln d = true ∧ SeqAt.shaped (toPy d) = true
/-- two values may be compared: texts always -/
def eqOk (x y : D) : Prop := match x, y with
  | .str _, .str _ => True
  | x, y => okEq x ∧ okEq y
def deq (d e : D) : Bool := PyData.eqv (toPy d) (toPy e)
/-- may be written out -/
def okSh (d : D) : Prop := pln d = true ∧ (toPy d).showable = true ∧ (toPy d).shown.length ≤ sizeLine ∧ (toPy d).depth ≤ 20
mutual
def showB : PyData → Bool
  | .none => true
  | .bool _ => true
  | .str _ => true
  | .int i => decide (i.natAbs.log2 < 12900)
  | .list xs => showBs xs
  | .tuple xs => showBs xs
  | .dict kvs => showBk kvs
def showBs : List PyData → Bool
  | [] => true
  | x :: xs => showB x && showBs xs
def showBk : List (PyData × PyData) → Bool
  | [] => true
  | (k, v) :: r => showB k && (showB v && showBk r)
end
/-- with numbers of any size below 2 ** 12900, where no limit has been set -/
def okShB (d : D) : Prop := plx d = true ∧ showB (toPy d) = true ∧ (toPy d).shown.length ≤ sizeLine ∧ (toPy d).depth ≤ 20
def txt (d : D) : Str := (toPy d).shown

def flatD : D → Bool
  | .non => true
  | .bl _ => true
  | .int _ => true
  | .str _ => true
  | _ => false

/-! operations -/
def sTru (d : D) (k : Bool → Prop) : Prop := match d with
  | .non => k false
  | .bl b => k b
  | .int i => k (i != 0)
  | .str s => s.length ≤ sizeLine ∧ k (s.length != 0)
  | .lst l => k (!l.isEmpty)
  | .tup l => k (!l.isEmpty)
  | _ => False
/-- a power that is not too great -/
def PowOk (i j : Int) : Prop := 0 ≤ j ∧ (Builtin.Int.intBits i : Int) * j ≤ 2 ^ 27
def sBin (op : Operator) (x y : D) (Q : C → Prop) : Prop := match op, x, y with
  | .Add, .int i, .int j => Q (.sh (.int (i + j)))
  | .Add, .str a, .str b => a.length + b.length ≤ sizeLine ∧ Q (.sh (.str (a ++ b)))
  | .Add, .lst a, .lst b => a.length + b.length ≤ sizeLine ∧ Q (.ow (.lst (a ++ b)))
  | .Add, .tup a, .tup b => a.length + b.length ≤ sizeLine ∧ Q (.sh (.tup (a ++ b)))
  | .Sub, .int i, .int j => Q (.sh (.int (i - j)))
  | .Mult, .int i, .int j => IntMulOk i j ∧ Q (.sh (.int (i * j)))
  | .Mult, .lst a, .int k => (-(2 ^ 63) ≤ k ∧ k < 2 ^ 63 ∧ a.length * k.toNat ≤ sizeLine) ∧ Q (.ow (.lst (List.replicate k.toNat a).flatten))
  | .Mult, .tup a, .int k => (0 ≤ k ∧ k ≤ 1000 ∧ a.length ≤ 1000) ∧ Q (.sh (.tup (List.replicate k.toNat a).flatten))
  | .FloorDiv, .int i, .int j => CDivW i j ∧ Q (.sh (.int (i / j)))
  | .Mod, .int i, .int j => 0 < j ∧ Q (.sh (.int (i % j)))
  | .Pow, .int i, .int j => PowOk i j ∧ Q (.sh (.int (i ^ j.toNat)))
  | .LShift, .int i, .int j => CPow i j ∧ Q (.sh (.int (i * 2 ^ j.toNat)))
  | .RShift, .int i, .int j => 0 ≤ j ∧ Q (.sh (.int (i / 2 ^ j.toNat)))
  | .BitAnd, .int i, .int j => Q (.sh (.int (Builtin.bitAnd i j)))
  | .BitOr, .int i, .int j => Q (.sh (.int (Builtin.bitOr i j)))
  | .BitXor, .int i, .int j => Q (.sh (.int (Builtin.bitXor i j)))
  | _, _, _ => False
def isN : D → Bool
  | .non => true
  | _ => false
def sCmp (op : CmpOp) (x y : D) (k : Bool → Prop) : Prop := match op, x, y with
  | .Eq, x, y => eqOk x y ∧ k (deq x y)
  | .NotEq, x, y => eqOk x y ∧ k (!deq x y)
  | .Lt, .int i, .int j => k (decide (i < j))
  | .LtE, .int i, .int j => k (decide (i ≤ j))
  | .Gt, .int i, .int j => k (decide (j < i))
  | .GtE, .int i, .int j => k (decide (j ≤ i))
  | .Is, x, .non => k (isN x)
  | .IsNot, x, .non => k (!isN x)
  | .Is, .bl a, .bl b => k (decide (a = b))
  | .IsNot, .bl a, .bl b => k (!decide (a = b))
  | .In, x, .lst l => (flatD x = true ∧ l.all flatD = true) ∧ k (l.any fun y => deq y x)
  | .In, x, .tup l => (flatD x = true ∧ l.all flatD = true) ∧ k (l.any fun y => deq y x)
  | .NotIn, x, .lst l => (flatD x = true ∧ l.all flatD = true) ∧ k (!l.any fun y => deq y x)
  | .NotIn, x, .tup l => (flatD x = true ∧ l.all flatD = true) ∧ k (!l.any fun y => deq y x)
  | _, _, _ => False
def sIx (x y : D) (Q : D → Prop) : Prop := match x, y with
  | .lst l, .int i => ∃ d, atI l i = some d ∧ Q d
  | .tup l, .int i => ∃ d, atI l i = some d ∧ Q d
  | .str s, .int i => s.length ≤ sizeLine ∧ ∃ c, atI s.cps.toList i = some c ∧ Q (.str ⟨#[c]⟩)
  | _, _ => False
def cutD (xs : List D) (lo hi : Option Int) : List D := (xs.drop (HT.sIx xs.length 0 lo)).take (HT.sIx xs.length xs.length hi - HT.sIx xs.length 0 lo)
def sSl (x : D) (lo hi : Option Int) (Q : C → Prop) : Prop := match x with
  | .lst l => Q (.ow (.lst (cutD l lo hi)))
  | .tup l => Q (.sh (.tup (cutD l lo hi)))
  | _ => False
def sRv (x : D) (Q : C → Prop) : Prop := match x with
  | .lst l => Q (.ow (.lst l.reverse))
  | .tup l => Q (.sh (.tup l.reverse))
  | _ => False
/-- all of them stand in a list of at most 4000 -/
def Few (ns : List Int) : Prop := ∃ cs : List Int, cs.length ≤ 4000 ∧ ∀ k, k ∈ ns → k ∈ cs
theorem few_len {ns : List Int} (h : ns.length ≤ 4000) : Few ns := ⟨ns, h, fun _ z => z⟩
def sset (l : List D) (Q : C → Prop) : Prop := ∃ ns : List Int, l = ns.map D.int ∧ Few ns ∧ ∀ ms : List Int, ms.Pairwise (· < ·) → (∀ k, k ∈ ms ↔ k ∈ ns) → Q (.ow (.lst (ms.map D.int)))
def ssetT (l : List D) (Q : C → Prop) : Prop := ∃ ns : List Int, l = ns.map D.int ∧ ns.length ≤ 4000 ∧ ∀ ms : List Int, ms.Pairwise (· < ·) → (∀ k, k ∈ ms ↔ k ∈ ns) → Q (.ow (.lst (ms.map D.int)))
/-! dicts -/
def kD : Key → D
  | .inl i => .int i
  | .inr s => .str s
instance memKey (k : Key) (ks : List Key) : Decidable (k ∈ ks) := @List.instDecidableMemOfLawfulBEq _ instBEqOfDecidableEq inferInstance k ks
/-- the keys, the values, behind d[k] = y -/
def dK (ks : List Key) (k : Key) : List Key := if k ∈ ks then ks else ks ++ [k]
def dV (ks : List Key) (ds : List D) (k : Key) (y : D) : List D := if k ∈ ks then List.zipWith (fun j d => if j = k then y else d) ks ds else ds ++ [y]
def pairsI : List D → Option (List (Key × D))
  | [] => some []
  | .int k :: y :: r => match pairsI r with
    | some ps => some ((.inl k, y) :: ps)
    | none => none
  | _ => none
def putAll : List (Key × D) → List Key → List D → D
  | [], ks, ds => .dic ks ds
  | (k, y) :: r, ks, ds => putAll r (dK ks k) (dV ks ds k y)
def sDsp (ds : List D) (Q : C → Prop) : Prop := match pairsI ds with
  | some ps => ps.length ≤ 15 ∧ Q (.ow (putAll ps [] []))
  | none => False
/-- d[k] = y -/
def sPutD (d : D) (k : Int) (y : D) (Q : D → Prop) : Prop := match d with
  | .dic ks ds => ks.length < sizeLine ∧ Q (.dic (dK ks (.inl k)) (dV ks ds (.inl k) y))
  | _ => False
def sKeys (d : D) (Q : List D → Prop) : Prop := match d with
  | .dic ks _ => Q (ks.map kD)
  | _ => False
/-- sorted: ints, pairs of ints -/
def pr (p : Int × Int) : D := .tup [.int p.1, .int p.2]
def lexLe (p q : Int × Int) : Prop := p.1 < q.1 ∨ (p.1 = q.1 ∧ p.2 ≤ q.2)
def srt (l : List D) (Q : C → Prop) : Prop := (∃ ns : List Int, l = ns.map D.int ∧ ∀ ms : List Int, ms.Perm ns → ms.Pairwise (· ≤ ·) → Q (.ow (.lst (ms.map D.int)))) ∨ ∃ ps : List (Int × Int), l = ps.map pr ∧ ∀ qs : List (Int × Int), qs.Perm ps → qs.Pairwise lexLe → Q (.ow (.lst (qs.map pr)))
def sBi (f : Bi) (ds : List D) (Q : C → Prop) : Prop := match f, ds with
  | .len, [.lst l] => Q (.sh (.int l.length))
  | .len, [.tup l] => Q (.sh (.int l.length))
  | .len, [.str s] => s.length ≤ sizeLine ∧ Q (.sh (.int s.length))
  | .abs, [.int i] => Q (.sh (.int i.natAbs))
  | .int, [.int i] => Q (.sh (.int i))
  | .int, [.bl b] => Q (.sh (.int (if b then 1 else 0)))
  | .bool, [.int i] => Q (.sh (.bl (i != 0)))
  | .bool, [.bl b] => Q (.sh (.bl b))
  | .str, [.int i] => i.natAbs.log2 < 1920 ∧ Q (.sh (.str (toString i)))
  | .repr, [d] => okSh d ∧ Q (.sh (.str (txt d)))
  | .reprB, [d] => okShB d ∧ Q (.sh (.str (txt d)))
  | .sum, [.lst l] => ∃ ns : List Int, l = ns.map D.int ∧ Q (.sh (.int ns.sum))
  | .max1, [.lst l] => ∃ ns : List Int, l = ns.map D.int ∧ 0 < ns.length ∧ ∀ m, m ∈ ns → (∀ y, y ∈ ns → y ≤ m) → Q (.sh (.int m))
  | .min1, [.lst l] => ∃ ns : List Int, l = ns.map D.int ∧ 0 < ns.length ∧ ∀ m, m ∈ ns → (∀ y, y ∈ ns → m ≤ y) → Q (.sh (.int m))
  | .minP, [.lst l] => ∃ ps : List (Int × Int), l = ps.map pr ∧ ps ≠ [] ∧ ∀ p, p ∈ ps → (∀ q, q ∈ ps → lexLe p q) → Q (.sh (pr p))
  | .max2, [.int i, .int j] => Q (.sh (.int (max i j)))
  | .min2, [.int i, .int j] => Q (.sh (.int (min i j)))
  | .lst, [.lst l] => Q (.ow (.lst l))
  | .lst, [.tup l] => Q (.ow (.lst l))
  | .lst, [.dic ks _] => Q (.ow (.lst (ks.map kD)))
  | .dct, [.dic ks ds] => Q (.ow (.dic ks ds))
  | .sorted, [.dic ks _] => ∃ ns : List Int, ks = ns.map Sum.inl ∧ ns.length < 64 ∧ ∀ ms : List Int, ms.Perm ns → ms.Pairwise (· ≤ ·) → Q (.ow (.lst (ms.map D.int)))
  | .tup, [.lst l] => Q (.sh (.tup l))
  | .tup, [.tup l] => Q (.sh (.tup l))
  | .sorted, [.lst l] => srt l Q
  | .sorted, [.tup l] => srt l Q
  | .sset, [.lst l] => sset l Q
  | .sset, [.tup l] => ssetT l Q
  | .all_, [.lst l] => ∃ bs : List Bool, l = bs.map D.bl ∧ Q (.sh (.bl (bs.all id)))
  | .any_, [.lst l] => ∃ bs : List Bool, l = bs.map D.bl ∧ Q (.sh (.bl (bs.any id)))
  | .gcd, [.int i, .int j] => Q (.sh (.int (Nat.gcd i.natAbs j.natAbs)))
  | .lrg1, [.int n] => RgOk 0 n ∧ Q (.ow (.lst ((List.range n.toNat).map fun (k : Nat) => D.int k)))
  | .lrg2, [.int a, .int b] => RgOk a b ∧ Q (.ow (.lst ((List.range (b - a).toNat).map fun (k : Nat) => D.int (a + k))))
  | .trg1, [.int n] => RgOk 0 n ∧ Q (.sh (.tup ((List.range n.toNat).map fun (k : Nat) => D.int k)))
  | .trg2, [.int a, .int b] => RgOk a b ∧ Q (.sh (.tup ((List.range (b - a).toNat).map fun (k : Nat) => D.int (a + k))))
  | _, _ => False
/-- of a built-in class, its own class among them -/
def isTy (d : D) (ty : String) : Option Bool := match d with
  | .non => kitB "NoneType" ty
  | .bl _ => kitB "bool" ty
  | .int _ => kitB "int" ty
  | .str _ => kitB "str" ty
  | .tup _ => kitB "tuple" ty
  | .lst _ => kitB "list" ty
  | .dic _ _ => kitB "dict" ty
  | .hd _ => none

/-! operands: a value, or a name that is looked at when the operation is done -/
inductive Opd where
  | v (d : D)
  | s (i : Nat)
def Opd.get (env : En) : Opd → Option D
  | .v d => some d
  | .s i => match env[i]? with
    | some (some c) => some c.d
    | _ => none
def gets (env : En) : List Opd → Option (List D)
  | [] => some []
  | o :: os => match o.get env, gets env os with
    | some d, some ds => some (d :: ds)
    | _, _ => none
abbrev WE := En → (C → En → Prop) → Prop
abbrev WT := En → (Bool → En → Prop) → Prop
structure W where
  ev : WE
  te : WT
def pk (e : E) (w : WE) (env : En) (Q : Opd → En → Prop) : Prop := match e with
  | .var i => (∃ c, env[i]? = some (some c)) ∧ Q (.s i) env
  | _ => w env fun c env' => Q (.v c.d) env'
def mkW (e : E) (ev : WE) : W := ⟨ev, fun env Q => pk e ev env fun o env' => ∃ d, o.get env' = some d ∧ sTru d fun k => Q k env'⟩

mutual
def wTg : T → C → En → (En → Prop) → Prop
  | .nm i, c, env, Q => Q (env.set i (some c))
  | .nil, c, env, Q => (c.d = .tup [] ∨ c.d = .lst []) ∧ Q env
  | .cons t r, c, env, Q => ∃ d ds, (c.d = .tup (d :: ds) ∨ c.d = .lst (d :: ds)) ∧ wTg t (.sh d) env fun env' => wTg r (.sh (.tup ds)) env' Q
end
/-- own slots forgotten; given away; as they were -/
def wipeE (env : En) : List Nat → En
  | [] => env
  | i :: is => (wipeE env is).set i none
def giveE (env : En) : List Nat → En
  | [] => env
  | i :: is => match (giveE env is)[i]? with
    | some (some c) => (giveE env is).set i (some (.sh c.d))
    | _ => giveE env is
def backE (env env' : En) : List Nat → En
  | [] => env'
  | i :: is => match env[i]? with
    | some c => (backE env env' is).set i c
    | none => backE env env' is
def zipD : List D → List D → List D
  | a :: as, b :: bs => .tup [a, b] :: zipD as bs
  | _, _ => []
def enumD (n : Nat) : List D → List D
  | [] => []
  | a :: as => .tup [.int n, a] :: enumD (n + 1) as

/-- the turns of a comprehension: env0 for the own slots -/
def lcGo (g : D → En → (En → Prop) → Prop) (tt : WT) (we : WE) (own : List Nat) : List D → En → List D → (List D → En → Prop) → Prop
  | [], env, acc, Q => Q acc env
  | d :: ds, env, acc, Q => g d (wipeE env own) fun env1 => tt env1 fun b env2 =>
    if b = true then we env2 fun c env3 => lcGo g tt we own ds env3 (acc ++ [c.d]) Q else lcGo g tt we own ds env2 acc Q

/-- a list of one's own stands there -/
def Own (env : En) (i : Nat) : Prop := ∃ l, env[i]? = some (some (C.ow (.lst l)))
/-- a dict of one's own -/
def OwnD (env : En) (i : Nat) : Prop := ∃ d, env[i]? = some (some (C.ow d))
abbrev Spec := List D → (C → Prop) → Prop
abbrev Gam := Nat → Spec
variable (Γ : Gam)
mutual
def w : E → W
  | .var i => mkW (.var i) fun env Q => ∃ c, env[i]? = some (some c) ∧ Q (.sh c.d) (env.set i (some (.sh c.d)))
  | .cst d => mkW (.cst d) fun env Q => Q (.sh d) env
  | .bin op a b => mkW (.bin op a b) fun env Q => pk a (w a).ev env fun oa env1 => pk b (w b).ev env1 fun ob env2 => ∃ x y, oa.get env2 = some x ∧ ob.get env2 = some y ∧ sBin op x y fun c => Q c env2
  | .neg a => mkW (.neg a) fun env Q => (w a).ev env fun c env1 => ∃ i, c.d = .int i ∧ Q (.sh (.int (-i))) env1
  | .nt a => ⟨fun env Q => (w a).ev env fun c env1 => ∃ b, c.d = .bl b ∧ Q (.sh (.bl (!b))) env1, fun env Q => (w a).te env fun k env1 => Q (!k) env1⟩
  | .bop isAnd a b => ⟨fun env Q => (w a).ev env fun c env1 => ∃ k, c.d = .bl k ∧ if k = isAnd then (w b).ev env1 Q else Q (.sh (.bl k)) env1,
      fun env Q => (w a).te env fun k env1 => if k = isAnd then (w b).te env1 Q else Q k env1⟩
  | .cmp op a b => ⟨fun env Q => pk a (w a).ev env fun oa env1 => pk b (w b).ev env1 fun ob env2 => ∃ x y, oa.get env2 = some x ∧ ob.get env2 = some y ∧ sCmp op x y fun k => Q (.sh (.bl k)) env2,
      fun env Q => pk a (w a).ev env fun oa env1 => pk b (w b).ev env1 fun ob env2 => ∃ x y, oa.get env2 = some x ∧ ob.get env2 = some y ∧ sCmp op x y fun k => Q k env2⟩
  | .chn o1 o2 a b c => ⟨fun env Q => (w a).ev env fun ca env1 => (w b).ev env1 fun cb env2 => sCmp o1 ca.d cb.d fun k => if k = true then (w c).ev env2 fun cc env3 => sCmp o2 cb.d cc.d fun k2 => Q (.sh (.bl k2)) env3 else Q (.sh (.bl false)) env2,
      fun env Q => (w a).ev env fun ca env1 => (w b).ev env1 fun cb env2 => sCmp o1 ca.d cb.d fun k => if k = true then (w c).ev env2 fun cc env3 => sCmp o2 cb.d cc.d fun k2 => Q k2 env3 else Q false env2⟩
  | .ife c a b => ⟨fun env Q => (w c).te env fun k env1 => if k = true then (w a).ev env1 Q else (w b).ev env1 Q, fun env Q => (w c).te env fun k env1 => if k = true then (w a).te env1 Q else (w b).te env1 Q⟩
  | .tup es => mkW (.tup es) fun env Q => wEs es env fun ds env1 => ds.length ≤ sizeLine ∧ Q (.sh (.tup ds)) env1
  | .lst es => mkW (.lst es) fun env Q => wEs es env fun ds env1 => ds.length ≤ sizeLine ∧ Q (.ow (.lst ds)) env1
  | .ix a i => mkW (.ix a i) fun env Q => pk a (w a).ev env fun oa env1 => (w i).ev env1 fun ci env2 => ∃ x, oa.get env2 = some x ∧ sIx x ci.d fun d => Q (.sh d) env2
  | .sl a lo hi => mkW (.sl a lo hi) fun env Q => pk a (w a).ev env fun oa env1 => wO lo env1 fun l env2 => wO hi env2 fun h env3 => ∃ x, oa.get env3 = some x ∧ sSl x l h fun c => Q c env3
  | .rv a => mkW (.rv a) fun env Q => pk a (w a).ev env fun oa env1 => ∃ x, oa.get env1 = some x ∧ sRv x fun c => Q c env1
  | .dnil => mkW .dnil fun env Q => Q (.ow (.dic [] [])) env
  | .dsp es => mkW (.dsp es) fun env Q => wEs es env fun ds env1 => sDsp ds fun c => Q c env1
  | .bi f es => mkW (.bi f es) fun env Q => wPs es env fun os env1 => ∃ ds, gets env1 os = some ds ∧ sBi f ds fun c => Q c env1
  | .call f es => mkW (.call f es) fun env Q => wEs es env fun ds env1 => Γ f ds fun c => Q c env1
  | .pop i => mkW (.pop i) fun env Q => ∃ l d, env[i]? = some (some (.ow (.lst l))) ∧ l[l.length - 1]? = some d ∧ Q (.sh d) (env.set i (some (.ow (.lst l.dropLast))))
  | .popA i e => mkW (.popA i e) fun env Q => Own env i ∧ (w e).ev env fun c env1 => ∃ l k j d, c.d = .int k ∧ env1[i]? = some (some (.ow (.lst l))) ∧ -(2 ^ 63) ≤ k ∧ k < 2 ^ 63 ∧ seqIndex? k l.length = some j ∧ l[j]? = some d ∧ Q (.sh d) (env1.set i (some (.ow (.lst (l.eraseIdx j)))))
  | .comp own t it cnd elt => mkW (.comp own t it cnd elt) fun env Q => wI it env fun ds env1 =>
      lcGo (fun d => wTg t (.sh d)) (wC cnd) (w elt).ev own ds (giveE env1 own) [] fun acc env2 => Q (.ow (.lst acc)) (backE (giveE env1 own) env2 own)
  | .isi a ty => mkW (.isi a ty) fun env Q => pk a (w a).ev env fun o env1 => ∃ d b, o.get env1 = some d ∧ isTy d ty = some b ∧ Q (.sh (.bl b)) env1
def wEs : Es → En → (List D → En → Prop) → Prop
  | .nil => fun env Q => Q [] env
  | .cons e r => fun env Q => (w e).ev env fun c env1 => wEs r env1 fun ds env2 => Q (c.d :: ds) env2
def wPs : Es → En → (List Opd → En → Prop) → Prop
  | .nil => fun env Q => Q [] env
  | .cons e r => fun env Q => pk e (w e).ev env fun o env1 => wPs r env1 fun os env2 => Q (o :: os) env2
def wO : Oe → En → (Option Int → En → Prop) → Prop
  | .no => fun env Q => Q none env
  | .so e => fun env Q => (w e).ev env fun c env1 => ∃ i, c.d = .int i ∧ Q (some i) env1
def wC : Oe → WT
  | .no => fun env Q => Q true env
  | .so e => (w e).te
def wI : It → En → (List D → En → Prop) → Prop
  | .rg1 a => fun env Q => (w a).ev env fun c env1 => ∃ n, c.d = .int n ∧ (-(2 ^ 62) ≤ n ∧ n ≤ 16777216) ∧ Q ((List.range n.toNat).map fun (k : Nat) => D.int k) env1
  | .rg2 a b => fun env Q => (w a).ev env fun c env1 => (w b).ev env1 fun c2 env2 => ∃ n m, c.d = .int n ∧ c2.d = .int m ∧ (-(2 ^ 62) ≤ n ∧ n < 2 ^ 62 ∧ -(2 ^ 62) ≤ m ∧ m < 2 ^ 62 ∧ (m - n).toNat ≤ sizeLine) ∧ Q ((List.range (m - n).toNat).map fun (k : Nat) => D.int (n + k)) env2
  | .rg3 a b c => fun env Q => (w a).ev env fun c1 env1 => (w b).ev env1 fun c2 env2 => (w c).ev env2 fun c3 env3 => ∃ x y z n, c1.d = .int x ∧ c2.d = .int y ∧ c3.d = .int z ∧ RgC x y z n ∧ n ≤ sizeLine ∧ Q ((List.range n).map fun (k : Nat) => D.int (x + k * z)) env3
  | .sq a => fun env Q => (w a).ev env fun c env1 => (∃ l, (c.d = .lst l ∨ c.d = .tup l) ∧ Q l env1)
  | .en a => fun env Q => (w a).ev env fun c env1 => (∃ l, (c.d = .lst l ∨ c.d = .tup l) ∧ Q (enumD 0 l) env1)
  | .zp a b => fun env Q => (w a).ev env fun c env1 => (w b).ev env1 fun c2 env2 => (∃ l m, ((c.d = .lst l ∧ c2.d = .lst m) ∨ (c.d = .tup l ∧ c2.d = .tup m) ∨ (c.d = .tup l ∧ c2.d = .lst m) ∨ (c.d = .lst l ∧ c2.d = .tup m)) ∧ Q (zipD l m) env2)
  | .rev a => fun env Q => (w a).ev env fun c env1 => ∃ l, c.d = .lst l ∧ Q l.reverse env1
  | .dk i => fun env Q => ∃ d, env[i]? = some (some (.ow d)) ∧ sKeys d fun l => Q l (env.set i (some (.sh d)))
end

/-! statements -/
structure Ed where
  nx : En → Prop
  rt : C → Prop
  bk : En → Prop := fun _ => False
  ct : En → Prop := fun _ => False
abbrev WS := Ed → En → Prop
def forGo (g : D → En → (En → Prop) → Prop) (b : WS) : List D → WS
  | [] => fun X env => X.nx env
  | d :: ds => fun X env => g d env fun env1 => b { nx := forGo g b ds X, rt := X.rt, bk := X.nx, ct := forGo g b ds X } env1
def whlGo (t : WT) (b : WS) : Nat → WS
  | 0 => fun _ _ => False
  | n + 1 => fun X env => t env fun k env1 => if k = true then b { nx := whlGo t b n X, rt := X.rt, bk := X.nx, ct := whlGo t b n X } env1 else X.nx env1
def setAll : List Nat → List C → En → En
  | i :: is, c :: cs, env => setAll is cs (env.set i (some c))
  | _, _, env => env
/-- several values in a row, each with what it owns -/
def wCs : Es → En → (List C → En → Prop) → Prop
  | .nil => fun env Q => Q [] env
  | .cons e r => fun env Q => (w Γ e).ev env fun c env1 => wCs r env1 fun cs env2 => Q (c :: cs) env2
def rtE (e : E) (we : WE) (env : En) (Q : C → Prop) : Prop := match e with
  | .var i => ∃ c, env[i]? = some (some c) ∧ Q c
  | _ => we env fun c _ => Q c
mutual
def wS : S → WS
  | .asg t e => fun X env => (w Γ e).ev env fun c env1 => wTg t c env1 X.nx
  | .par is es => fun X env => wCs Γ es env fun cs env1 => X.nx (setAll is cs env1)
  | .seti i ix v => fun X env => (w Γ v).ev env fun cv env1 => Own env1 i ∧ (w Γ ix).ev env1 fun ci env2 => ∃ l k j, ci.d = .int k ∧ env2[i]? = some (some (.ow (.lst l))) ∧ ixN l.length k = some j ∧ X.nx (env2.set i (some (.ow (.lst (l.set j cv.d)))))
  | .setk i ix v => fun X env => (w Γ v).ev env fun cv env1 => OwnD env1 i ∧ (w Γ ix).ev env1 fun ci env2 => ∃ k d, ci.d = .int k ∧ env2[i]? = some (some (.ow d)) ∧ sPutD d k cv.d fun d' => X.nx (env2.set i (some (.ow d')))
  | .app i e => fun X env => Own env i ∧ (w Γ e).ev env fun c env1 => ∃ l, env1[i]? = some (some (.ow (.lst l))) ∧ l.length < sizeLine ∧ X.nx (env1.set i (some (.ow (.lst (l ++ [c.d])))))
  | .ext i e => fun X env => Own env i ∧ (w Γ e).ev env fun c env1 => ∃ l m, env1[i]? = some (some (.ow (.lst l))) ∧ c.d = .lst m ∧ l.length + m.length ≤ sizeLine ∧ X.nx (env1.set i (some (.ow (.lst (l ++ m)))))
  | .ins i p e => fun X env => Own env i ∧ (w Γ p).ev env fun cp env1 => (w Γ e).ev env1 fun c env2 => ∃ l k, cp.d = .int k ∧ env2[i]? = some (some (.ow (.lst l))) ∧ (0 ≤ k ∧ k < 2 ^ 63) ∧ l.length < sizeLine ∧ X.nx (env2.set i (some (.ow (.lst (l.take k.toNat ++ c.d :: l.drop k.toNat)))))
  | .expr e => fun X env => (w Γ e).ev env fun _ env1 => X.nx env1
  | .ret e => fun X env => rtE e (w Γ e).ev env X.rt
  | .iff c a b => fun X env => (w Γ c).te env fun k env1 => if k = true then wSs a X env1 else wSs b X env1
  | .forr t it b => fun X env => wI Γ it env fun ds env1 => forGo (fun d => wTg t (.sh d)) (wSs b) ds X env1
  | .whl c b => fun X env => ∃ n, whlGo (w Γ c).te (wSs b) n X env
  | .pass => fun X env => X.nx env
  | .brk => fun X env => X.bk env
  | .cont => fun X env => X.ct env
  | .never => fun _ _ => False
def wSs : Ss → WS
  | .nil => fun X env => X.nx env
  | .cons s r => fun X env => wS s { X with nx := fun env1 => wSs r X env1 } env
end
end B

namespace B
open PySem PySem.Spec L2

example (Γ : Gam) (env : En) (Q : C → En → Prop) : (w Γ (.tup (.cons (.cst (.int 1)) .nil))).ev env Q = (1 ≤ sizeLine ∧ Q (.sh (.tup [.int 1])) env) := rfl

/-- as an operand: what it holds stands in H, what is in it is seen -/
def Pk (K : PySem.W.Frag) (ad : Nat → Addr) (H Hv : Hp) (v : V) : D → Prop
  | .lst ds => ∃ a vs, v = .ref a ∧ H a = some (.lst vs) ∧ RepL K ad Hv vs ds
  | .dic ks ds => ∃ (a : Addr) (kvs : List (Key × V)), v = .ref a ∧ Rd H a (.dK kvs) ∧ kvs.map (·.1) = ks ∧ RepL K ad Hv (kvs.map (·.2)) ds
  | d => Rep K ad Hv v d
section
variable {K : PySem.W.Frag} {ad : Nat → Addr} {H Hv : Hp} {v : V} {d : D}
theorem Pk.of_rep (s : Same Hv H) (h : Rep K ad Hv v d) : Pk K ad H Hv v d := by
  cases h with
  | lst h r => exact ⟨_, _, rfl, s _ _ h, r⟩
  | dic h r => exact ⟨_, _, rfl, rd_mono s h, rfl, r⟩
  | non => exact .non
  | bl b => exact .bl b
  | int i => exact .int i
  | str z => exact .str z
  | tup h r => exact .tup h r
  | hd n => exact .hd n
theorem Pk.rep (s : Same Hv H) (h : Pk K ad H Hv v d) : Rep K ad H v d := by
  cases d with
  | lst ds => obtain ⟨a, vs, rfl, e, r⟩ := h; exact .lst e (r.mono s)
  | dic ks ds => obtain ⟨a, kvs, rfl, e, rfl, r⟩ := h; exact .dic e (r.mono s)
  | non => exact Rep.mono s h
  | bl b => exact Rep.mono s h
  | int i => exact Rep.mono s h
  | str z => exact Rep.mono s h
  | tup l => exact Rep.mono s h
  | hd n => exact Rep.mono s h
theorem Pk.int {i : Int} (h : Pk K ad H Hv v (.int i)) : v = .int i := by cases (show Rep K ad Hv v (.int i) from h); rfl
theorem Pk.bl {i : Bool} (h : Pk K ad H Hv v (.bl i)) : v = .bl i := by cases (show Rep K ad Hv v (.bl i) from h); rfl
theorem Pk.str {i : Str} (h : Pk K ad H Hv v (.str i)) : v = .str i := by cases (show Rep K ad Hv v (.str i) from h); rfl
theorem Pk.non (h : Pk K ad H Hv v .non) : v = .non := by cases (show Rep K ad Hv v .non from h); rfl
theorem Pk.lst {l : List D} (h : Pk K ad H Hv v (.lst l)) : ∃ a vs, v = .ref a ∧ H a = some (.lst vs) ∧ RepL K ad Hv vs l := h
theorem Pk.dic {ks : List Key} {l : List D} (h : Pk K ad H Hv v (.dic ks l)) : ∃ (a : Addr) (kvs : List (Key × V)), v = .ref a ∧ Rd H a (.dK kvs) ∧ kvs.map (·.1) = ks ∧ RepL K ad Hv (kvs.map (·.2)) l := h
theorem Pk.tup (s : Same Hv H) {l : List D} (h : Pk K ad H Hv v (.tup l)) : ∃ a vs, v = .ref a ∧ H a = some (.tup vs) ∧ Hv a = some (.tup vs) ∧ RepL K ad Hv vs l := by
  cases (show Rep K ad Hv v (.tup l) from h) with
  | tup h1 r => exact ⟨_, _, rfl, s _ _ h1, h1, r⟩
mutual
theorem Rep.dp : ∀ {v : V} {d : D}, Rep K ad H v d → pln d = true → Dp K H v (toPy d)
  | _, _, .non, _ => .non
  | _, _, .bl b, _ => .bl b
  | _, _, .int i, _ => .int i
  | _, _, .str s, _ => .str s
  | _, _, .tup h r, p => .tup (SqT.of h) (RepL.dp r p)
  | _, _, .lst h r, p => .lst (SqL.of h) (RepL.dp r p)
  | _, _, .dic h r, p => nomatch p
  | _, _, .hd n, p => nomatch p
theorem RepL.dp : ∀ {vs : List V} {ds : List D}, RepL K ad H vs ds → plnL ds = true → DpAll K H vs (toPyL ds)
  | _, _, .nil, _ => .nil
  | _, _, .cons h r, p => .cons (Rep.dp h (Bool.and_eq_true_iff.mp p).1) (RepL.dp r (Bool.and_eq_true_iff.mp p).2)
end
end

/-- what is wanted of a result -/
def Kont (G : Gd) (env : En) (σ : St) (Hv : Hp) (Q : VK) (c : C) : Prop :=
  ∀ v H' Hv' F', Rel G env σ H' Hv' F' → Res G env σ H' Hv' F' v c → Same Hv Hv' → Q v H'
section
variable {G : Gd} {env : En} {σ : St} {H Hv : Hp} {F : Addr → Prop} {Q : VK} {v : V} {d : D} {vs : List V} {ds : List D} {p : Addr}
theorem Kont.sh (k : Kont G env σ Hv Q (.sh d)) (R : Rel G env σ H Hv F) (h : Rep G.K G.ad Hv v d) : Q v H := k v H Hv F R ⟨h, fun _ e => nomatch e⟩ (Same.refl _)
theorem Kont.newL (k : Kont G env σ Hv Q (.ow (.lst ds))) (R : Rel G env σ H Hv F) (h : RepL G.K G.ad Hv vs ds) (hp : H p = none) : Q (.ref p) (upd H p (.lst vs)) :=
  k _ _ Hv F (R.new hp) ⟨⟨p, rfl, ⟨R.hs.hv_none hp, R.hs.notF hp, R.hs.notT hp⟩, vs, upd_same, h⟩, fun _ _ => R.apart_new hp⟩ (Same.refl _)
theorem Kont.newD {ks : List Key} {kvs : List (Key × V)} (k : Kont G env σ Hv Q (.ow (.dic ks ds))) (R : Rel G env σ H Hv F) (e : kvs.map (·.1) = ks) (h : RepL G.K G.ad Hv (kvs.map (·.2)) ds) (hp : H p = none) : Q (.ref p) (upd H p (.dK kvs)) :=
  k _ _ Hv F (R.new hp) ⟨⟨p, rfl, ⟨R.hs.hv_none hp, R.hs.notF hp, R.hs.notT hp⟩, kvs, upd_same, e, h⟩, fun _ _ => R.apart_new hp⟩ (Same.refl _)
theorem Kont.newT (k : Kont G env σ Hv Q (.sh (.tup ds))) (R : Rel G env σ H Hv F) (h : RepL G.K G.ad Hv vs ds) (hp : H p = none) : Q (.ref p) (upd H p (.tup vs)) :=
  k _ _ (upd Hv p (.tup vs)) F (R.news hp) ⟨.tup upd_same (h.mono (same_self_upd (R.hs.hv_none hp))), fun _ e => nomatch e⟩ (same_self_upd (R.hs.hv_none hp))
theorem Kont.newLs (k : Kont G env σ Hv Q (.sh (.lst ds))) (R : Rel G env σ H Hv F) (h : RepL G.K G.ad Hv vs ds) (hp : H p = none) : Q (.ref p) (upd H p (.lst vs)) :=
  k _ _ (upd Hv p (.lst vs)) F (R.news hp) ⟨.lst upd_same (h.mono (same_self_upd (R.hs.hv_none hp))), fun _ e => nomatch e⟩ (same_self_upd (R.hs.hv_none hp))
end

/-! ### operators -/
section
variable {X : Cx}
/-- a reading that serves what sBin says -/
def BinOk (K : PySem.W.Frag) (op : Operator) (r : R2) : Prop := ∀ (G : Gd) (env : En) (σ : St) (H Hv : Hp) (F : Addr → Prop) (Q : VK) (u v : V) (x y : D), G.K = K → Rel G env σ H Hv F → Pk G.K G.ad H Hv u x → Pk G.K G.ad H Hv v y →
  sBin op x y (Kont G env σ Hv Q) → r u v H Q
theorem op_powA {X : Cx} : OpR X (binaryOp .Pow) (rI PowOk fun i j => .int (i ^ j.toNat)) := opI fun _ _ _ _ _ _ _ hc q => PyProof.Rows.pow_int hc.1 hc.2 q
theorem op_mulA {X : Cx} : OpR X (binaryOp .Mult) (rI IntMulOk fun i j => .int (i * j)) := opI fun _ _ _ _ _ _ _ hc q => PyProof.Rows.mul_int q hc
/-- a tuple once, and not at all -/
theorem tmul_one (p : Addr) (xs : Array Value) (m : Nat) (o2 : Option Addr) (o4 : Array (Option Value)) (u : Tok) :
    Meets (Builtin.«tuple.__mul__» ⟨[.ref p, .int 1 u], []⟩) (fun _ R t => t.heap.get? p = some { cls := .type "tuple", dict := o2, data := .seq xs m, slots := o4 } ∧ R (.ok (.ret (.ref p))) t) :=
  .of_wp fun pg wd A0 R t h => by
    obtain ⟨h1, h2, h3, h4, h5⟩ := t
    obtain ⟨hp, h⟩ := h
    have g1 := AutoSeq1.idx_int
    wp_walk using wpAny_loadPart' hp
    exact ⟨_, rfl, h⟩
theorem tmul_none (p : Addr) (x : Value) (xs : List Value) (m : Nat) (o2 : Option Addr) (o4 : Array (Option Value)) (u : Tok) :
    Meets (Builtin.«tuple.__mul__» ⟨[.ref p, .int 0 u], []⟩) (fun _ R t => t.heap.get? p = some { cls := .type "tuple", dict := o2, data := .seq (x :: xs).toArray m, slots := o4 } ∧
      R (.ok (.ret (Value.ref t.heap.objs.size))) { t with heap := t.heap.push { cls := Value.type "tuple", data := Data.seq #[] }, toks := t.toks }) :=
  .of_wp fun pg wd A0 R t h => by
    obtain ⟨h1, h2, h3, h4, h5⟩ := t
    obtain ⟨hp, h⟩ := h
    have g1 := AutoSeq1.idx_int
    wp_walk using wpAny_loadPart' hp
    exact ⟨_, rfl, h⟩
theorem tmul_nil (p : Addr) (n : Int) (m : Nat) (o2 : Option Addr) (o4 : Array (Option Value)) (u : Tok) (c0 : (decide (n < -(2 ^ 63)) || decide (n ≥ 2 ^ 63)) = false) :
    Meets (Builtin.«tuple.__mul__» ⟨[.ref p, .int n u], []⟩) (fun _ R t => t.heap.get? p = some { cls := .type "tuple", dict := o2, data := .seq #[] m, slots := o4 } ∧ R (.ok (.ret (.ref p))) t) :=
  .of_wp fun pg wd A0 R t h => by
    obtain ⟨h1, h2, h3, h4, h5⟩ := t
    obtain ⟨hp, h⟩ := h
    have g1 := AutoSeq1.idx_int
    wp_walk using wpAny_loadPart' hp
    repeat (first
      | (refine wpAny_ite_false (decide_eq_false (by rw [c0]; exact Bool.false_ne_true)) ?_; wp_walk using wpAny_loadPart' hp))
    exact ⟨_, rfl, h⟩
def rRepN (K : PySem.W.Frag) : R2 := fun x y H Q => ∃ l n, x = .ref l ∧ y = .int n ∧ SqT K H l [] ∧ (0 ≤ n ∧ n ≤ 1000) ∧ Q (.ref l) H
theorem op_repN {X : Cx} : OpR X (binaryOp .Mult) (rRepN X.K) := by
  intro pins s σ H x y v u Q I rx ry h
  obtain ⟨l, n, rfl, rfl, hT, hn, q⟩ := h
  cases rx
  obtain ⟨t, rfl⟩ := ry
  obtain ⟨vs, r, ⟨⟨o1, o2, o3, o4⟩, ob, oc, m, od⟩, oz⟩ := I.tuple hT
  simp only at oc od
  subst oc od
  have e : vs = [] := List.eq_nil_of_length_eq_zero (by rw [← r.length]; rfl)
  subst e
  exact wpAny_binaryOp_repeat_ref (T := "tuple") (U := "int") (by decide) ⟨_, ob, rfl⟩ (fun z => typeIs_int z n t) noFill_tuple_mul F.fills_int_mul F.slot_int_rmul repeat_tuple F.slot_int_index.lookup
    (call_meets F.slot_int_rmul (typeIs_int s n t) F.entry_int_rmul (F.args_int_rmul_2 _ _) (int_rmul_tuple n t l #[] m o2 o4)
      ⟨ob, rfl, ⟨_, ob, rfl⟩, call_meets F.slot_tuple_mul ⟨_, ob, rfl⟩ F.entry_tuple_mul (F.args_tuple_mul_2 _ _) (tmul_nil l n m o2 o4 t (by rw [decide_eq_false (by omega), decide_eq_false (by omega)]; rfl)) ⟨ob, ⟨.ref l, H, I, rfl, q⟩⟩⟩)
def rRep1 (K : PySem.W.Frag) : R2 := fun x y H Q => ∃ l xs, x = .ref l ∧ y = .int 1 ∧ SqT K H l xs ∧ Q (.ref l) H
def rRep0 (K : PySem.W.Frag) : R2 := fun x y H Q => ∃ l xs, x = .ref l ∧ y = .int 0 ∧ SqT K H l xs ∧ xs ≠ [] ∧ ∀ p, H p = none → Q (.ref p) (upd H p (.tup []))
theorem op_rep1 {X : Cx} : OpR X (binaryOp .Mult) (rRep1 X.K) := by
  intro pins s σ H x y v u Q I rx ry h
  obtain ⟨l, xs, rfl, rfl, hT, q⟩ := h
  cases rx
  obtain ⟨t, rfl⟩ := ry
  obtain ⟨vs, r, ⟨⟨o1, o2, o3, o4⟩, ob, oc, m, od⟩, oz⟩ := I.tuple hT
  simp only at oc od
  subst oc od
  exact wpAny_binaryOp_repeat_ref (T := "tuple") (U := "int") (by decide) ⟨_, ob, rfl⟩ (fun z => typeIs_int z 1 t) noFill_tuple_mul F.fills_int_mul F.slot_int_rmul repeat_tuple F.slot_int_index.lookup
    (call_meets F.slot_int_rmul (typeIs_int s 1 t) F.entry_int_rmul (F.args_int_rmul_2 _ _) (int_rmul_tuple 1 t l vs.toArray m o2 o4)
      ⟨ob, rfl, ⟨_, ob, rfl⟩, call_meets F.slot_tuple_mul ⟨_, ob, rfl⟩ F.entry_tuple_mul (F.args_tuple_mul_2 _ _) (tmul_one l vs.toArray m o2 o4 t) ⟨ob, ⟨.ref l, H, I, rfl, q⟩⟩⟩)
theorem op_rep0 {X : Cx} : OpR X (binaryOp .Mult) (rRep0 X.K) := by
  intro pins s σ H x y v u Q I rx ry h
  obtain ⟨l, xs, rfl, rfl, hT, ne, q⟩ := h
  cases rx
  obtain ⟨t, rfl⟩ := ry
  obtain ⟨vs, r, ⟨⟨o1, o2, o3, o4⟩, ob, oc, m, od⟩, oz⟩ := I.tuple hT
  simp only at oc od
  subst oc od
  cases vs with
  | nil => exact absurd (List.eq_nil_of_length_eq_zero (by rw [r.length]; rfl)) ne
  | cons z zs =>
    refine wpAny_binaryOp_repeat_ref (T := "tuple") (U := "int") (by decide) ⟨_, ob, rfl⟩ (fun z => typeIs_int z 0 t) noFill_tuple_mul F.fills_int_mul F.slot_int_rmul repeat_tuple F.slot_int_index.lookup
      (call_meets F.slot_int_rmul (typeIs_int s 0 t) F.entry_int_rmul (F.args_int_rmul_2 _ _) (int_rmul_tuple 0 t l (z :: zs).toArray m o2 o4)
        ⟨ob, rfl, ⟨_, ob, rfl⟩, call_meets F.slot_tuple_mul ⟨_, ob, rfl⟩ F.entry_tuple_mul (F.args_tuple_mul_2 _ _) (tmul_none l z zs m o2 o4 t) ⟨ob, ?_⟩⟩)
    refine ⟨.ref s.heap.objs.size, _, I.laid (t' := s.toks) (o := .tup []) (fun b ob q => Heap.get?_push_of_some _ q) (Nat.le_refl _) ?_, rfl, q _ (I.hok.fresh (Nat.le_refl _))⟩
    exact ⟨Nat.zero_le _, [], .nil, PyProof.Rows.IsTup.new _ _⟩
theorem bin_ok (op : Operator) : ∃ r, OpR X (binaryOp op) r ∧ BinOk X.K op r := by
  have nope : (∀ x y Q, sBin op x y Q → False) → ∃ r, OpR X (binaryOp op) r ∧ BinOk X.K op r := fun h =>
    ⟨fun _ _ _ _ => False, fun _ _ _ _ _ _ _ _ _ _ _ _ z => z.elim, fun G env σ H Hv F Q u v x y _ _ _ _ k => (h x y _ k).elim⟩
  cases op with
  | Add =>
    refine ⟨_, op_add.or (op_add_str.or (op_cat.or op_catA)), fun G env σ H Hv F Q u v x y hK R hx hy k => ?_⟩
    cases x <;> cases y <;> first | exact (show False from k).elim | skip
    case int.int i j => exact .inl ⟨i, j, hx.int, hy.int, (show Kont G env σ Hv Q _ from k).sh R (.int _)⟩
    case str.str i j => exact .inr (.inl ⟨i, j, hx.str, hy.str, k.1, (show Kont G env σ Hv Q _ from k.2).sh R (.str _)⟩)
    case tup.tup l m =>
      obtain ⟨a, vs, rfl, ha, ha2, ra⟩ := hx.tup R.hs.sub
      obtain ⟨b, ws, rfl, hb, hb2, rb⟩ := hy.tup R.hs.sub
      have k2 : Kont G env σ Hv Q (.sh (.tup (l ++ m))) := k.2
      refine .inr (.inr (.inr ⟨a, b, vs, ws, rfl, rfl, SqT.of ha, SqT.of hb, by rw [ra.length, rb.length]; exact k.1, fun e => ?_, fun _ e => ?_, fun _ _ p hp => k2.newT R (ra.append rb) hp⟩))
      · subst e
        cases ra
        exact k2.sh R (.tup hb2 rb)
      · subst e
        cases rb
        rw [List.append_nil] at k2
        exact k2.sh R (.tup ha2 ra)
    case lst.lst l m =>
      obtain ⟨a, vs, rfl, ha, ra⟩ := hx.lst
      obtain ⟨b, ws, rfl, hb, rb⟩ := hy.lst
      have k2 : Kont G env σ Hv Q (.ow (.lst (l ++ m))) := k.2
      exact .inr (.inr (.inl ⟨a, b, vs, ws, rfl, rfl, ha, hb, by rw [ra.length, rb.length]; exact k.1, fun p hp => k2.newL R (ra.append rb) hp⟩))
  | Sub =>
    refine ⟨_, op_sub, fun G env σ H Hv F Q u v x y hK R hx hy k => ?_⟩
    cases x <;> cases y <;> first | exact (show False from k).elim | skip
    case int.int i j => exact ⟨i, j, hx.int, hy.int, (show Kont G env σ Hv Q _ from k).sh R (.int _)⟩
  | Mult =>
    refine ⟨_, op_mulA.or (op_rep.or (op_repT.or (op_rep1.or (op_rep0.or op_repN)))), fun G env σ H Hv F Q u v x y hK R hx hy k => ?_⟩
    cases x <;> cases y <;> first | exact (show False from k).elim | skip
    case int.int i j => exact .inl ⟨i, j, hx.int, hy.int, k.1, (show Kont G env σ Hv Q _ from k.2).sh R (.int _)⟩
    case lst.int l n =>
      obtain ⟨a, vs, rfl, ha, ra⟩ := hx.lst
      have k2 : Kont G env σ Hv Q (.ow (.lst (List.replicate n.toNat l).flatten)) := k.2
      exact .inr (.inl ⟨a, n, vs, rfl, hy.int, ha, k.1.1, k.1.2.1, by rw [ra.length]; exact k.1.2.2, fun p hp => k2.newL R (ra.rep _) hp⟩)
    case tup.int l n =>
      obtain ⟨a, vs, rfl, ha, ha2, ra⟩ := hx.tup R.hs.sub
      have k2 : Kont G env σ Hv Q (.sh (.tup (List.replicate n.toNat l).flatten)) := k.2
      by_cases ne : vs = []
      · subst ne
        cases ra
        have e : (List.replicate n.toNat ([] : List D)).flatten = [] := by rw [List.flatten_eq_nil_iff]; exact fun x hx => List.eq_of_mem_replicate hx
        rw [e] at k2
        exact .inr (.inr (.inr (.inr (.inr ⟨a, n, rfl, hy.int, SqT.of ha, ⟨k.1.1, k.1.2.1⟩, k2.sh R (.tup ha2 .nil)⟩))))
      have kl := k.1.1
      rcases Int.lt_or_le n 2 with c | c
      · have c2 : n = 0 ∨ n = 1 := by omega
        rcases c2 with rfl | rfl
        · exact .inr (.inr (.inr (.inr (.inl ⟨a, vs, rfl, hy.int, SqT.of ha, ne, fun p hp => k2.newT R (show RepL _ _ _ [] (List.replicate (Int.toNat 0) l).flatten from .nil) hp⟩))))
        · have e : (List.replicate (Int.toNat 1) l).flatten = l := by simp
          rw [e] at k2
          exact .inr (.inr (.inr (.inl ⟨a, vs, rfl, hy.int, SqT.of ha, k2.sh R (.tup ha2 ra)⟩)))
      · exact .inr (.inr (.inl ⟨a, n, vs, rfl, hy.int, SqT.of ha, ne, c, k.1.2.1, by rw [ra.length]; exact k.1.2.2, fun p hp => k2.newT R (ra.rep _) hp⟩))
  | FloorDiv =>
    refine ⟨_, op_fdivW, fun G env σ H Hv F Q u v x y hK R hx hy k => ?_⟩
    cases x <;> cases y <;> first | exact (show False from k).elim | skip
    case int.int i j => exact ⟨i, j, hx.int, hy.int, k.1, (show Kont G env σ Hv Q _ from k.2).sh R (.int _)⟩
  | Mod =>
    refine ⟨_, op_mod, fun G env σ H Hv F Q u v x y hK R hx hy k => ?_⟩
    cases x <;> cases y <;> first | exact (show False from k).elim | skip
    case int.int i j => exact ⟨i, j, hx.int, hy.int, k.1, (show Kont G env σ Hv Q _ from k.2).sh R (.int _)⟩
  | Pow =>
    refine ⟨_, op_powA, fun G env σ H Hv F Q u v x y hK R hx hy k => ?_⟩
    cases x <;> cases y <;> first | exact (show False from k).elim | skip
    case int.int i j => exact ⟨i, j, hx.int, hy.int, k.1, (show Kont G env σ Hv Q _ from k.2).sh R (.int _)⟩
  | LShift =>
    refine ⟨_, op_shl, fun G env σ H Hv F Q u v x y hK R hx hy k => ?_⟩
    cases x <;> cases y <;> first | exact (show False from k).elim | skip
    case int.int i j => exact ⟨i, j, hx.int, hy.int, k.1, (show Kont G env σ Hv Q _ from k.2).sh R (.int _)⟩
  | RShift =>
    refine ⟨_, op_shr, fun G env σ H Hv F Q u v x y hK R hx hy k => ?_⟩
    cases x <;> cases y <;> first | exact (show False from k).elim | skip
    case int.int i j => exact ⟨i, j, hx.int, hy.int, k.1, (show Kont G env σ Hv Q _ from k.2).sh R (.int _)⟩
  | BitAnd =>
    refine ⟨_, op_and, fun G env σ H Hv F Q u v x y hK R hx hy k => ?_⟩
    cases x <;> cases y <;> first | exact (show False from k).elim | skip
    case int.int i j => exact ⟨i, j, hx.int, hy.int, (show Kont G env σ Hv Q _ from k).sh R (.int _)⟩
  | BitOr =>
    refine ⟨_, op_or, fun G env σ H Hv F Q u v x y hK R hx hy k => ?_⟩
    cases x <;> cases y <;> first | exact (show False from k).elim | skip
    case int.int i j => exact ⟨i, j, hx.int, hy.int, (show Kont G env σ Hv Q _ from k).sh R (.int _)⟩
  | BitXor =>
    refine ⟨_, op_xor, fun G env σ H Hv F Q u v x y hK R hx hy k => ?_⟩
    cases x <;> cases y <;> first | exact (show False from k).elim | skip
    case int.int i j => exact ⟨i, j, hx.int, hy.int, (show Kont G env σ Hv Q _ from k).sh R (.int _)⟩
  | MatMult => exact nope fun x y Q k => by cases x <;> cases y <;> exact k
  | Div => exact nope fun x y Q k => by cases x <;> cases y <;> exact k

def CmpOk (K : PySem.W.Frag) (op : CmpOp) (r : R2) : Prop := ∀ (G : Gd) (H Hv : Hp) (Q : VK) (u v : V) (x y : D), G.K = K → Same Hv H → Pk G.K G.ad H Hv u x → Pk G.K G.ad H Hv v y → sCmp op x y (fun k => Q (.bl k) H) → r u v H Q
theorem flat_pln {d : D} (h : flatD d = true) : pln d = true := by cases d <;> first | rfl | cases h
theorem flat_all {l : List D} (h : l.all flatD = true) : plnL l = true := by
  induction l with
  | nil => rfl
  | cons d ds ih =>
    rw [List.all_cons, Bool.and_eq_true] at h
    exact Bool.and_eq_true_iff.mpr ⟨flat_pln h.1, ih h.2⟩
theorem flat_V {K : PySem.W.Frag} {ad : Nat → Addr} {H : Hp} {v : V} {d : D} (h : flatD d = true) (r : Rep K ad H v d) : flatV v = true := by
  cases r <;> first | rfl | cases h
theorem eqV_deq {K : PySem.W.Frag} {ad : Nat → Addr} {H : Hp} {u v : V} {x y : D} (hx : flatD x = true) (hy : flatD y = true) (rx : Rep K ad H u x) (ry : Rep K ad H v y) : eqV v u = deq y x := by
  cases rx <;> cases hx <;> cases ry <;> cases hy <;> first | rfl | (simp [eqV, deq, toPy, PyData.eqv])
theorem inV_any {K : PySem.W.Frag} {ad : Nat → Addr} {H : Hp} {u : V} {x : D} (hx : flatD x = true) (rx : Rep K ad H u x) {vs : List V} : ∀ {l : List D}, l.all flatD = true → RepL K ad H vs l → inV u vs = l.any (fun y => deq y x) ∧ vs.all flatV = true := by
  induction vs with
  | nil =>
    intro l _ r
    cases r
    exact ⟨rfl, rfl⟩
  | cons v vs ih =>
    intro l h r
    cases r with
    | cons r rs =>
      rw [List.all_cons, Bool.and_eq_true] at h
      obtain ⟨h1, h2⟩ := ih h.2 rs
      have e := eqV_deq hx h.1 rx r
      refine ⟨?_, by rw [List.all_cons, flat_V h.1 r, h2]; rfl⟩
      show (v :: vs).any (fun y => eqV y u) = _
      rw [List.any_cons, List.any_cons, e]
      congr 1
theorem isN_of {K : PySem.W.Frag} {ad : Nat → Addr} {H : Hp} {v : V} {d : D} (r : Rep K ad H v d) : decide (v = .non) = isN d := by
  cases r <;> first | rfl | (simp [isN])
theorem eqOk_cases {x y : D} (h : eqOk x y) : (∃ a b, x = .str a ∧ y = .str b) ∨ (okEq x ∧ okEq y) := by
  cases x <;> cases y <;> first | exact .inr h | exact .inl ⟨_, _, rfl, rfl⟩
theorem dec_strD {a b : Str} : decide (V.str a = V.str b) = deq (.str a) (.str b) := by
  show _ = (a == b)
  by_cases h : a = b
  · rw [h]; simp
  · have h2 : ¬ V.str a = V.str b := fun z => h (V.str.inj z)
    simp [h, h2]
theorem cmp_ok (hu : X.A.units + 64 < cLine) (op : CmpOp) : ∃ r, OpR X (compareOp op) r ∧ CmpOk X.K op r := by
  cases op with
  | Eq =>
    refine ⟨_, op_eq.or (op_eqD hu), fun G H Hv Q u v x y hK s hx hy k => ?_⟩
    have k' : eqOk x y ∧ Q (.bl (deq x y)) H := by cases x <;> cases y <;> exact k
    rcases eqOk_cases k'.1 with ⟨a, b, rfl, rfl⟩ | k2
    · obtain rfl := hx.str
      obtain rfl := hy.str
      refine .inl ⟨rfl, ?_⟩
      rw [dec_strD]
      exact k'.2
    · have h1 := (hx.rep s).dp k2.1.1
      have h2 := (hy.rep s).dp k2.2.1
      rw [hK] at h1 h2
      exact .inr ⟨_, _, h1, h2, k2.1.2, k2.2.2, k'.2⟩
  | NotEq =>
    refine ⟨_, op_ne.or (op_neD hu), fun G H Hv Q u v x y hK s hx hy k => ?_⟩
    have k' : eqOk x y ∧ Q (.bl (!deq x y)) H := by cases x <;> cases y <;> exact k
    rcases eqOk_cases k'.1 with ⟨a, b, rfl, rfl⟩ | k2
    · obtain rfl := hx.str
      obtain rfl := hy.str
      refine .inl ⟨rfl, ?_⟩
      rw [dec_strD]
      exact k'.2
    · have h1 := (hx.rep s).dp k2.1.1
      have h2 := (hy.rep s).dp k2.2.1
      rw [hK] at h1 h2
      exact .inr ⟨_, _, h1, h2, k2.1.2, k2.2.2, k'.2⟩
  | Lt =>
    refine ⟨_, op_lt, fun G H Hv Q u v x y hK s hx hy k => ?_⟩
    cases x <;> cases y <;> first | exact (show False from k).elim | skip
    case int.int i j => exact ⟨i, j, hx.int, hy.int, k⟩
  | LtE =>
    refine ⟨_, op_le, fun G H Hv Q u v x y hK s hx hy k => ?_⟩
    cases x <;> cases y <;> first | exact (show False from k).elim | skip
    case int.int i j => exact ⟨i, j, hx.int, hy.int, k⟩
  | Gt =>
    refine ⟨_, op_gt, fun G H Hv Q u v x y hK s hx hy k => ?_⟩
    cases x <;> cases y <;> first | exact (show False from k).elim | skip
    case int.int i j => exact ⟨i, j, hx.int, hy.int, k⟩
  | GtE =>
    refine ⟨_, op_ge, fun G H Hv Q u v x y hK s hx hy k => ?_⟩
    cases x <;> cases y <;> first | exact (show False from k).elim | skip
    case int.int i j => exact ⟨i, j, hx.int, hy.int, k⟩
  | Is =>
    refine ⟨_, op_isN.or op_isBl, fun G H Hv Q u v x y hK s hx hy k => ?_⟩
    cases y with
    | non =>
      have k' : Q (.bl (isN x)) H := by cases x <;> exact k
      exact .inl ⟨hy.non, by rw [isN_of (hx.rep s)]; exact k'⟩
    | bl b =>
      cases x <;> first | exact (show False from k).elim | skip
      case bl a => exact .inr ⟨a, b, hx.bl, hy.bl, k⟩
    | _ => cases x <;> exact (show False from k).elim
  | IsNot =>
    refine ⟨_, op_notN.or op_notBl, fun G H Hv Q u v x y hK s hx hy k => ?_⟩
    cases y with
    | non =>
      have k' : Q (.bl (!isN x)) H := by cases x <;> exact k
      exact .inl ⟨hy.non, by rw [isN_of (hx.rep s)]; exact k'⟩
    | bl b =>
      cases x <;> first | exact (show False from k).elim | skip
      case bl a => exact .inr ⟨a, b, hx.bl, hy.bl, k⟩
    | _ => cases x <;> exact (show False from k).elim
  | In =>
    refine ⟨_, op_in_seq, fun G H Hv Q u v x y hK s hx hy k => ?_⟩
    cases y with
    | lst l =>
      have k' : (flatD x = true ∧ l.all flatD = true) ∧ Q (.bl (l.any fun y => deq y x)) H := by cases x <;> exact k
      obtain ⟨a, vs, rfl, e, r⟩ := hy.lst
      obtain ⟨h1, h2⟩ := inV_any k'.1.1 (hx.rep s) k'.1.2 (r.mono s)
      exact ⟨a, vs, rfl, .inl (SqL.of e), flat_V k'.1.1 (hx.rep s), h2, by rw [if_neg Bool.false_ne_true, h1]; exact k'.2⟩
    | tup l =>
      have k' : (flatD x = true ∧ l.all flatD = true) ∧ Q (.bl (l.any fun y => deq y x)) H := by cases x <;> exact k
      obtain ⟨a, vs, rfl, e, _, r⟩ := hy.tup s
      obtain ⟨h1, h2⟩ := inV_any k'.1.1 (hx.rep s) k'.1.2 (r.mono s)
      exact ⟨a, vs, rfl, .inr (SqT.of e), flat_V k'.1.1 (hx.rep s), h2, by rw [if_neg Bool.false_ne_true, h1]; exact k'.2⟩
    | _ => cases x <;> exact (show False from k).elim
  | NotIn =>
    refine ⟨_, op_notIn_seq, fun G H Hv Q u v x y hK s hx hy k => ?_⟩
    cases y with
    | lst l =>
      have k' : (flatD x = true ∧ l.all flatD = true) ∧ Q (.bl (!l.any fun y => deq y x)) H := by cases x <;> exact k
      obtain ⟨a, vs, rfl, e, r⟩ := hy.lst
      obtain ⟨h1, h2⟩ := inV_any k'.1.1 (hx.rep s) k'.1.2 (r.mono s)
      exact ⟨a, vs, rfl, .inl (SqL.of e), flat_V k'.1.1 (hx.rep s), h2, by rw [if_pos rfl, h1]; exact k'.2⟩
    | tup l =>
      have k' : (flatD x = true ∧ l.all flatD = true) ∧ Q (.bl (!l.any fun y => deq y x)) H := by cases x <;> exact k
      obtain ⟨a, vs, rfl, e, _, r⟩ := hy.tup s
      obtain ⟨h1, h2⟩ := inV_any k'.1.1 (hx.rep s) k'.1.2 (r.mono s)
      exact ⟨a, vs, rfl, .inr (SqT.of e), flat_V k'.1.1 (hx.rep s), h2, by rw [if_pos rfl, h1]; exact k'.2⟩
    | _ => cases x <;> exact (show False from k).elim
end
end B

namespace B
open PySem PySem.Spec L2

/-! ### sorted of tuples, of pairs -/
section
open PyProof.Rows SrtO Srt
variable {pg : Program} {wd : World} {A0 : Around} {E0 : Value → Shared → Prop} {t0 : Shared}
def grown (h : Heap) (xs : List Value) : Heap := (h.push (seqObj "list" #[] 0)).update h.objs.size (Obj.mapSeq (· ++ xs.toArray))
theorem gather_t {p : Addr} {xs : List Value} {Z : List Value → Shared → Prop} (ht : IsTup t0.heap p xs.toArray) (hz : xs.length ≤ sizeLine) (z : Z xs { t0 with heap := grown t0.heap xs }) : wpAny (model pg wd) A0 (collect (.ref p)) Z E0 t0 := by
  obtain ⟨ob, hob, hcl, m, hda⟩ := ht
  have old : (t0.heap.push (seqObj "list" #[] 0)).get? p = some ob := Heap.get?_push_of_some _ hob
  have new : (t0.heap.push (seqObj "list" #[] 0)).get? t0.heap.objs.size = some (seqObj "list" #[] 0) := Heap.get?_push_size _ rfl
  have len : ((#[] : Array Value) ++ xs.toArray).size ≤ sizeLine + 1 := by
    rw [Array.size_append, List.size_toArray]
    show 0 + xs.length ≤ sizeLine + 1
    omega
  unfold collect
  refine wpAny_bind (wpAny_runValue (codeAny_builtin entry_proto_collect' (wpAny_bind (wpAny_newList (wpAny_pure ⟨Code.quiet_builtin _ (by decide +kernel), codeAny_builtin entry_list_iadd' ?_⟩)))))
  show wpAny (model pg wd) _ (Builtin.List.listExtendWith (.ref t0.heap.objs.size) (.ref p) (.ref t0.heap.objs.size)) _ _ { t0 with heap := t0.heap.push (seqObj "list" #[] 0) }
  unfold Builtin.List.listExtendWith
  refine wpAny_bind (wpAny_typeOf (T := "tuple") ⟨ob, old, hcl⟩ ?_)
  rw [if_pos (by have e : (Value.type "tuple" == Value.type "tuple") = true := by rfl
                 rw [e]; simp)]
  refine wpAny_bind (listItems_at old hda (wpAny_bind (listItems_at new rfl ?_)))
  rw [if_neg (by simp)]
  refine wpAny_bind (listUpdate_at new rfl (wpAny_pure ?_) (Nat.zero_le _) len)
  show wpAny (model pg wd) A0 (load t0.heap.objs.size >>= fun o => match o.data with
    | .seq ys _ => pure ys.toList
    | _ => unsupported "internal:collect") Z E0 { t0 with heap := grown t0.heap xs }
  refine wpAny_bind (wpAny_load (get?_update_seq new _) ?_)
  show wpAny (model pg wd) A0 (pure ((#[] : Array Value) ++ xs.toArray).toList) Z E0 _
  have e : ((#[] : Array Value) ++ xs.toArray).toList = xs := by simp
  rw [e]
  exact wpAny_pure z
theorem sorted_t {p : Addr} {xs : List Value} {lt : Value → Value → Bool} {Z : Value → Shared → Prop} (O : Swo lt) (ht : IsTup t0.heap p xs.toArray) (hz : xs.length ≤ sizeLine)
    (hS : 2 ≤ xs.length → ∀ (h₁ : Heap) (a : Addr), h₁.get? a = some (seqObj "list" xs.toArray 0) → (∀ b o, t0.heap.get? b = some o → b ≠ a ∧ h₁.get? b = some o) → SortableO pg wd A0.in1.in1 { t0 with heap := h₁ } a xs lt)
    (z : ∀ out : List Value, Srtd lt out → Stb lt out xs → Z (.ref (t0.heap.objs.size + 1)) { t0 with heap := sortedAll t0.heap xs out.toArray }) : wpAny (model pg wd) A0 (call (.builtin "sorted") [.ref p]) Z E0 t0 := by
  have sz : (grown t0.heap xs).objs.size = t0.heap.objs.size + 1 := by
    unfold grown
    rw [Heap.size_update, size_push']
  have at_ : ((grown t0.heap xs).push (seqObj "list" xs.toArray 0)).get? (t0.heap.objs.size + 1) = some (seqObj "list" xs.toArray 0) := by
    rw [← sz]
    exact Heap.get?_push_size _ rfl
  have kp : ∀ b o, t0.heap.get? b = some o → b ≠ t0.heap.objs.size + 1 ∧ ((grown t0.heap xs).push (seqObj "list" xs.toArray 0)).get? b = some o := fun b o g => by
    have lt_ : b < t0.heap.objs.size := Heap.lt_size g
    refine ⟨Nat.ne_of_lt (Nat.lt_succ_of_lt lt_), Heap.get?_push_of_some _ ?_⟩
    unfold grown
    rw [Heap.get?_update_ne _ _ _ _ (Nat.ne_of_lt lt_)]
    exact Heap.get?_push_of_some _ g
  refine Calls.call_function_entry kind_sorted plain_sorted entry_sorted (args_sorted1 _) ?_
  unfold Builtin.«sorted»
  refine wpAny_bind (m := checkCount "sorted" 1 1 _) (wpAny_pure (wpAny_bind (gather_t ht hz (wpAny_bind (wpAny_newList ?_ hz)))))
  show wpAny _ _ _ _ _ { t0 with heap := (grown t0.heap xs).push (seqObj "list" xs.toArray 0) }
  dsimp only
  rw [sz]
  refine wpAny_bind (wpAny_holding (wpAny_call_entry slot_list_sort ⟨_, at_, rfl⟩ entry_list_sort (list_sort_ord O at_ hz (fun h2 => hS h2 _ _ at_ kp) fun out i1 i2 => ⟨_, rfl, ?_⟩) (args_list_sort _)))
  exact wpAny_pure ⟨_, rfl, z out i1 i2⟩
/-- sorted of a tuple of ints, of a tuple of pairs -/
def rSortTI (K : PySem.W.Frag) : List V → Hp → VK → Prop := fun vs H Q => ∃ (a : Addr) (ns : List Int), vs = [V.ref a] ∧ SqT K H a (ns.map V.int) ∧ ∀ (ms : List Int) (p : Addr), ms.Perm ns → ms.Pairwise (· ≤ ·) → H p = none → Q (.ref p) (upd H p (.lst (ms.map V.int)))
def rSortTP (K : PySem.W.Frag) : List V → Hp → VK → Prop := fun vs H Q => ∃ (a : Addr) (xs : List V) (k : V → Int × Int), vs = [V.ref a] ∧ SqT K H a xs ∧ (∀ x ∈ xs, ∃ t, x = V.ref t ∧ H t = some (.tup [.int (k x).1, .int (k x).2])) ∧ ∀ ys p, Srtd (ltP k) ys → Stb (ltP k) ys xs → H p = none → Q (.ref p) (upd H p (.lst ys))
theorem not_tup {a : Addr} {h : Heap} {xs : Array Value} (ha : h.get? a = some (seqObj "list" xs 0)) : ∀ o, h.get? a = some o → o.cls ≠ .type "tuple" := fun o e => by
  cases ha.symm.trans e
  exact fun c => nomatch (show ("list" : String) = "tuple" from Value.type.inj c)
theorem cr_sortTI {X : Cx} : CallR X (.builtin "sorted") (rSortTI X.K) := by
  rintro pins s σ H vs us Q I r ⟨a, ns, rfl, hs, q⟩
  obtain ⟨its, rv, ht, hz⟩ := I.tuple hs
  have hI := rv.ints
  have hz2 : its.length ≤ sizeLine := by rw [← rv.length]; exact hz
  rw [Vals.ref1 r]
  refine sorted_t swo_int ht hz2 (fun h2 _ _ _ _ => ints_sortable hI h2) fun out i1 i2 => ?_
  obtain ⟨j1, j2, j3⟩ := ints_out hI i1 i2
  obtain ⟨m, at_⟩ := sortedAll_at s.heap its out.toArray
  have len : ((out.map iv).map V.int).length ≤ sizeLine := by rw [List.length_map, j2.length_eq]; rw [List.length_map] at hz; exact hz
  exact ⟨.ref _, upd H (s.heap.objs.size + 1) (.lst ((out.map iv).map V.int)), I.laid (t' := s.toks) (fun _ _ => sortedAll_old) (Nat.le_succ _) ⟨len, out, m, vals_of_ints j1, at_⟩, rfl, q _ _ j2 j3 (I.hok.fresh (Nat.le_succ _))⟩
theorem cr_sortTP {X : Cx} : CallR X (.builtin "sorted") (rSortTP X.K) := by
  rintro pins s σ H vs us Q I r ⟨a, xs, k, rfl, hs, hx, q⟩
  obtain ⟨its, rv, ht, hz⟩ := I.tuple hs
  obtain ⟨e1, e2⟩ := refs_back rv fun x m => ⟨_, (hx x m).choose_spec.1⟩
  have hz2 : its.length ≤ sizeLine := by rw [← rv.length]; exact hz
  have hp : ∀ v ∈ its, IsPair s.heap v (k (backV v)).1 (k (backV v)).2 := fun v hv => by
    obtain ⟨t, rfl⟩ := e2 v hv
    obtain ⟨t2, e, g⟩ := hx (V.ref t) (by rw [e1]; exact List.mem_map.mpr ⟨_, hv, rfl⟩)
    cases e
    obtain ⟨_, us, ru, o, ho, hc, n, hd⟩ := I.hok _ _ g
    obtain ⟨u1, u2, rfl, ⟨w1, rfl⟩, ⟨w2, rfl⟩⟩ := vals2 ru
    exact ⟨t, o, w1, w2, n, rfl, ho, hc, hd⟩
  rw [Vals.ref1 r]
  refine sorted_t (swo_lex fun u => k (backV u)) ht hz2 (fun h2 h₁ b hb kp => pairs_sortableO (s := { s with heap := h₁ }) (by omega) (fun v hm => (hp v hm).keeps fun b o e _ => (kp b o e).2) (not_tup hb)) fun out i1 i2 => ?_
  obtain ⟨m, at_⟩ := sortedAll_at s.heap its out.toArray
  have hb : Stb (ltP k) (out.map backV) xs := by rw [e1]; exact Stb.map (ltP_swo k) backV i2
  exact ⟨.ref _, upd H (s.heap.objs.size + 1) (.lst (out.map backV)), I.laid (t' := s.toks) (fun _ _ => sortedAll_old) (Nat.le_succ _) ⟨by rw [hb.len]; exact hz, out, m, vals_back fun u hu => e2 u (i2.perm.mem_iff.mp hu), at_⟩, rfl, q _ _ (srtd_map i1) hb (I.hok.fresh (Nat.le_succ _))⟩
/-! ### min of a list of pairs -/
theorem lexLe_trans {p q r : Int × Int} (h1 : lexLe p q) (h2 : lexLe q r) : lexLe p r := by
  unfold lexLe at *
  omega
theorem minP_le : ∀ (xs : List (Int × Int)) (x : Int × Int), ∀ y, y = x ∨ y ∈ xs → lexLe (PySem.W.minOf x xs) y
  | [], x, y, h => by
    rcases h with rfl | h
    · exact .inr ⟨rfl, Int.le_refl _⟩
    · cases h
  | z :: zs, x, y, h => by
    have e : PySem.W.minOf x (z :: zs) = PySem.W.minOf (if (if z.1 = x.1 then decide (z.2 < x.2) else decide (z.1 < x.1)) = true then z else x) zs := rfl
    rw [e]
    have ih := minP_le zs (if (if z.1 = x.1 then decide (z.2 < x.2) else decide (z.1 < x.1)) = true then z else x)
    have hb := ih _ (.inl rfl)
    have key : lexLe (if (if z.1 = x.1 then decide (z.2 < x.2) else decide (z.1 < x.1)) = true then z else x) z ∧ lexLe (if (if z.1 = x.1 then decide (z.2 < x.2) else decide (z.1 < x.1)) = true then z else x) x := by
      unfold lexLe
      by_cases h1 : z.1 = x.1
      · rw [if_pos h1]
        by_cases h2 : z.2 < x.2
        · rw [if_pos (decide_eq_true h2)]; omega
        · rw [if_neg (by simpa using h2)]; omega
      · rw [if_neg h1]
        by_cases h2 : z.1 < x.1
        · rw [if_pos (decide_eq_true h2)]; omega
        · rw [if_neg (by simpa using h2)]; omega
    rcases h with rfl | h
    · exact lexLe_trans hb key.2
    · rcases List.mem_cons.1 h with rfl | h
      · exact lexLe_trans hb key.1
      · exact ih y (.inr h)
def rMinP (K : PySem.W.Frag) : List V → Hp → VK → Prop := fun vs H Q => ∃ (a : Addr) (xs : List V) (k : V → Int × Int), vs = [V.ref a] ∧ SqL K H a xs ∧ xs ≠ [] ∧ (∀ x ∈ xs, ∃ t, x = V.ref t ∧ H t = some (.tup [.int (k x).1, .int (k x).2])) ∧ ∀ x, x ∈ xs → (∀ y, y ∈ xs → lexLe (k x) (k y)) → Q x H
theorem reads_pair {h : Heap} {v : Value} {i j : Int} (p : IsPair h v i j) : PySem.W.Holds h v (i, j) := by
  obtain ⟨t, o, w1, w2, n, rfl, ho, hc, hd⟩ := p
  exact ⟨_, .tuple ho hc hd (.cons (.int _ _) (.cons (.int _ _) .nil))⟩
theorem pair_reads {h : Heap} {v : Value} {i j k l : Int} (p : IsPair h v i j) (r : PySem.W.Holds h v (k, l)) : (i, j) = (k, l) := by
  obtain ⟨t, o, w1, w2, n, rfl, ho, hc, hd⟩ := p
  obtain ⟨as, r⟩ := r
  have r : Reads h (.ref t) (.tuple [.int k, .int l]) as := r
  cases r with
  | tuple g1 g2 g3 g4 =>
    rw [ho] at g1
    cases g1
    rw [hd] at g3
    cases g3
    cases g4 with
    | cons r1 r2 =>
      cases r2 with
      | cons r2 _ =>
        cases r1
        cases r2
        rfl
theorem holds_all {h : Heap} {k : Value → Int × Int} : ∀ {its : List Value}, (∀ v ∈ its, IsPair h v (k v).1 (k v).2) → PySem.W.HoldAll h its (its.map k)
  | [], _ => ⟨[], .nil⟩
  | v :: its, hp => by
    obtain ⟨as, r⟩ := reads_pair (hp v List.mem_cons_self)
    obtain ⟨bs, rs⟩ := holds_all (its := its) fun u m => hp u (List.mem_cons_of_mem _ m)
    exact ⟨_, .cons r rs⟩
theorem cr_minP {X : Cx} (hc : X.calm = true) (hu : X.A.units + 64 < cLine) : CallR X (.builtin "min") (rMinP X.K) := by
  rintro pins s σ H vs us Q I r ⟨a, xs, k, rfl, hs, ne, hx, q⟩
  obtain ⟨its, rv, hl, hz⟩ := I.list hs
  obtain ⟨e1, e2⟩ := refs_back rv fun x m => ⟨_, (hx x m).choose_spec.1⟩
  have hp : ∀ v ∈ its, IsPair s.heap v (k (backV v)).1 (k (backV v)).2 := fun v hv => by
    obtain ⟨t, rfl⟩ := e2 v hv
    obtain ⟨t2, e, g⟩ := hx (V.ref t) (by rw [e1]; exact List.mem_map.mpr ⟨_, hv, rfl⟩)
    cases e
    obtain ⟨_, us, ru, o, ho, hc, n, hd⟩ := I.hok _ _ g
    obtain ⟨u1, u2, rfl, ⟨w1, rfl⟩, ⟨w2, rfl⟩⟩ := vals2 ru
    exact ⟨t, o, w1, w2, n, rfl, ho, hc, hd⟩
  rw [Vals.ref1 r]
  cases its with
  | nil => exact absurd (by rw [e1]; rfl) ne
  | cons v0 its =>
    have hh := holds_all (k := fun v => k (backV v)) hp
    refine PySem.W.min_list_datum (I.ok.hd hc) hl.isList hh ?_ fun i v h' tk hi hv hk => ?_
    · have : PySem.W.Datum.depth (Int × Int) ≤ 10 := by decide
      omega
    · have hm : v ∈ v0 :: its := List.mem_of_getElem? (by simpa using hi)
      have hpv : IsPair h' v (k (backV v)).1 (k (backV v)).2 := (hp v hm).keeps fun b o e _ => hk b o e
      have e3 := pair_reads hpv hv
      have e3 : k (backV v) = PySem.W.minOf (k (backV v0)) (its.map fun v => k (backV v)) := e3
      obtain ⟨t, rfl⟩ := e2 v hm
      refine ⟨.ref t, H, I.kept (t' := tk) hk, rfl, q _ (by rw [e1]; exact List.mem_map.mpr ⟨_, hm, rfl⟩) fun y hy => ?_⟩
      rw [e1] at hy
      obtain ⟨u, hu', rfl⟩ := List.mem_map.mp hy
      show lexLe (k (backV (.ref t))) _
      rw [e3]
      refine minP_le _ _ _ ?_
      rcases List.mem_cons.1 hu' with rfl | hu'
      · exact .inl rfl
      · exact .inr (List.mem_map.mpr ⟨u, hu', rfl⟩)
/-- pairs by their values -/
def prOf (H : Hp) : V → Int × Int
  | .ref t => match H t with
    | some (.tup [.int i, .int j]) => (i, j)
    | _ => (0, 0)
  | _ => (0, 0)
theorem repL_pairs {K : PySem.W.Frag} {ad : Nat → Addr} {H : Hp} : ∀ {vs : List V} {ps : List (Int × Int)}, RepL K ad H vs (ps.map pr) → ps = vs.map (prOf H) ∧ ∀ x ∈ vs, ∃ t, x = V.ref t ∧ H t = some (.tup [.int (prOf H x).1, .int (prOf H x).2])
  | _, [], h => by cases h; exact ⟨rfl, fun x hx => nomatch hx⟩
  | _, p :: ps, h => by
    cases h with
    | cons h1 h2 =>
      obtain ⟨i1, i2⟩ := repL_pairs h2
      cases h1 with
      | @tup a vs _ e r =>
        cases r with
        | cons r1 r =>
          cases r with
          | cons r2 r =>
            cases r; cases r1; cases r2
            have e2 : prOf H (.ref a) = p := by show (match H a with | some (.tup [.int i, .int j]) => (i, j) | _ => ((0, 0) : Int × Int)) = p; rw [e]
            refine ⟨by rw [List.map_cons, ← i1, e2], fun x hx => ?_⟩
            rcases List.mem_cons.mp hx with rfl | hx
            · exact ⟨a, rfl, by rw [e2]; exact e⟩
            · exact i2 x hx
theorem pairs_repL {K : PySem.W.Frag} {ad : Nat → Addr} {H : Hp} : ∀ {vs : List V}, (∀ x ∈ vs, ∃ t, x = V.ref t ∧ H t = some (.tup [.int (prOf H x).1, .int (prOf H x).2])) → RepL K ad H vs ((vs.map (prOf H)).map pr)
  | [], _ => .nil
  | v :: vs, h => by
    refine .cons ?_ (pairs_repL fun x hx => h x (List.mem_cons_of_mem _ hx))
    obtain ⟨t, e, g⟩ := h v List.mem_cons_self
    generalize prOf H v = z at g ⊢
    subst e
    exact .tup g (.cons (.int _) (.cons (.int _) .nil))
end
/-! ### sorted(set(..)) of whole numbers, of a list, a tuple -/
section
open PyProof.Rows SrtO Srt
variable {pg : Program} {wd : World} {A0 : Around} {E0 : Value → Shared → Prop} {t0 : Shared}
abbrev sEm (wd : World) : Obj := { cls := .type "set", dict := none, data := .set #[] 0 (.fresh 0 0 (!wd.params.followText "set-order")) }
/-- the set at p keeps what it is, all else stands -/
def Grew (wd : World) (ns : List Int) (t0 : Shared) (r : Value) (t2 : Shared) : Prop := r = .none ∧ ∃ h1 k1 c1, t2 = { t0 with heap := h1, toks := k1 } ∧ SetR wd h1 t0.heap.objs.size (fun j => decide (j ∈ ns)) c1 ∧ True ∧ ∀ b o, t0.heap.get? b = some o → h1.get? b = some o
theorem few_nodup : ∀ {ms cs : List Int}, ms.Nodup → (∀ k, k ∈ ms → k ∈ cs) → ms.length ≤ cs.length
  | [], _, _, _ => Nat.zero_le _
  | a :: t, cs, p, h => by
    have p2 := List.nodup_cons.1 p
    have i := few_nodup (cs := cs.erase a) p2.2 fun k hk => (List.mem_erase_of_ne (fun e => p2.1 (by rw [← e]; exact hk))).2 (h k (List.mem_cons_of_mem _ hk))
    have m := h a List.mem_cons_self
    rw [List.length_erase_of_mem m] at i
    have := List.length_pos_of_mem m
    rw [List.length_cons]
    omega
/-- the set takes number after number; it holds no more than the list of all that may come -/
theorem gath {it : Addr} {fp wr : List Addr} {G : Array GenState → Array GenState → Prop} {n : Nat} {Pv : Nat → Value → Prop} {St : Nat → Shared → Prop} {R : Result → Shared → Prop}
    (W : WalksS pg wd A0.in1 it fp wr G n Pv St) (a : Addr) (ha : a ∉ fp) (ns : List Int) (hn : n = ns.length) (hf : Few ns) (hv : ∀ i v, Pv i v → ∃ k t, ns[i]? = some k ∧ v = .int k t) :
    ∀ (m i : Nat) (t1 : Shared), i + m = n → St i t1 → (∃ ms : List Int, (ms.Nodup ∧ ∀ z, z ∈ ms → z ∈ ns.take i) ∧ (∀ z, z ∈ ns.take i → z ∈ ms) ∧ SetR wd t1.heap a (fun j => decide (j ∈ ns.take i)) ms.length) →
      (∀ t2 c2, Moved (a :: wr) G t1 t2 → True → SetR wd t2.heap a (fun j => decide (j ∈ ns)) c2 → R (.ok (.ret .none)) t2) →
      codeAny (model pg wd) A0 (.builtin "set.update.loop" ⟨[.ref a, .ref it], []⟩) R t1 := by
  obtain ⟨cs, hc, hin⟩ := hf
  have b0 : scanBound = 4096 := by decide
  have aw : a ∉ wr := fun z => ha (W.sub _ z)
  have up : ∀ b ∈ wr, b ∈ a :: wr := fun b z => List.mem_cons_of_mem _ z
  intro m
  induction m with
  | zero =>
    intro i t1 hm st ⟨ms, _, _, S1⟩ q
    obtain rfl : i = n := by omega
    refine codeAny_builtin (F.entry_set_update_loop) ?_
    rw [Around.under_plainId (F.plain_set_update_loop) _]
    show wpAny _ A0.in1 (pyNext (.ref it) >>= _) _ _ t1
    refine wpAny_bind (W.done t1 _ _ st fun t2 mv => ?_)
    show wpAny _ A0.in1 (ret Value.none) _ _ t2
    rw [List.take_of_length_le (show ns.length ≤ i by omega)] at S1
    exact wpAny_pure (q t2 _ (mv.mono up) trivial (S1.at fun o e => mv.heap a o aw e))
  | succ m ih =>
    intro i t1 hm st ⟨ms, ⟨nd, sub⟩, sup, S1⟩ q
    have lt_ : i < n := by omega
    refine codeAny_builtin (F.entry_set_update_loop) ?_
    rw [Around.under_plainId (F.plain_set_update_loop) _]
    show wpAny _ A0.in1 (pyNext (.ref it) >>= _) _ _ t1
    refine wpAny_bind (W.item i t1 _ _ lt_ st fun v t2 pv st2 mv => ?_)
    obtain ⟨z, tk, hz, rfl⟩ := hv i v pv
    have S2 : SetR wd t2.heap a (fun j => decide (j ∈ ns.take i)) ms.length := S1.at fun o e => mv.heap a o aw e
    have le := few_nodup nd fun k hk => hin k (List.mem_of_mem_take (sub k hk))
    show wpAny _ A0.in1 (holding [Value.int z tk] (setAdd a (.int z tk)) >>= _) _ _ t2
    refine wpAny_bind (wpAny_holding ?_)
    unfold setAdd
    refine wpAny_holding (wpAny_bind ((intKind pg wd).pyHash (k := z) (intKind_is _ _ _ _) ?_))
    refine setR_add_hashed (s := { t2 with toks := t2.toks + 1 }) S2 (by omega) fun h3 sb S3 => ?_
    have et : ∀ j, j ∈ ns.take (i + 1) ↔ j ∈ ns.take i ∨ j = z := fun j => by
      rw [List.take_add_one, hz, Option.toList_some, List.mem_append, List.mem_singleton]
    have S4 : ∃ ms2 : List Int, (ms2.Nodup ∧ ∀ k, k ∈ ms2 → k ∈ ns.take (i + 1)) ∧ (∀ k, k ∈ ns.take (i + 1) → k ∈ ms2) ∧ SetR wd h3 a (fun j => decide (j ∈ ns.take (i + 1))) ms2.length := by
      have S5 : SetR wd h3 a (fun j => decide (j ∈ ns.take (i + 1))) (if decide (z ∈ ns.take i) = true then ms.length else ms.length + 1) := S3.congr fun j => by
        simp [et j]
      by_cases c : z ∈ ns.take i
      · rw [if_pos (decide_eq_true c)] at S5
        exact ⟨ms, ⟨nd, fun k hk => (et k).2 (.inl (sub k hk))⟩, fun k hk => by
          rcases (et k).1 hk with h | h
          · exact sup k h
          · rw [h]; exact sup z c, S5⟩
      · rw [if_neg (by simpa using c)] at S5
        exact ⟨z :: ms, ⟨List.nodup_cons.2 ⟨fun h => c (sub z h), nd⟩, fun k hk => by
          rcases List.mem_cons.1 hk with h | h
          · exact (et k).2 (.inr h)
          · exact (et k).2 (.inl (sub k h))⟩, fun k hk => by
          rcases (et k).1 hk with h | h
          · exact List.mem_cons_of_mem _ (sup k h)
          · rw [h]; exact List.mem_cons_self, S5⟩
    refine wpAny_pure ⟨plainId_quiet (F.plain_set_update_loop) _, ih (i + 1) _ (by omega) (W.frame _ t2 _ _ st2 (Nat.le_succ _) fun b hb o e => ?_) S4 fun t4 c4 mv4 _ S6 => ?_⟩
    · rw [sb.2 b fun h : b = a => ha (h ▸ hb)]
      exact e
    · refine q t4 c4 (Moved.trans W.gtrans ((mv.mono up).then_heap (Nat.le_succ _) fun b o hb e => ?_) mv4) trivial S6
      rw [sb.2 b fun h : b = a => hb (h ▸ List.mem_cons_self)]
      exact e
theorem init_l {p : Addr} {xs : Array Value} (ns : List Int) (hh : A0.handled = none) (hl : t0.heap.IsList p xs) (hi : IntsAre xs.toList ns) (hb : Few ns) :
    codeAny (model pg wd) A0 (.call (.builtin "set.__init__") ⟨[.ref t0.heap.objs.size, .ref p], []⟩) (wants (Grew wd ns t0) E0) { t0 with heap := t0.heap.push (sEm wd) } := by
  have hn : xs.size = ns.length := by rw [← Array.length_toList]; exact IntsAre.length hi
  have at_ : (t0.heap.push (sEm wd)).get? t0.heap.objs.size = some (sEm wd) := Heap.get?_push_size _ rfl
  have ty : Shared.TypeIs { t0 with heap := t0.heap.push (sEm wd) } (.ref t0.heap.objs.size) "set" := ⟨_, at_, rfl⟩
  refine codeAny_call_builtin F.called_set.init.plain F.entry_set_init (check_set_init_1 ty ?_)
  obtain ⟨ob, hob, hcl, m, hda⟩ := hl
  obtain ⟨o1, o2, o3, o4⟩ := ob
  simp only at hcl hda
  subst hcl hda
  have old : (t0.heap.push (sEm wd)).get? p = some { cls := .type "list", dict := o2, data := .seq xs m, slots := o4 } := Heap.get?_push_of_some _ hob
  have k1 := F.sub_list_set
  have k2 := F.sub_list_frozenset
  have k3 : (Value.type "list" == Value.type "dict") = false := by decide
  have isl : (t0.heap.push (sEm wd)).IsList p xs := ⟨_, old, rfl, m, rfl⟩
  unfold Builtin.«set.__init__» noKeywords Builtin.Frozenset.updateFrom
  generalize hIt : pyIter = It0
  wp_walk
  subst hIt
  refine wpAny_pyIter_list isl ?ga
  refine wpAny_bind (wpAny_runValue ?gb)
  have lp : p < t0.heap.objs.size := Heap.lt_size hob
  have sz : (t0.heap.push (sEm wd)).objs.size = t0.heap.objs.size + 1 := Heap.size_push ..
  have n1 : p ≠ (t0.heap.push (sEm wd)).objs.size := by rw [sz]; exact Nat.ne_of_lt (Nat.lt_succ_of_lt lp)
  have n2 : t0.heap.objs.size ∉ [(t0.heap.push (sEm wd)).objs.size, p] := by
    rw [sz]
    simp only [List.mem_cons, List.not_mem_nil, or_false, not_or]
    exact ⟨Nat.ne_of_lt (Nat.lt_succ_self _), Nat.ne_of_gt lp⟩
  have val : ∀ (i : Nat) (v : Value), xs[i]? = some v → ∃ k t, ns[i]? = some k ∧ v = .int k t := fun i v hv => by
    have lt_ : i < ns.length := by rw [← hn]; exact (Array.getElem?_eq_some_iff.mp hv).1
    obtain ⟨t, e⟩ := IntsAre.int_at hi i v (by rw [Array.getElem?_toList]; exact hv)
    exact ⟨ns[i], t, List.getElem?_eq_getElem lt_, by rw [e, List.getD_eq_getElem?_getD, List.getElem?_eq_getElem lt_] <;> rfl⟩
  have h3 : A0.in1.in1.handled = none := by simp [hh]
  have new : ((t0.heap.push (sEm wd)).push { cls := .type "list_iterator", data := .fields #[.ref p, .int 0 0] }).get? t0.heap.objs.size = some (sEm wd) := Heap.get?_push_of_some _ at_
  refine gath ((Walks.list h3 _ p n1 xs).toS) t0.heap.objs.size n2 ns hn hb val xs.size 0 _ (by omega) ⟨⟨_, Heap.get?_push_size _ rfl, rfl, rfl⟩, isl.push _⟩ ?g1 ?g2
  case g1 => exact ⟨[], ⟨List.nodup_nil, fun z h => nomatch h⟩, fun z h => (by rw [List.take_zero] at h; cases h), setR_new_at new⟩
  intro t2 c2 mv hc R2
  obtain ⟨h1, g1, d1, k1, q1⟩ := t2
  obtain rfl : g1 = t0.gens := mv.gens
  obtain rfl : d1 = t0.drawn := mv.drawn
  obtain rfl : q1 = t0.os := mv.os
  show wpAny _ _ _ _ _ _
  refine wpAny_pure (show wpAny _ _ (ret Value.none) _ _ _ from wpAny_pure ⟨rfl, h1, k1, c2, rfl, R2, hc, fun b o e => ?_⟩)
  have lb : b < t0.heap.objs.size := Heap.lt_size e
  refine mv.heap b o ?_ (Heap.get?_push_of_some _ (Heap.get?_push_of_some _ e))
  simp only [List.mem_cons, List.not_mem_nil, or_false, not_or]
  exact ⟨Nat.ne_of_lt lb, by rw [sz]; exact Nat.ne_of_lt (Nat.lt_succ_of_lt lb)⟩
theorem set_l {p : Addr} {xs : Array Value} (ns : List Int) {Z : Value → Shared → Prop} (hh : A0.handled = none) (hl : t0.heap.IsList p xs) (hi : IntsAre xs.toList ns) (hb : Few ns)
    (z : ∀ (h1 : Heap) (k1 c1 : Nat), SetR wd h1 t0.heap.objs.size (fun j => decide (j ∈ ns)) c1 → True → (∀ b o, t0.heap.get? b = some o → h1.get? b = some o) → Z (.ref t0.heap.objs.size) { t0 with heap := h1, toks := k1 }) : wpAny (model pg wd) A0 (call (.type "set") [.ref p]) Z E0 t0 := by
  obtain ⟨c, tl, i1⟩ := F.called_set.mro
  have i2 := F.called_set.made
  have i3 := F.called_set.sub
  have i4 := F.called_set.notType
  have i5 := F.called_set.canCreate
  have i6 := F.typeCall_set_1 (.ref p)
  refine wpAny_call (codeAny_of_tree (show wpAny _ _ (callAny (.type "set") _) _ _ _ from ?_))
  refine wpAny_pure ⟨Code.quiet_builtin _ (by decide +kernel), ?_⟩
  refine codeAny_builtin F.entry_type_call ?_
  rw [Around.under_plain (weight_type_call_type "set" [.ref p] []) rfl]
  repeat any_goals (first | assumption | wp_step)
  refine codeAny_mono (code_set_led1 (.ref p) (E := E0) (Q₁ := fun ob t1 => ob = .ref t0.heap.objs.size ∧ t1 = { t0 with heap := t0.heap.push (sEm wd) }) ⟨rfl, rfl⟩) fun r t1 hr => ?_
  match r, hr with
  | .error e, hr => exact hr
  | .ok (.ret ob), hr =>
    obtain ⟨rfl, rfl⟩ := hr
    have at_ : (t0.heap.push (sEm wd)).get? t0.heap.objs.size = some (sEm wd) := Heap.get?_push_size _ rfl
    have ty : Shared.TypeIs { t0 with heap := t0.heap.push (sEm wd) } (.ref t0.heap.objs.size) "set" := ⟨_, at_, rfl⟩
    have i7 := F.called_set.init.lookup
    have i8 := F.called_set.init.bind (.ref t0.heap.objs.size)
    repeat any_goals (first | assumption | wp_step)
    refine codeAny_mono (init_l (E0 := E0) ns (by simp [hh]) hl hi hb) fun r2 t2 h2 => ?_
    match r2, h2 with
    | .error e, h2 => exact h2
    | .ok (.ret v), h2 =>
      obtain ⟨rfl, h1, k1, c1, rfl, j1, j2, j3⟩ := h2
      repeat any_goals (first | assumption | wp_step)
      exact z _ _ _ j1 j2 j3
    | .ok .next, h2 => exact h2.elim
    | .ok .brk, h2 => exact h2.elim
    | .ok .cont, h2 => exact h2.elim
  | .ok .next, hr => exact hr.elim
  | .ok .brk, hr => exact hr.elim
  | .ok .cont, hr => exact hr.elim
end
section
open PyProof.Rows SrtO Srt
variable {pg : Program} {wd : World} {A0 : Around} {E0 : Value → Shared → Prop} {t0 : Shared}
theorem sorted_s {a : Addr} {S : Int → Bool} {n : Nat} {Z : Value → Shared → Prop} (R : SetR wd t0.heap a S n) (hh : A0.handled = none)
    (z : ∀ (t2 : Shared) (p : Addr) (out : List Value) (c : Nat) (ms : List Int), (∀ b o, t0.heap.get? b = some o → t2.heap.get? b = some o) → t2.gens = t0.gens → t2.os = t0.os → t0.heap.objs.size ≤ p → t2.heap.get? p = some (seqObj "list" out.toArray c) → IntsAre out ms → ms.Pairwise (· < ·) → (∀ k, k ∈ ms ↔ S k = true) → ms.length ≤ 4096 → Z (.ref p) t2) :
    wpAny (model pg wd) A0 (call (.builtin "sorted") [.ref a]) Z E0 t0 := by
  obtain ⟨ob, es, ep, tb, hob, hex, hda, hgo, hnd, hme, hbd, hfi, hsz, hri, hle⟩ := R
  have b0 : scanBound = 4096 := by decide
  have l0 : sizeLine = 16777216 := by decide
  refine Calls.call_function_entry kind_sorted plain_sorted entry_sorted (args_sorted1 _) ?_
  unfold Builtin.«sorted»
  refine wpAny_bind (m := checkCount "sorted" 1 1 _) (wpAny_pure (wpAny_bind (collect_set (A := A0.in1) hh ⟨ob, hob, hex.1, hda⟩ hfi hbd hri hle fun t1 xs k1 z1 g1 o1 pm => ?_)))
  have len : xs.length = n := by rw [pm.length_eq, List.length_map, Array.length_toList]; exact hsz
  have hI : IntsAre xs (xs.map iv) := ints_iv fun v hv => by
    obtain ⟨e, he, q⟩ := List.mem_map.mp (pm.mem_iff.mp hv)
    obtain ⟨k, tk, h1, _⟩ := hgo e he
    exact ⟨k, tk, by rw [← q]; exact h1⟩
  have small : xs.length ≤ sizeLine := by omega
  refine wpAny_bind (wpAny_newList ?_ small)
  have at_ : (t1.heap.push (seqObj "list" xs.toArray 0)).get? t1.heap.objs.size = some (seqObj "list" xs.toArray 0) := Heap.get?_push_size _ rfl
  refine wpAny_bind (wpAny_holding (wpAny_call_entry slot_list_sort ⟨_, at_, rfl⟩ entry_list_sort (list_sort_ord swo_int at_ small (fun h2 => ints_sortable hI h2) fun out i1 i2 => ⟨_, rfl, ?_⟩) (args_list_sort _)))
  obtain ⟨j1, j2, j3⟩ := ints_out hI i1 i2
  obtain ⟨c, hc⟩ := sortedHeap_at (vs := xs) (out := out.toArray) at_
  have pk : (xs.map iv).Perm (es.toList.map keyOf) := by
    have q := pm.map iv
    rw [List.map_map] at q
    refine q.trans (List.Perm.of_eq (List.map_congr_left fun e he => ?_))
    obtain ⟨k, tk, h1, h2⟩ := hgo e he
    show iv e.2 = keyOf e
    rw [key_vInt e, h1]
    rfl
  have pn := j2.trans pk
  refine wpAny_pure ⟨_, rfl, z _ t1.heap.objs.size out c (out.map iv) (fun b u e => ?_) g1 o1 z1 hc j1 (lt_of_le_nodup _ j3 (pn.nodup_iff.mpr hnd)) (fun k => by rw [pn.mem_iff, ← hme k]) ?_⟩
  · have q := k1 b u e
    have lb := Heap.lt_size q
    show (sortedHeap (t1.heap.push (seqObj "list" xs.toArray 0)) t1.heap.objs.size xs out.toArray).get? b = some u
    rw [sortedHeap_old (Nat.ne_of_lt lb) (by rw [size_push']; exact Nat.lt_succ_of_lt lb)]
    exact Heap.get?_push_of_some _ q
  · rw [List.length_map, i2.len]
    omega
/-- as rules: the set of a list's, a tuple's numbers; the members, sorted -/
def rSetQ (K : PySem.W.Frag) (wd : World) : List V → Hp → VK → Prop := fun xs H Q => ∃ (p : Addr) (ns : List Int), xs = [.ref p] ∧ ((SqL K H p (ns.map V.int) ∧ Few ns) ∨ (SqT K H p (ns.map V.int) ∧ ns.length ≤ 4000)) ∧ ∀ a n, H a = none → Q (.ref a) (upd H a (SetO wd a (fun j => decide (j ∈ ns)) n))
theorem cr_setQ {X : Cx} (hc : X.calm = true) : CallR X (.type "set") (rSetQ X.K X.w) := by
  rintro pins s σ H vs us Q I r ⟨p, ns, rfl, hs, q⟩
  have b0 : scanBound = 4096 := by decide
  rw [Vals.ref1 r]
  have fin : ∀ (h1 : Heap) (k1 c1 : Nat), SetR X.w h1 s.heap.objs.size (fun j => decide (j ∈ ns)) c1 → True → (∀ b o, s.heap.get? b = some o → h1.get? b = some o) → EP X pins σ Q (.ref s.heap.objs.size) { s with heap := h1, toks := k1 } := fun h1 k1 c1 R1 _ k =>
    ⟨.ref _, upd H s.heap.objs.size (SetO X.w s.heap.objs.size (fun j => decide (j ∈ ns)) c1), I.laid k (Nat.le_refl _) (setO_new R1), rfl, q _ _ (I.hok.fresh (Nat.le_refl _))⟩
  rcases hs with ⟨hs, hl⟩ | ⟨hs, hl⟩
  · obtain ⟨its, rv, hp, _⟩ := I.list hs
    exact set_l ns (I.ok.hd hc) hp.isList (ints_of_vals rv) hl fin
  · obtain ⟨its, rv, hp, _⟩ := I.tuple hs
    exact call_set_tupI ns (I.ok.hd hc) (show s.heap.IsTuple p its.toArray from hp) (ints_of_vals rv) (by omega) fun h1 k1 c1 R1 _ k => fin h1 k1 c1 R1 trivial k
def rSrtQ (wd : World) : List V → Hp → VK → Prop := fun xs H Q => ∃ (a : Addr) (S : Int → Bool) (n : Nat), xs = [.ref a] ∧ H a = some (SetO wd a S n) ∧ ∀ (ms : List Int) (p : Addr), ms.Pairwise (· < ·) → (∀ k : Int, k ∈ ms ↔ S k = true) → H p = none → Q (.ref p) (upd H p (.lst (ms.map V.int)))
theorem cr_srtQ {X : Cx} (hc : X.calm = true) : CallR X (.builtin "sorted") (rSrtQ X.w) := by
  rintro pins s σ H vs us Q I r ⟨a, S, n, rfl, ha, q⟩
  have l0 : sizeLine = 16777216 := by decide
  rw [Vals.ref1 r]
  refine sorted_s (setO_get I ha) (I.ok.hd hc) fun t2 p out c ms k g o hp hg hi hs hm hl => ?_
  have hz : (ms.map V.int).length ≤ sizeLine := by rw [List.length_map]; omega
  have hn : H p = none := I.hok.fresh hp
  have J : Inv X pins σ (upd H p (.lst (ms.map V.int))) { s with heap := t2.heap, gens := t2.gens, drawn := t2.drawn, toks := t2.toks } := I.call (ch := []) (Un.laid k hp hn) (I.hok.laid k hp ⟨hz, out, c, vals_of_ints hi, hg⟩) (by rw [g]; exact I.bare) (fun _ z => nomatch z)
  have e : t2 = { s with heap := t2.heap, gens := t2.gens, drawn := t2.drawn, toks := t2.toks } := by
    obtain ⟨x1, x2, x3, x4, x5⟩ := t2
    obtain rfl : x5 = s.os := o
    rfl
  rw [e]
  exact ⟨.ref p, _, J, rfl, q ms p hs hm hn⟩
end
/-! ### repr of plain data -/
def rRepr (K : PySem.W.Frag) : List V → Hp → VK → Prop := fun xs H Q => ∃ (x : V) (d : PyData), xs = [x] ∧ Dp K H x d ∧ d.showable = true ∧ d.hasDict = false ∧ d.shown.length ≤ sizeLine ∧ d.depth ≤ 20 ∧ Q (.str d.shown) H
theorem call_repr {X : Cx} (hg : X.A.guards = some []) (hu : X.A.units + 64 < cLine) : CallR X (.builtin "repr") (rRepr X.K) := by
  intro pins s σ H xs us Q I r h
  obtain ⟨x, d, rfl, hd, hs, hn, hz, hdp, q⟩ := h
  obtain ⟨u, rfl, ru⟩ := vals1 r
  obtain ⟨as, hr⟩ := hd.reads I _ _ _ ru
  cases hd with
  | non =>
    cases ru
    exact P.repr_of_none ⟨.str _, H, I.tok _, ⟨_, rfl⟩, q⟩
  | bl b =>
    cases ru
    exact P.repr_of_bool ⟨.str _, H, I.tok _, ⟨_, rfl⟩, q⟩
  | int i =>
    obtain ⟨t, rfl⟩ := ru
    exact P.repr_of_int (by simpa [PyData.showable] using hs) ⟨.str _, H, I.tok _, ⟨_, rfl⟩, q⟩
  | str z =>
    obtain ⟨t, rfl⟩ := ru
    exact P.repr_of_str ⟨.str _, H, I.tok _, ⟨_, rfl⟩, q⟩ hz
  | lst _ _ =>
    cases ru
    exact repr_of_reads' hr hs (PyData.noDict_hsm hn) hg (by omega) (fun _ _ e => e) (fun h' u tk hk => ⟨.str _, H, I.kept hk, ⟨u, rfl⟩, q⟩) hz
  | tup _ _ =>
    cases ru
    exact repr_of_reads' hr hs (PyData.noDict_hsm hn) hg (by omega) (fun _ _ e => e) (fun h' u tk hk => ⟨.str _, H, I.kept hk, ⟨u, rfl⟩, q⟩) hz

/-! ### repr of plain data with great numbers: no limit on figures has been set -/
section
open PyProof.Rows
def digB (K : PySem.W.Frag) : Bool := match K.lookup cStatics with
  | some o => (match o.data with
    | .dict es _ => es.all (fun e => match e.key with | .str _ _ => true | _ => false) && (nsFind es "sys.int_max_str_digits").isNone
    | _ => false)
  | none => false
theorem digB_ok {K : PySem.W.Frag} {h : Heap} (X : K.In h) (z : digB K = true) : h.NoDigits := by
  unfold digB at z
  cases e : K.lookup cStatics with
  | none => rw [e] at z; cases z
  | some o =>
    rw [e] at z
    have g := X _ _ e
    dsimp only at z
    cases ed : o.data with
    | dict es ep =>
      rw [ed] at z
      obtain ⟨z1, z2⟩ := Bool.and_eq_true_iff.mp z
      refine ⟨h.nsMap cStatics, .of_isNs ?_, ?_⟩
      · unfold Heap.isNs
        rw [g]
        dsimp only
        rw [ed]
        exact z1
      · unfold Heap.nsMap
        rw [g]
        dsimp only
        rw [ed]
        exact Option.isNone_iff_eq_none.mp z2
    | _ => rw [ed] at z; cases z
theorem far_lt {i : Int} (h : i.natAbs.log2 < 12900) : i.natAbs < 10 ^ 4300 := Nat.lt_of_lt_of_le (lt_of_log2 h) pow_lo
section
variable {pg : Program} {wd : World} {A0 : Around} {E0 : Value → Shared → Prop} {t0 : Shared} {h0 : Heap}
theorem int_reprB {i : Int} {t : Tok} {Z : Value → Shared → Prop} (hn : t0.heap.NoDigits) (hl : i.natAbs < 10 ^ 4300) (z : Z (.str (toString i) t0.toks) { t0 with toks := t0.toks + 1 }) : wpAny (model pg wd) A0 (call (.builtin "int.__repr__") [.int i t]) Z E0 t0 := by
  refine wpAny_call (codeAny_call_builtin F.slot_int_repr.plain F.entry_int_repr (F.slot_int_repr.check _ _ _ _ _ _ _ _ (typeIs_int _ i t) (F.args_int_repr_1 _) ?_))
  unfold Builtin.«int.__repr__»
  show wpAny _ _ (do let r ← Builtin.overDigitLimit? i; _) _ _ t0
  exact wpAny_bind (overDigitLimit_any hn (fun lt => wpAny_bind (wpAny_mkStr (wpAny_pure z) (int_text_fits10 lt))) fun ge => absurd hl (Nat.not_lt.mpr ge))
theorem leafB {i : Int} {t : Tok} (hn : h0.NoDigits) (hl : i.natAbs < 10 ^ 4300) (as : List Addr) (n : Nat) : ReprK pg wd as h0 n (.int i t) (toString i) := by
  intro b0 hb A1 g1 E1 t1 Z hg hc hu hk z
  rw [pyReprUnder_leaf (v := .int i t) (show b0 ≤ sizeLine by omega) (fun _ e => nomatch e)]
  unfold pyRepr
  exact wpAny_bind (wpAny_pyReprObj_slot (by omega) (typeIs_int t1 i t) F.slot_int_repr.toG (int_reprB (hn.keeps hk) hl ⟨_, _, rfl, wpAny_pure (z t1.heap _ fun _ _ e => e)⟩))
theorem most_cons {a : Addr} {d : PyData} {as bs : List Addr} {n : Nat} (r : Reads h0 (.ref a) d as) (hd : d.depth = n + 1) (hb : ReadAtMost h0 n bs) : a ∉ bs ∧ ReadAtMost h0 d.depth (a :: bs) :=
  ⟨not_mem_of_deeper r (by omega) hb, ReadAtMost.cons r (by omega) hb⟩
/-- the dict of the modules is not among these -/
def NS (h : Heap) (as : List Addr) : Prop := ∀ a o, a ∈ as → h.get? a = some o → o.cls = .type "dict" → (a == sysModules) = false
theorem NS.l {h : Heap} {as bs : List Addr} (n : NS h (as ++ bs)) : NS h as := fun a o m => n a o (List.mem_append_left _ m)
theorem NS.r {h : Heap} {as bs : List Addr} (n : NS h (as ++ bs)) : NS h bs := fun a o m => n a o (List.mem_append_right _ m)
theorem NS.t {h : Heap} {a : Addr} {as : List Addr} (n : NS h (a :: as)) : NS h as := fun b o m => n b o (List.mem_cons_of_mem _ m)
theorem NS.app {h : Heap} {as bs : List Addr} (n : NS h as) (m : NS h bs) : NS h (as ++ bs) := fun a o q => (List.mem_append.1 q).elim (n a o) (m a o)
theorem showBk_split : ∀ kvs : List (PyData × PyData), showBk kvs = true → showBs (kvs.map (·.1)) = true ∧ showBs (kvs.map (·.2)) = true
  | [], _ => ⟨rfl, rfl⟩
  | (k, v) :: r, h => by
    obtain ⟨h1, h2⟩ := Bool.and_eq_true_iff.mp (show (showB k && (showB v && showBk r)) = true from h)
    obtain ⟨h2, h3⟩ := Bool.and_eq_true_iff.mp h2
    obtain ⟨i1, i2⟩ := showBk_split r h3
    exact ⟨Bool.and_eq_true_iff.mpr ⟨h1, i1⟩, Bool.and_eq_true_iff.mpr ⟨h2, i2⟩⟩
mutual
theorem oneB (hn : h0.NoDigits) : ∀ {v : Value} {d : PyData} {as : List Addr}, Reads h0 v d as → NS h0 as → showB d = true → d.shown.length ≤ sizeLine → ∃ bs, ReadAtMost h0 d.depth bs ∧ ReprK pg wd bs h0 d.depth v d.shown
  | _, _, _, .none, _, _, _ => ⟨[], (fun _ h => nomatch h), by simp only [PyData.shown]; exact ReprK.of_is ReprIs.none _ _ _⟩
  | _, _, _, .bool b, _, _, _ => ⟨[], (fun _ h => nomatch h), by simp only [PyData.shown]; exact ReprK.of_is (ReprIs.bool b) _ _ _⟩
  | _, _, _, .int i t, _, z, _ => ⟨[], (fun _ h => nomatch h), by simp only [PyData.shown]; exact leafB hn (far_lt (by simpa [showB] using z)) _ _⟩
  | _, _, _, .str x t, _, _, l => ⟨[], (fun _ h => nomatch h), by simp only [PyData.shown]; exact ReprK.of_is (ReprIs.str x t (by simpa only [PyData.shown] using l)) _ _ _⟩
  | _, _, _, .list (a := a) (vs := us) (xs := ys) g1 g2 g3 g4, n, z, l => by
    have l2 : (listText (PyData.shownAll ys)).length ≤ sizeLine := by simpa only [PyData.shown] using l
    obtain ⟨bs, hb, hk⟩ := allB hn g4 n.t (by simpa [showB] using z) (fun t m => Nat.le_trans (listText_mem_le m) l2)
    obtain ⟨na, hb2⟩ := most_cons (.list g1 g2 g3 g4) (n := PyData.depthAll ys) (by simp only [PyData.depth]) hb
    refine ⟨a :: bs, hb2, ?_⟩
    simp only [PyData.depth, PyData.shown]
    obtain ⟨us⟩ := us
    cases us with
    | nil =>
      have g5 : ReadsAll h0 [] ys _ := g4
      cases g5
      simp only [PyData.shownAll, listText_nil]
      exact ReprK.listEmpty g1 g2 g3
    | cons u us => exact ReprK.list g1 g2 g3 na (by simpa using hk.length_eq) fun i y e => hk.item i y (by simpa using e)
  | _, _, _, .tuple (a := a) (xs := ys) g1 g2 g3 g4, n, z, l => by
    have l2 : (tupleText (PyData.shownAll ys)).length ≤ sizeLine := by simpa only [PyData.shown] using l
    obtain ⟨bs, hb, hk⟩ := allB hn g4 n (by simpa [showB] using z) (fun t m => Nat.le_trans (tupleText_mem_le m) l2)
    obtain ⟨na, hb2⟩ := most_cons (.tuple g1 g2 g3 g4) (n := PyData.depthAll ys) (by simp only [PyData.depth]) hb
    refine ⟨a :: bs, hb2, ?_⟩
    simp only [PyData.depth, PyData.shown]
    exact ReprK.tuple g1 g2 g3 na hk
  | _, _, _, .dict (a := a) (o := o) (es := es) (kvs := kvs) (as := as1) (bs := bs1) h1 h2 h3 h4 h5, n, z, l => by
    have hz : (dictText (PyData.shownKv kvs)).length ≤ sizeLine := by simpa only [PyData.shown] using l
    obtain ⟨hs1, hs2⟩ := showBk_split kvs z
    have n2 : NS h0 (a :: (as1 ++ bs1)) := n
    obtain ⟨b1, hb1, k1⟩ := allB hn h4 n2.t.l hs1 (fun t ht => let ⟨p, hp, hl⟩ := PyData.shownKv_key_le kvs t ht; Nat.le_trans hl (Nat.le_trans (dictText_mem_le hp) hz))
    obtain ⟨b2, hb2, k2⟩ := allB hn h5 n2.t.r hs2 (fun t ht => let ⟨p, hp, hl⟩ := PyData.shownKv_val_le kvs t ht; Nat.le_trans hl (Nat.le_trans (dictText_mem_le hp) hz))
    have r : Reads h0 (.ref a) (.dict kvs) _ := .dict h1 h2 h3 h4 h5
    have hb : ReadAtMost h0 (PyData.depthKv kvs) (b1 ++ b2) := (hb1.mono (PyData.depthAll_keys_le kvs)).append (hb2.mono (PyData.depthAll_vals_le kvs))
    have hna : a ∉ b1 ++ b2 := not_mem_of_deeper r (by simp only [PyData.depth]; omega) hb
    have hsys : (a == sysModules) = false := n a o List.mem_cons_self h1 h2
    refine ⟨a :: (b1 ++ b2), ReadAtMost.cons r (by simp only [PyData.depth]; omega) hb, ?_⟩
    simp only [PyData.depth, PyData.shown, PyData.shownKv_eq]
    exact ReprK.dict h1 h2 h3 hsys hna (ReprEntriesK.of_two es.toList _ _
      (k1.more_le (fun b hb => List.mem_append_left _ hb) (PyData.depthAll_keys_le kvs)) (k2.more_le (fun b hb => List.mem_append_right _ hb) (PyData.depthAll_vals_le kvs)))
theorem allB (hn : h0.NoDigits) : ∀ {us : List Value} {ds : List PyData} {as : List Addr}, ReadsAll h0 us ds as → NS h0 as → showBs ds = true → (∀ t ∈ PyData.shownAll ds, t.length ≤ sizeLine) → ∃ bs, ReadAtMost h0 (PyData.depthAll ds) bs ∧ ReprAllK pg wd bs h0 (PyData.depthAll ds) us (PyData.shownAll ds)
  | _, _, _, .nil, _, _, _ => ⟨[], (fun _ h => nomatch h), by simp only [PyData.shownAll]; exact .nil⟩
  | _, _, _, .cons (d := d) (ds := ds) r rs, n, z, l => by
    obtain ⟨z1, z2⟩ : showB d = true ∧ showBs ds = true := by simpa [showBs] using z
    obtain ⟨b1, m1, k1⟩ := oneB hn r n.l z1 (l _ (by simp only [PyData.shownAll]; exact List.mem_cons_self ..))
    obtain ⟨b2, m2, k2⟩ := allB hn rs n.r z2 fun t m => l t (by simp only [PyData.shownAll]; exact List.mem_cons_of_mem _ m)
    refine ⟨b1 ++ b2, (m1.mono ?_).append (m2.mono ?_), ?_⟩
    · simp only [PyData.depthAll]; exact Nat.le_max_left _ _
    · simp only [PyData.depthAll]; exact Nat.le_max_right _ _
    · simp only [PyData.depthAll, PyData.shownAll]
      exact .cons ((k1.more fun b m => List.mem_append_left _ m).level_le (Nat.le_max_left _ _)) (k2.more_le (fun b m => List.mem_append_right _ m) (Nat.le_max_right _ _))
end
theorem refB {a : Addr} {d : PyData} {as : List Addr} {Z : Value → Shared → Prop} (hn : h0.NoDigits) (r : Reads h0 (.ref a) d as) (n : NS h0 as) (z : showB d = true) (hg : A0.guards = some []) (hu : A0.units + (d.depth + 1) < cLine) (hk : ∀ b o, h0.get? b = some o → t0.heap.get? b = some o)
    (q : ∀ h1 u k1, (∀ b o, t0.heap.get? b = some o → h1.get? b = some o) → Z (.str d.shown u) { t0 with heap := h1, toks := k1 }) (l : d.shown.length ≤ sizeLine) : wpAny (model pg wd) A0 (call (.builtin "repr") [.ref a]) Z E0 t0 := by
  cases r with
  | list g1 g2 g3 g4 =>
    rename_i o us n0 ys b0
    have l2 : (listText (PyData.shownAll ys)).length ≤ sizeLine := by simpa only [PyData.shown] using l
    obtain ⟨bs, hb, hK⟩ := allB (pg := pg) (wd := wd) hn g4 n.t (by simpa [showB] using z) (fun t m => Nat.le_trans (listText_mem_le m) l2)
    obtain ⟨na, _⟩ := most_cons (.list g1 g2 g3 g4) (n := PyData.depthAll ys) (by simp only [PyData.depth]) hb
    simp only [PyData.depth] at hu
    simp only [PyData.shown] at q
    refine call_repr_slot (by omega) ⟨o, hk _ _ g1, g2⟩ F.slot_list_repr.toG ?_
    obtain ⟨us⟩ := us
    cases us with
    | nil =>
      have g5 : ReadsAll h0 [] ys _ := g4
      cases g5
      simp only [PyData.shownAll, listText_nil] at q
      exact call_list_repr_empty ⟨o, hk _ _ g1, g2⟩ (hk _ _ g1) g3 ⟨_, _, rfl, q t0.heap _ _ fun _ _ e => e⟩
    | cons u us => exact call_list_reprK g1 g2 g3 na (by simpa using hK.length_eq) (fun i y e => hK.item i y (by simpa using e)) hg (fun b _ => Clear.nil b) (by show A0.units + 1 + _ < cLine; omega) hk (fun h1 u k1 kp => ⟨_, _, rfl, q h1 u k1 kp⟩) l2
  | tuple g1 g2 g3 g4 =>
    rename_i o us n0 ys
    have l2 : (tupleText (PyData.shownAll ys)).length ≤ sizeLine := by simpa only [PyData.shown] using l
    obtain ⟨bs, hb, hK⟩ := allB (pg := pg) (wd := wd) hn g4 n (by simpa [showB] using z) (fun t m => Nat.le_trans (tupleText_mem_le m) l2)
    obtain ⟨na, _⟩ := most_cons (.tuple g1 g2 g3 g4) (n := PyData.depthAll ys) (by simp only [PyData.depth]) hb
    simp only [PyData.depth] at hu
    simp only [PyData.shown] at q
    refine call_repr_slot (by omega) ⟨o, hk _ _ g1, g2⟩ F.slot_tuple_repr ?_
    exact call_tuple_reprK g1 g2 g3 na hK hg (fun b _ => Clear.nil b) (by show A0.units + 1 + _ < cLine; omega) hk (fun h1 u k1 kp => ⟨_, _, rfl, q h1 u k1 kp⟩) l2
  | dict h1 h2 h3 h4 h5 =>
    rename_i o es n0 kvs as1 bs1
    have hz : (dictText (PyData.shownKv kvs)).length ≤ sizeLine := by simpa only [PyData.shown] using l
    obtain ⟨hs1, hs2⟩ := showBk_split kvs z
    have n2 : NS h0 (a :: (as1 ++ bs1)) := n
    obtain ⟨b1, hb1, k1⟩ := allB (pg := pg) (wd := wd) hn h4 n2.t.l hs1 (fun t ht => let ⟨p, hp, hl⟩ := PyData.shownKv_key_le kvs t ht; Nat.le_trans hl (Nat.le_trans (dictText_mem_le hp) hz))
    obtain ⟨b2, hb2, k2⟩ := allB (pg := pg) (wd := wd) hn h5 n2.t.r hs2 (fun t ht => let ⟨p, hp, hl⟩ := PyData.shownKv_val_le kvs t ht; Nat.le_trans hl (Nat.le_trans (dictText_mem_le hp) hz))
    have r : Reads h0 (.ref a) (.dict kvs) _ := .dict h1 h2 h3 h4 h5
    have hb : ReadAtMost h0 (PyData.depthKv kvs) (b1 ++ b2) := (hb1.mono (PyData.depthAll_keys_le kvs)).append (hb2.mono (PyData.depthAll_vals_le kvs))
    have hna : a ∉ b1 ++ b2 := not_mem_of_deeper r (by simp only [PyData.depth]; omega) hb
    have hsys : (a == sysModules) = false := n a o List.mem_cons_self h1 h2
    simp only [PyData.depth] at hu
    simp only [PyData.shown, PyData.shownKv_eq] at q
    refine call_repr_slot (by omega) ⟨o, hk _ _ h1, h2⟩ F.slot_dict_repr ?_
    exact call_dict_reprK h1 h2 h3 hsys hna (ReprEntriesK.of_two es.toList _ _
      (k1.more_le (fun b hb => List.mem_append_left _ hb) (PyData.depthAll_keys_le kvs)) (k2.more_le (fun b hb => List.mem_append_right _ hb) (PyData.depthAll_vals_le kvs)))
      hg (fun b _ => Clear.nil b) (by show A0.units + 1 + _ < cLine; omega) hk (fun h1 u k1 kp => ⟨_, _, rfl, q h1 u k1 kp⟩) (by rw [← PyData.shownKv_eq]; exact hz)
end
mutual
/-- plain data, dicts among them -/
inductive Dx (K : PySem.W.Frag) (H : Hp) : V → PyData → Prop
  | non : Dx K H .non .none
  | bl (b : Bool) : Dx K H (.bl b) (.bool b)
  | int (i : Int) : Dx K H (.int i) (.int i)
  | str (x : Str) : Dx K H (.str x) (.str x)
  | lst {a : Addr} {xs : List V} {ds : List PyData} : SqL K H a xs → DxAll K H xs ds → Dx K H (.ref a) (.list ds)
  | tup {a : Addr} {xs : List V} {ds : List PyData} : SqT K H a xs → DxAll K H xs ds → Dx K H (.ref a) (.tuple ds)
  | dic {a : Addr} {kvs : List (Key × V)} {ds : List PyData} : Rd H a (.dK kvs) → DxAll K H (kvs.map (·.2)) ds → Dx K H (.ref a) (.dict (List.zip ((kvs.map (·.1)).map kPy) ds))
inductive DxAll (K : PySem.W.Frag) (H : Hp) : List V → List PyData → Prop
  | nil : DxAll K H [] []
  | cons {v : V} {vs : List V} {d : PyData} {ds : List PyData} : Dx K H v d → DxAll K H vs ds → DxAll K H (v :: vs) (d :: ds)
end
theorem DxAll.len {K : PySem.W.Frag} {H : Hp} : ∀ {vs : List V} {ds : List PyData}, DxAll K H vs ds → vs.length = ds.length
  | _, _, .nil => rfl
  | _, _, .cons _ r => congrArg Nat.succ (DxAll.len r)
theorem kv_reads {P : Program} {w : World} {h : Heap} : ∀ {es : List DictEntry} {kvs : List (Key × V)} {vs : List (Key × Value)}, KV kvs vs → Pairs (mixKind P w) es vs → ReadsAll h (es.map (·.key)) ((kvs.map (·.1)).map kPy) [] ∧ Vals (kvs.map (·.2)) (es.map (·.val))
  | _, _, _, .nil, .nil => ⟨.nil, .nil⟩
  | _, _, _, .cons (a := a) (b := b) q hk, .cons (e := e) h1 h2 hp => by
    obtain ⟨i1, i2⟩ := kv_reads hk hp
    obtain ⟨q1, q2⟩ := q
    refine ⟨?_, .cons (by show RelV a.2 e.val; rw [h2]; exact q2) i2⟩
    obtain ⟨k, v⟩ := a
    obtain ⟨k', u⟩ := b
    obtain rfl : k = k' := q1
    rcases keyIs_shape h1 with ⟨i, t, e1, e2⟩ | ⟨x, t, e1, e2⟩
    · obtain rfl : k = .inl i := e1
      have r : Reads h e.key (.int i) [] := by rw [e2]; exact .int i t
      exact .cons r i1
    · obtain rfl : k = .inr x := e1
      have r : Reads h e.key (.str x) [] := by rw [e2]; exact .str x t
      exact .cons r i1
section
variable {X : Cx} {pins : List (Addr × Obj)} {σ : L2.St} {H : Hp} {s : Shared}
mutual
theorem Dx.reads (I : Inv X pins σ H s) : ∀ {v : V} {d : PyData} {u : Value}, Dx X.K H v d → RelV v u → ∃ as, Reads s.heap u d as ∧ NS s.heap as
  | _, _, _, .non, r => by cases r; exact ⟨_, .none, fun _ _ h => nomatch h⟩
  | _, _, _, .bl b, r => by cases r; exact ⟨_, .bool b, fun _ _ h => nomatch h⟩
  | _, _, _, .int i, r => by obtain ⟨t, rfl⟩ := r; exact ⟨_, .int i t, fun _ _ h => nomatch h⟩
  | _, _, _, .str x, r => by obtain ⟨t, rfl⟩ := r; exact ⟨_, .str x t, fun _ _ h => nomatch h⟩
  | _, _, _, .lst (a := a) hs ha, r => by
    cases r
    obtain ⟨its, rv, ⟨o, n, ho, hc, _, hd⟩, _⟩ := I.list hs
    obtain ⟨as, hr, hn⟩ := DxAll.reads I ha rv
    refine ⟨_, Reads.list ho hc hd hr, fun b o2 hb e c => ?_⟩
    rcases List.mem_cons.1 hb with rfl | hb
    · rw [ho] at e
      cases e
      rw [hc] at c
      exact absurd c (by decide)
    · exact hn b o2 hb e c
  | _, _, _, .tup (a := a) hs ha, r => by
    cases r
    obtain ⟨its, rv, ⟨o, ho, hc, n, hd⟩, _⟩ := I.tuple hs
    obtain ⟨as, hr, hn⟩ := DxAll.reads I ha rv
    exact ⟨_, Reads.tuple ho hc hd hr, hn⟩
  | _, _, _, .dic (a := a) (kvs := kvs) (ds := ds) h ha, r => by
    cases r
    obtain ⟨_, hsys, vs, hkv, o, es, ep, ho, ⟨hc, _, _⟩, hd, _, hp, _⟩ := dk_rd I.hok h
    obtain ⟨r1, r2⟩ := kv_reads (h := s.heap) hkv hp
    obtain ⟨bs, r3, hn⟩ := DxAll.reads I ha r2
    have hl : ((kvs.map (·.1)).map kPy).length = ds.length := by rw [List.length_map, List.length_map, ← ha.len, List.length_map]
    refine ⟨_, Reads.dict ho hc hd (by rw [List.map_fst_zip (Nat.le_of_eq hl)]; exact r1) (by rw [List.map_snd_zip (Nat.le_of_eq hl.symm)]; exact r3), fun b o2 hb e c => ?_⟩
    rcases List.mem_cons.1 hb with rfl | hb
    · exact hsys
    · exact hn b o2 (by simpa using hb) e c
theorem DxAll.reads (I : Inv X pins σ H s) : ∀ {vs : List V} {ds : List PyData} {us : List Value}, DxAll X.K H vs ds → Vals vs us → ∃ as, ReadsAll s.heap us ds as ∧ NS s.heap as
  | _, _, _, .nil, r => by cases r; exact ⟨_, .nil, fun _ _ h => nomatch h⟩
  | _, _, _, .cons h1 h2, r => by
    cases r with
    | cons r1 r2 =>
      obtain ⟨as, q1, n1⟩ := Dx.reads I h1 r1
      obtain ⟨bs, q2, n2⟩ := DxAll.reads I h2 r2
      exact ⟨_, .cons q1 q2, n1.app n2⟩
end
end
mutual
theorem Rep.dx {K : PySem.W.Frag} {ad : Nat → Addr} {H : Hp} : ∀ {v : V} {d : D}, Rep K ad H v d → plx d = true → Dx K H v (toPy d)
  | _, _, .non, _ => .non
  | _, _, .bl b, _ => .bl b
  | _, _, .int i, _ => .int i
  | _, _, .str s, _ => .str s
  | _, _, .tup h r, p => .tup (SqT.of h) (RepL.dx r p)
  | _, _, .lst h r, p => .lst (SqL.of h) (RepL.dx r p)
  | _, _, .dic h r, p => .dic h (RepL.dx r p)
  | _, _, .hd n, p => nomatch p
theorem RepL.dx {K : PySem.W.Frag} {ad : Nat → Addr} {H : Hp} : ∀ {vs : List V} {ds : List D}, RepL K ad H vs ds → plxL ds = true → DxAll K H vs (toPyL ds)
  | _, _, .nil, _ => .nil
  | _, _, .cons h r, p => .cons (Rep.dx h (Bool.and_eq_true_iff.mp p).1) (RepL.dx r (Bool.and_eq_true_iff.mp p).2)
end
def rReprB (K : PySem.W.Frag) : List V → Hp → VK → Prop := fun xs H Q => ∃ (x : V) (d : PyData), xs = [x] ∧ Dx K H x d ∧ showB d = true ∧ d.shown.length ≤ sizeLine ∧ d.depth ≤ 20 ∧ Q (.str d.shown) H
theorem call_reprB {X : Cx} (hg : X.A.guards = some []) (hu : X.A.units + 64 < cLine) (hd : digB X.K = true) : CallR X (.builtin "repr") (rReprB X.K) := by
  intro pins s σ H xs us Q I r h
  obtain ⟨x, d, rfl, hp, hs, hz, hdp, q⟩ := h
  obtain ⟨u, rfl, ru⟩ := vals1 r
  obtain ⟨as, hr, hns⟩ := hp.reads I ru
  have nd := digB_ok I.kIn hd
  cases hp with
  | non =>
    cases ru
    exact P.repr_of_none ⟨.str _, H, I.tok _, ⟨_, rfl⟩, q⟩
  | bl b =>
    cases ru
    exact P.repr_of_bool ⟨.str _, H, I.tok _, ⟨_, rfl⟩, q⟩
  | int i =>
    obtain ⟨t, rfl⟩ := ru
    exact call_repr_slot (by omega) (typeIs_int s i t) F.slot_int_repr.toG (int_reprB nd (far_lt (by simpa [showB] using hs)) ⟨_, _, rfl, ⟨.str _, H, I.tok _, ⟨_, rfl⟩, q⟩⟩)
  | str z =>
    obtain ⟨t, rfl⟩ := ru
    exact P.repr_of_str ⟨.str _, H, I.tok _, ⟨_, rfl⟩, q⟩ hz
  | lst _ _ =>
    cases ru
    exact refB nd hr hns hs hg (by omega) (fun _ _ e => e) (fun h' u tk hk => ⟨.str _, H, I.kept hk, ⟨u, rfl⟩, q⟩) hz
  | tup _ _ =>
    cases ru
    exact refB nd hr hns hs hg (by omega) (fun _ _ e => e) (fun h' u tk hk => ⟨.str _, H, I.kept hk, ⟨u, rfl⟩, q⟩) hz
  | dic _ _ =>
    cases ru
    exact refB nd hr hns hs hg (by omega) (fun _ _ e => e) (fun h' u tk hk => ⟨.str _, H, I.kept hk, ⟨u, rfl⟩, q⟩) hz
end
/-! ### built-in functions -/
def PkL (K : PySem.W.Frag) (ad : Nat → Addr) (H Hv : Hp) : List V → List D → Prop
  | [], [] => True
  | v :: vs, d :: ds => Pk K ad H Hv v d ∧ PkL K ad H Hv vs ds
  | _, _ => False
section
variable {K : PySem.W.Frag} {ad : Nat → Addr} {H Hv : Hp}
theorem PkL.one {vs : List V} {d : D} (h : PkL K ad H Hv vs [d]) : ∃ v, vs = [v] ∧ Pk K ad H Hv v d := by
  match vs, h with
  | [v], h => exact ⟨v, rfl, h.1⟩
theorem PkL.two {vs : List V} {d e : D} (h : PkL K ad H Hv vs [d, e]) : ∃ v u, vs = [v, u] ∧ Pk K ad H Hv v d ∧ Pk K ad H Hv u e := by
  match vs, h with
  | [v, u], h => exact ⟨v, u, rfl, h.1, h.2.1⟩
end
def BiOk (K : PySem.W.Frag) (r : List V → Hp → VK → Prop) (f : Bi) : Prop := ∀ (G : Gd) (env : En) (σ : St) (H Hv : Hp) (F : Addr → Prop) (Q : VK) (vs : List V) (ds : List D), G.K = K → Rel G env σ H Hv F → PkL G.K G.ad H Hv vs ds →
  sBi f ds (Kont G env σ Hv Q) → r vs H Q
theorem rep_keys {K : PySem.W.Frag} {ad : Nat → Addr} {H : Hp} : ∀ kvs : List (Key × V), RepL K ad H (kvs.map fun kv => kV kv.1) ((kvs.map (·.1)).map kD)
  | [] => .nil
  | (.inl i, v) :: r => .cons (.int i) (rep_keys r)
  | (.inr s, v) :: r => .cons (.str s) (rep_keys r)
/-- its name, its value -/
def biOf : Bi → Option (Str × Value)
  | .len => some ("len", .builtin "len")
  | .abs => some ("abs", .builtin "abs")
  | .int => some ("int", .type "int")
  | .bool => some ("bool", .type "bool")
  | .str => some ("str", .type "str")
  | .repr => some ("repr", .builtin "repr")
  | .sum => some ("sum", .builtin "sum")
  | .max1 => some ("max", .builtin "max")
  | .max2 => some ("max", .builtin "max")
  | .min1 => some ("min", .builtin "min")
  | .min2 => some ("min", .builtin "min")
  | .lst => some ("list", .type "list")
  | .tup => some ("tuple", .type "tuple")
  | .sorted => some ("sorted", .builtin "sorted")
  | .all_ => some ("all", .builtin "all")
  | .any_ => some ("any", .builtin "any")
  | .minP => some ("min", .builtin "min")
  | .dct => some ("dict", .type "dict")
  | .gcd => some ("gcd", .builtin "math.gcd")
  | _ => none
theorem natAbs_if (i : Int) : (if i < 0 then -i else i) = ((i.natAbs : Nat) : Int) := by split <;> omega
theorem max_if (i j : Int) : (if j > i then j else i) = max i j := by split <;> omega
theorem min_if (i j : Int) : (if j < i then j else i) = min i j := by split <;> omega
mutual
theorem pln_noDict : ∀ d : D, pln d = true → (toPy d).hasDict = false
  | .non, _ => rfl
  | .bl _, _ => rfl
  | .int _, _ => rfl
  | .str _, _ => rfl
  | .tup l, h => plnL_noDict l h
  | .lst l, h => plnL_noDict l h
  | .dic _ _, h => nomatch h
  | .hd _, h => nomatch h
theorem plnL_noDict : ∀ l : List D, plnL l = true → PyData.hasDictAll (toPyL l) = false
  | [], _ => rfl
  | d :: ds, h => by
    show ((toPy d).hasDict || PyData.hasDictAll (toPyL ds)) = false
    rw [pln_noDict d (Bool.and_eq_true_iff.mp h).1, plnL_noDict ds (Bool.and_eq_true_iff.mp h).2]
    rfl
end
theorem bi_okB {X : Cx} : BiOk X.K (rReprB X.K) .reprB := by
  intro G env σ H Hv F Q vs ds hK R hp k
  match ds, hp, k with
  | [d], hp, k =>
    obtain ⟨v, rfl, h⟩ := hp.one
    have k' : okShB d ∧ Kont G env σ Hv Q (.sh (.str (txt d))) := by cases d <;> exact k
    have h1 := (h.rep R.hs.sub).dx k'.1.1
    rw [hK] at h1
    exact ⟨v, toPy d, rfl, h1, k'.1.2.1, k'.1.2.2.1, k'.1.2.2.2, k'.2.sh R (.str _)⟩
theorem bi_ok {X : Cx} (hc : X.calm = true) (hg : X.A.guards = some []) (hu : X.A.units + 64 < cLine) (f : Bi) (nm : Str) (val : Value) (hv : biOf f = some (nm, val)) : ∃ r, CallR X val r ∧ BiOk X.K r f := by
  cases f with
  | len =>
    cases hv
    refine ⟨_, call_len, fun G env σ H Hv F Q vs ds hK R hp k => ?_⟩
    match ds, hp, k with
    | [.lst l], hp, k =>
      obtain ⟨v, rfl, h⟩ := hp.one
      obtain ⟨a, ws, rfl, e, r⟩ := h.lst
      exact ⟨_, ws.length, rfl, .inl ⟨ws, SqL.of e, rfl⟩, by rw [r.length]; exact (show Kont G env σ Hv Q _ from k).sh R (.int _)⟩
    | [.tup l], hp, k =>
      obtain ⟨v, rfl, h⟩ := hp.one
      obtain ⟨a, ws, rfl, e, _, r⟩ := h.tup R.hs.sub
      exact ⟨_, ws.length, rfl, .inr ⟨ws, SqT.of e, rfl⟩, by rw [r.length]; exact (show Kont G env σ Hv Q _ from k).sh R (.int _)⟩
    | [.str z], hp, k =>
      obtain ⟨v, rfl, h⟩ := hp.one
      obtain rfl := h.str
      exact ⟨_, z.length, rfl, ⟨k.1, rfl⟩, (show Kont G env σ Hv Q _ from k.2).sh R (.int _)⟩
  | abs =>
    cases hv
    refine ⟨_, call_abs, fun G env σ H Hv F Q vs ds hK R hp k => ?_⟩
    match ds, hp, k with
    | [.int i], hp, k =>
      obtain ⟨v, rfl, h⟩ := hp.one
      obtain rfl := h.int
      exact ⟨i, rfl, by rw [natAbs_if]; exact (show Kont G env σ Hv Q _ from k).sh R (.int _)⟩
  | int =>
    cases hv
    refine ⟨_, call_int1, fun G env σ H Hv F Q vs ds hK R hp k => ?_⟩
    match ds, hp, k with
    | [.int i], hp, k =>
      obtain ⟨v, rfl, h⟩ := hp.one
      obtain rfl := h.int
      exact .inl ⟨i, rfl, (show Kont G env σ Hv Q _ from k).sh R (.int _)⟩
    | [.bl i], hp, k =>
      obtain ⟨v, rfl, h⟩ := hp.one
      obtain rfl := h.bl
      exact .inr ⟨i, rfl, (show Kont G env σ Hv Q _ from k).sh R (.int _)⟩
  | bool =>
    cases hv
    refine ⟨_, call_bool1, fun G env σ H Hv F Q vs ds hK R hp k => ?_⟩
    match ds, hp, k with
    | [.int i], hp, k =>
      obtain ⟨v, rfl, h⟩ := hp.one
      obtain rfl := h.int
      exact .inl ⟨i, rfl, (show Kont G env σ Hv Q _ from k).sh R (.bl _)⟩
    | [.bl i], hp, k =>
      obtain ⟨v, rfl, h⟩ := hp.one
      obtain rfl := h.bl
      exact .inr ⟨i, rfl, (show Kont G env σ Hv Q _ from k).sh R (.bl _)⟩
  | str =>
    cases hv
    refine ⟨_, call_str_int, fun G env σ H Hv F Q vs ds hK R hp k => ?_⟩
    match ds, hp, k with
    | [.int i], hp, k =>
      obtain ⟨v, rfl, h⟩ := hp.one
      obtain rfl := h.int
      exact ⟨i, rfl, k.1, (show Kont G env σ Hv Q _ from k.2).sh R (.str _)⟩
  | repr =>
    cases hv
    refine ⟨_, call_repr hg hu, fun G env σ H Hv F Q vs ds hK R hp k => ?_⟩
    match ds, hp, k with
    | [d], hp, k =>
      obtain ⟨v, rfl, h⟩ := hp.one
      have k' : okSh d ∧ Kont G env σ Hv Q (.sh (.str (txt d))) := by cases d <;> exact k
      have h1 := (h.rep R.hs.sub).dp k'.1.1
      rw [hK] at h1
      exact ⟨v, toPy d, rfl, h1, k'.1.2.1, pln_noDict d k'.1.1, k'.1.2.2.1, k'.1.2.2.2, k'.2.sh R (.str _)⟩
  | sum =>
    cases hv
    refine ⟨_, cr_sum hc, fun G env σ H Hv F Q vs ds hK R hp k => ?_⟩
    match ds, hp, k with
    | [.lst l], hp, k =>
      obtain ⟨v, rfl, h⟩ := hp.one
      obtain ⟨a, ws, rfl, e, r⟩ := h.lst
      obtain ⟨ns, rfl, k⟩ := k
      obtain rfl := r.ints
      exact ⟨a, ns, rfl, SqL.of e, k.sh R (.int _)⟩
  | max1 =>
    cases hv
    refine ⟨_, cr_max hc, fun G env σ H Hv F Q vs ds hK R hp k => ?_⟩
    match ds, hp, k with
    | [.lst l], hp, k =>
      obtain ⟨v, rfl, h⟩ := hp.one
      obtain ⟨a, ws, rfl, e, r⟩ := h.lst
      obtain ⟨ns, rfl, h0, k⟩ := k
      obtain rfl := r.ints
      exact ⟨a, ns, rfl, SqL.of e, h0, fun m h1 h2 => (k m h1 h2).sh R (.int _)⟩
  | min1 =>
    cases hv
    refine ⟨_, cr_min hc, fun G env σ H Hv F Q vs ds hK R hp k => ?_⟩
    match ds, hp, k with
    | [.lst l], hp, k =>
      obtain ⟨v, rfl, h⟩ := hp.one
      obtain ⟨a, ws, rfl, e, r⟩ := h.lst
      obtain ⟨ns, rfl, h0, k⟩ := k
      obtain rfl := r.ints
      exact ⟨a, ns, rfl, SqL.of e, h0, fun m h1 h2 => (k m h1 h2).sh R (.int _)⟩
  | minP =>
    cases hv
    refine ⟨_, cr_minP hc hu, fun G env σ H Hv F Q vs ds hK R hp k => ?_⟩
    match ds, hp, k with
    | [.lst l], hp, k =>
      obtain ⟨v, rfl, h⟩ := hp.one
      obtain ⟨a, ws, rfl, e, r⟩ := h.lst
      obtain ⟨ps, rfl, h0, k⟩ := k
      obtain ⟨g1, g2⟩ := repL_pairs r
      refine ⟨a, ws, prOf Hv, rfl, SqL.of e, fun z => h0 (by rw [g1, z]; rfl), fun x hx => ?_, fun x hx h2 => ?_⟩
      · obtain ⟨t, h1, h2⟩ := g2 x hx
        exact ⟨t, h1, R.hs.sub _ _ h2⟩
      · obtain ⟨t, h3, h4⟩ := g2 x hx
        refine (k (prOf Hv x) (by rw [g1]; exact List.mem_map.mpr ⟨x, hx, rfl⟩) fun q hq => ?_).sh R ?_
        · rw [g1] at hq
          obtain ⟨y, hy, rfl⟩ := List.mem_map.mp hq
          exact h2 y hy
        · generalize prOf Hv x = z at h4 ⊢
          subst h3
          exact .tup h4 (.cons (.int _) (.cons (.int _) .nil))
  | max2 =>
    cases hv
    refine ⟨_, call_max2 hc, fun G env σ H Hv F Q vs ds hK R hp k => ?_⟩
    match ds, hp, k with
    | [.int i, .int j], hp, k =>
      obtain ⟨v, u, rfl, h, h2⟩ := hp.two
      obtain rfl := h.int
      obtain rfl := h2.int
      exact ⟨i, j, rfl, by rw [max_if]; exact (show Kont G env σ Hv Q _ from k).sh R (.int _)⟩
  | min2 =>
    cases hv
    refine ⟨_, call_min2 hc, fun G env σ H Hv F Q vs ds hK R hp k => ?_⟩
    match ds, hp, k with
    | [.int i, .int j], hp, k =>
      obtain ⟨v, u, rfl, h, h2⟩ := hp.two
      obtain rfl := h.int
      obtain rfl := h2.int
      exact ⟨i, j, rfl, by rw [min_if]; exact (show Kont G env σ Hv Q _ from k).sh R (.int _)⟩
  | dct =>
    cases hv
    refine ⟨_, call_dictD, fun G env σ H Hv F Q vs ds hK R hp k => ?_⟩
    match ds, hp, k with
    | [.dic ks l], hp, k =>
      obtain ⟨v, rfl, h⟩ := hp.one
      obtain ⟨a, kvs, rfl, e, e2, r⟩ := h.dic
      exact ⟨a, kvs, rfl, e, fun p hn => (show Kont G env σ Hv Q _ from k).newD R e2 r hn⟩
  | lst =>
    cases hv
    refine ⟨_, call_list_of.or (call_listD hc), fun G env σ H Hv F Q vs ds hK R hp k => ?_⟩
    match ds, hp, k with
    | [.lst l], hp, k =>
      obtain ⟨v, rfl, h⟩ := hp.one
      obtain ⟨a, ws, rfl, e, r⟩ := h.lst
      exact .inl ⟨a, ws, rfl, .inl (SqL.of e), fun p hn => (show Kont G env σ Hv Q _ from k).newL R r hn⟩
    | [.tup l], hp, k =>
      obtain ⟨v, rfl, h⟩ := hp.one
      obtain ⟨a, ws, rfl, e, _, r⟩ := h.tup R.hs.sub
      exact .inl ⟨a, ws, rfl, .inr (SqT.of e), fun p hn => (show Kont G env σ Hv Q _ from k).newL R r hn⟩
    | [.dic ks l], hp, k =>
      obtain ⟨v, rfl, h⟩ := hp.one
      obtain ⟨a, kvs, rfl, e, e2, r⟩ := h.dic
      exact .inr ⟨a, kvs, rfl, e, fun p hn => (show Kont G env σ Hv Q _ from k).newL R (by rw [← e2]; exact rep_keys kvs) hn⟩
  | tup =>
    cases hv
    refine ⟨_, call_tuple_of, fun G env σ H Hv F Q vs ds hK R hp k => ?_⟩
    match ds, hp, k with
    | [.lst l], hp, k =>
      obtain ⟨v, rfl, h⟩ := hp.one
      obtain ⟨a, ws, rfl, e, r⟩ := h.lst
      exact ⟨a, ws, rfl, .inl ⟨SqL.of e, fun p hn => (show Kont G env σ Hv Q _ from k).newT R r hn⟩⟩
    | [.tup l], hp, k =>
      obtain ⟨v, rfl, h⟩ := hp.one
      obtain ⟨a, ws, rfl, e, e2, r⟩ := h.tup R.hs.sub
      exact ⟨a, ws, rfl, .inr ⟨SqT.of e, (show Kont G env σ Hv Q _ from k).sh R (.tup e2 r)⟩⟩
  | sorted =>
    cases hv
    refine ⟨_, (cr_sortedI.or (cr_sortedPO.or (cr_sortTI.or cr_sortTP))).or (call_sortedDI hc), fun G env σ H Hv F Q vs ds hK R hp k => ?_⟩
    have up : ∀ {ws : List V} {ps : List (Int × Int)}, RepL G.K G.ad Hv ws (ps.map pr) → (∀ qs : List (Int × Int), qs.Perm ps → qs.Pairwise lexLe → Kont G env σ Hv Q (.ow (.lst (qs.map pr)))) → (∀ x ∈ ws, ∃ t, x = V.ref t ∧ H t = some (.tup [.int (prOf Hv x).1, .int (prOf Hv x).2])) ∧ ∀ ys p, SrtO.Srtd (ltP (prOf Hv)) ys → SrtO.Stb (ltP (prOf Hv)) ys ws → H p = none → Q (.ref p) (upd H p (.lst ys)) := by
      intro ws ps r k
      obtain ⟨e1, e2⟩ := repL_pairs r
      refine ⟨fun x hx => ?_, fun ys p i1 i2 hn => (k (ys.map (prOf Hv)) (by rw [e1]; exact i2.perm.map _) (List.pairwise_map.mpr (i1.imp fun {x y} h => ?_))).newL R (pairs_repL fun x hx => e2 x (i2.perm.mem_iff.mp hx)) hn⟩
      · obtain ⟨t, h1, h2⟩ := e2 x hx
        exact ⟨t, h1, R.hs.sub _ _ h2⟩
      · have := SrtO.lexB_no.mp h
        unfold lexLe
        omega
    match ds, hp, k with
    | [.lst l], hp, k =>
      obtain ⟨v, rfl, h⟩ := hp.one
      obtain ⟨a, ws, rfl, e, r⟩ := h.lst
      rcases k with ⟨ns, rfl, k⟩ | ⟨ps, rfl, k⟩
      · obtain rfl := r.ints
        exact .inl (.inl ⟨a, ns, rfl, SqL.of e, fun ms p h1 h2 hn => (k ms h1 h2).newL R (RepL.of_ints ms) hn⟩)
      · exact .inl (.inr (.inl ⟨a, ws, prOf Hv, rfl, SqL.of e, up r k⟩))
    | [.tup l], hp, k =>
      obtain ⟨v, rfl, h⟩ := hp.one
      obtain ⟨a, ws, rfl, e, e2, r⟩ := h.tup R.hs.sub
      rcases k with ⟨ns, rfl, k⟩ | ⟨ps, rfl, k⟩
      · obtain rfl := r.ints
        exact .inl (.inr (.inr (.inl ⟨a, ns, rfl, SqT.of e, fun ms p h1 h2 hn => (k ms h1 h2).newL R (RepL.of_ints ms) hn⟩)))
      · exact .inl (.inr (.inr (.inr ⟨a, ws, prOf Hv, rfl, SqT.of e, up r k⟩)))
    | [.dic ks l], hp, k =>
      obtain ⟨v, rfl, h⟩ := hp.one
      obtain ⟨a, kvs, rfl, e, e2, r⟩ := h.dic
      obtain ⟨ns, h1, h2, k⟩ := k
      exact .inr ⟨a, kvs, ns, rfl, e, e2.trans h1, h2, fun ms p g1 g2 hn => (k ms g1 g2).newL R (RepL.of_ints ms) hn⟩
  | all_ =>
    cases hv
    refine ⟨_, cr_all hc, fun G env σ H Hv F Q vs ds hK R hp k => ?_⟩
    match ds, hp, k with
    | [.lst l], hp, k =>
      obtain ⟨v, rfl, h⟩ := hp.one
      obtain ⟨a, ws, rfl, e, r⟩ := h.lst
      obtain ⟨bs, rfl, k⟩ := k
      obtain rfl := r.bls
      exact ⟨a, bs, rfl, SqL.of e, k.sh R (.bl _)⟩
  | any_ =>
    cases hv
    refine ⟨_, cr_any hc, fun G env σ H Hv F Q vs ds hK R hp k => ?_⟩
    match ds, hp, k with
    | [.lst l], hp, k =>
      obtain ⟨v, rfl, h⟩ := hp.one
      obtain ⟨a, ws, rfl, e, r⟩ := h.lst
      obtain ⟨bs, rfl, k⟩ := k
      obtain rfl := r.bls
      exact ⟨a, bs, rfl, SqL.of e, k.sh R (.bl _)⟩
  | gcd =>
    cases hv
    refine ⟨_, cr_gcd, fun G env σ H Hv F Q vs ds hK R hp k => ?_⟩
    match ds, hp, k with
    | [.int i, .int j], hp, k =>
      obtain ⟨v, u, rfl, h, h2⟩ := hp.two
      obtain rfl := h.int
      obtain rfl := h2.int
      exact ⟨i, j, rfl, (show Kont G env σ Hv Q _ from k).sh R (.int _)⟩
  | sset => cases hv
  | reprB => cases hv
  | lrg1 => cases hv
  | lrg2 => cases hv
  | trg1 => cases hv
  | trg2 => cases hv
end B

namespace B
open PySem PySem.Spec L2

/-! ### more is wanted: less is asked -/
theorem sTru_mono {d : D} {k k' : Bool → Prop} (h : ∀ b, k b → k' b) (q : sTru d k) : sTru d k' := by
  cases d <;> first | exact h _ q | exact ⟨q.1, h _ q.2⟩ | exact q.elim
theorem sBin_mono {op : Operator} {x y : D} {Q Q' : C → Prop} (h : ∀ c, Q c → Q' c) (q : sBin op x y Q) : sBin op x y Q' := by
  cases op <;> cases x <;> cases y <;> first | exact h _ q | exact ⟨q.1, h _ q.2⟩ | exact q
theorem sCmp_mono {op : CmpOp} {x y : D} {Q Q' : Bool → Prop} (h : ∀ c, Q c → Q' c) (q : sCmp op x y Q) : sCmp op x y Q' := by
  cases op <;> cases x <;> cases y <;> first | exact h _ q | exact ⟨q.1, h _ q.2⟩ | exact q
theorem sIx_mono {x y : D} {Q Q' : D → Prop} (h : ∀ c, Q c → Q' c) (q : sIx x y Q) : sIx x y Q' := by
  cases x <;> cases y <;> first | exact q.elim | exact ⟨q.choose, q.choose_spec.1, h _ q.choose_spec.2⟩ | exact ⟨q.1, q.2.choose, q.2.choose_spec.1, h _ q.2.choose_spec.2⟩
theorem sRv_mono {x : D} {Q Q' : C → Prop} (h : ∀ c, Q c → Q' c) (q : sRv x Q) : sRv x Q' := by
  cases x <;> first | exact (show False from q).elim | exact h _ q
theorem sSl_mono {x : D} {lo hi : Option Int} {Q Q' : C → Prop} (h : ∀ c, Q c → Q' c) (q : sSl x lo hi Q) : sSl x lo hi Q' := by
  cases x <;> first | exact h _ q | exact q
theorem srt_mono {l : List D} {Q Q' : C → Prop} (h : ∀ c, Q c → Q' c) (q : srt l Q) : srt l Q' := by
  rcases q with ⟨ns, e, k⟩ | ⟨ps, e, k⟩
  · exact .inl ⟨ns, e, fun m h1 h2 => h _ (k m h1 h2)⟩
  · exact .inr ⟨ps, e, fun m h1 h2 => h _ (k m h1 h2)⟩
theorem sBi_mono {f : Bi} {ds : List D} {Q Q' : C → Prop} (h : ∀ c, Q c → Q' c) (q : sBi f ds Q) : sBi f ds Q' := by
  unfold sBi at *
  split at q <;> first
    | exact h _ q
    | exact srt_mono h q
    | (obtain ⟨ns, e, h0, k⟩ := (q : sset _ _); exact ⟨ns, e, h0, fun m h1 h2 => h _ (k m h1 h2)⟩)
    | (obtain ⟨ns, e, h0, k⟩ := (q : ssetT _ _); exact ⟨ns, e, h0, fun m h1 h2 => h _ (k m h1 h2)⟩)
    | exact ⟨q.1, h _ q.2⟩
    | (obtain ⟨ns, e, k⟩ := q; exact ⟨ns, e, h _ k⟩)
    | (obtain ⟨ns, e, h0, k⟩ := q; exact ⟨ns, e, h0, fun m h1 h2 => h _ (k m h1 h2)⟩)
    | (obtain ⟨ns, e, k⟩ := q; exact ⟨ns, e, fun m h1 h2 => h _ (k m h1 h2)⟩)
    | exact q.elim
theorem sDsp_mono {ds : List D} {Q Q' : C → Prop} (h : ∀ c, Q c → Q' c) (q : sDsp ds Q) : sDsp ds Q' := by
  unfold sDsp at *
  cases e : pairsI ds with
  | none => rw [e] at q; exact q.elim
  | some ps => rw [e] at q; exact ⟨q.1, h _ q.2⟩
theorem sPutD_mono {d y : D} {k : Int} {Q Q' : D → Prop} (h : ∀ c, Q c → Q' c) (q : sPutD d k y Q) : sPutD d k y Q' := by
  cases d <;> first | exact ⟨q.1, h _ q.2⟩ | exact q.elim
theorem sKeys_mono {d : D} {Q Q' : List D → Prop} (h : ∀ c, Q c → Q' c) (q : sKeys d Q) : sKeys d Q' := by
  cases d <;> first | exact h _ q | exact q.elim
def MoE (we : WE) : Prop := ∀ env Q Q', (∀ c env', Q c env' → Q' c env') → we env Q → we env Q'
def MoT (wt : WT) : Prop := ∀ env Q Q', (∀ c env', Q c env' → Q' c env') → wt env Q → wt env Q'
theorem pk_mono {e : E} {we : WE} (m : MoE we) : ∀ env Q Q', (∀ o env', Q o env' → Q' o env') → pk e we env Q → pk e we env Q' := fun env Q Q' h q => by
  cases e <;> first | exact ⟨q.1, h _ _ q.2⟩ | exact m _ _ _ (fun c env' z => h _ _ z) q
theorem mkW_mo {e : E} {ev : WE} (m : MoE ev) : MoE (mkW e ev).ev ∧ MoT (mkW e ev).te :=
  ⟨m, fun env Q Q' h q => by
    have q1 : pk e ev env (fun o env' => ∃ d, o.get env' = some d ∧ sTru d fun k => Q k env') := q
    show pk e ev env (fun o env' => ∃ d, o.get env' = some d ∧ sTru d fun k => Q' k env')
    exact pk_mono m _ _ _ (fun o env' ⟨d, h1, h2⟩ => ⟨d, h1, sTru_mono (fun b z => h _ _ z) h2⟩) q1⟩
theorem wTg_mono : ∀ (t : T) (c : C) (env : En) (Q Q' : En → Prop), (∀ env', Q env' → Q' env') → wTg t c env Q → wTg t c env Q'
  | .nm i, c, env, Q, Q', h, q => h _ q
  | .nil, c, env, Q, Q', h, q => ⟨q.1, h _ q.2⟩
  | .cons t r, c, env, Q, Q', h, ⟨d, ds, e, q⟩ => ⟨d, ds, e, wTg_mono t _ _ _ _ (fun env' z => wTg_mono r _ _ _ _ h z) q⟩
theorem lcGo_mono {g : D → En → (En → Prop) → Prop} {tt : WT} {we : WE} {own : List Nat} (mg : ∀ d env Q Q', (∀ env', Q env' → Q' env') → g d env Q → g d env Q') (mt : MoT tt) (me : MoE we) :
    ∀ (ds : List D) (env : En) (acc : List D) (Q Q' : List D → En → Prop), (∀ a env', Q a env' → Q' a env') → lcGo g tt we own ds env acc Q → lcGo g tt we own ds env acc Q'
  | [], env, acc, Q, Q', h, q => h _ _ q
  | d :: ds, env, acc, Q, Q', h, q => by
    refine mg _ _ _ _ (fun env1 q1 => mt _ _ _ (fun b env2 q2 => ?_) q1) q
    cases b with
    | true => exact me _ _ _ (fun c env3 q3 => lcGo_mono mg mt me ds _ _ _ _ h q3) q2
    | false => exact lcGo_mono mg mt me ds _ _ _ _ h q2
def GamOk (Γ : Gam) : Prop := ∀ f ds Q Q', (∀ c, Q c → Q' c) → Γ f ds Q → Γ f ds Q'
section
variable {Γ : Gam} (hΓ : GamOk Γ)
include hΓ
mutual
theorem w_mo : ∀ e : E, MoE (w Γ e).ev ∧ MoT (w Γ e).te
  | .var i => mkW_mo fun env Q Q' h ⟨c, h1, h2⟩ => ⟨c, h1, h _ _ h2⟩
  | .cst d => mkW_mo fun env Q Q' h q => h _ _ q
  | .bin op a b => mkW_mo fun env Q Q' h q => pk_mono (w_mo a).1 _ _ _ (fun oa env1 q1 => pk_mono (w_mo b).1 _ _ _ (fun ob env2 ⟨x, y, h1, h2, h3⟩ => ⟨x, y, h1, h2, sBin_mono (fun c z => h _ _ z) h3⟩) q1) q
  | .neg a => mkW_mo fun env Q Q' h q => (w_mo a).1 _ _ _ (fun c env1 ⟨i, h1, h2⟩ => ⟨i, h1, h _ _ h2⟩) q
  | .nt a => ⟨fun env Q Q' h q => (w_mo a).1 _ _ _ (fun c env1 ⟨i, h1, h2⟩ => ⟨i, h1, h _ _ h2⟩) q, fun env Q Q' h q => (w_mo a).2 _ _ _ (fun c env1 z => h _ _ z) q⟩
  | .bop k a b => ⟨fun env Q Q' h q => (w_mo a).1 _ _ _ (fun c env1 ⟨i, h1, h2⟩ => ⟨i, h1, by
      split at h2
      · rw [if_pos (by assumption)]; exact (w_mo b).1 _ _ _ h h2
      · rw [if_neg (by assumption)]; exact h _ _ h2⟩) q, fun env Q Q' h q => (w_mo a).2 _ _ _ (fun c env1 h2 => by
      split at h2
      · rw [if_pos (by assumption)]; exact (w_mo b).2 _ _ _ h h2
      · rw [if_neg (by assumption)]; exact h _ _ h2) q⟩
  | .cmp op a b => ⟨fun env Q Q' h q => by
      have q0 : pk a (w Γ a).ev env fun oa env1 => pk b (w Γ b).ev env1 fun ob env2 => ∃ x y, oa.get env2 = some x ∧ ob.get env2 = some y ∧ sCmp op x y fun k => Q (.sh (.bl k)) env2 := q
      show pk a (w Γ a).ev env fun oa env1 => pk b (w Γ b).ev env1 fun ob env2 => ∃ x y, oa.get env2 = some x ∧ ob.get env2 = some y ∧ sCmp op x y fun k => Q' (.sh (.bl k)) env2
      exact pk_mono (w_mo a).1 _ _ _ (fun oa env1 q1 => pk_mono (w_mo b).1 _ _ _ (fun ob env2 ⟨x, y, h1, h2, h3⟩ => ⟨x, y, h1, h2, sCmp_mono (fun c z => h _ _ z) h3⟩) q1) q0,
      fun env Q Q' h q => by
      have q0 : pk a (w Γ a).ev env fun oa env1 => pk b (w Γ b).ev env1 fun ob env2 => ∃ x y, oa.get env2 = some x ∧ ob.get env2 = some y ∧ sCmp op x y fun k => Q k env2 := q
      show pk a (w Γ a).ev env fun oa env1 => pk b (w Γ b).ev env1 fun ob env2 => ∃ x y, oa.get env2 = some x ∧ ob.get env2 = some y ∧ sCmp op x y fun k => Q' k env2
      exact pk_mono (w_mo a).1 _ _ _ (fun oa env1 q1 => pk_mono (w_mo b).1 _ _ _ (fun ob env2 ⟨x, y, h1, h2, h3⟩ => ⟨x, y, h1, h2, sCmp_mono (fun c z => h _ _ z) h3⟩) q1) q0⟩
  | .chn o1 o2 a b c => ⟨fun env Q Q' h q => (w_mo a).1 _ _ _ (fun ca env1 q1 => (w_mo b).1 _ _ _ (fun cb env2 q2 => sCmp_mono (fun k z => by
      split at z
      · rw [if_pos (by assumption)]; exact (w_mo c).1 _ _ _ (fun cc env3 q3 => sCmp_mono (fun k2 z2 => h _ _ z2) q3) z
      · rw [if_neg (by assumption)]; exact h _ _ z) q2) q1) q, fun env Q Q' h q => (w_mo a).1 _ _ _ (fun ca env1 q1 => (w_mo b).1 _ _ _ (fun cb env2 q2 => sCmp_mono (fun k z => by
      split at z
      · rw [if_pos (by assumption)]; exact (w_mo c).1 _ _ _ (fun cc env3 q3 => sCmp_mono (fun k2 z2 => h _ _ z2) q3) z
      · rw [if_neg (by assumption)]; exact h _ _ z) q2) q1) q⟩
  | .ife c a b => ⟨fun env Q Q' h q => (w_mo c).2 _ _ _ (fun k env1 z => by
      split at z
      · rw [if_pos (by assumption)]; exact (w_mo a).1 _ _ _ h z
      · rw [if_neg (by assumption)]; exact (w_mo b).1 _ _ _ h z) q, fun env Q Q' h q => (w_mo c).2 _ _ _ (fun k env1 z => by
      split at z
      · rw [if_pos (by assumption)]; exact (w_mo a).2 _ _ _ h z
      · rw [if_neg (by assumption)]; exact (w_mo b).2 _ _ _ h z) q⟩
  | .tup es => mkW_mo fun env Q Q' h q => wEs_mo es _ _ _ (fun ds env1 z => ⟨z.1, h _ _ z.2⟩) q
  | .lst es => mkW_mo fun env Q Q' h q => wEs_mo es _ _ _ (fun ds env1 z => ⟨z.1, h _ _ z.2⟩) q
  | .ix a i => mkW_mo fun env Q Q' h q => pk_mono (w_mo a).1 _ _ _ (fun oa env1 q1 => (w_mo i).1 _ _ _ (fun ci env2 ⟨x, h1, h2⟩ => ⟨x, h1, sIx_mono (fun d z => h _ _ z) h2⟩) q1) q
  | .sl a lo hi => mkW_mo fun env Q Q' h q => pk_mono (w_mo a).1 _ _ _ (fun oa env1 q1 => wO_mo lo _ _ _ (fun l env2 q2 => wO_mo hi _ _ _ (fun hh env3 ⟨x, h1, h2⟩ => ⟨x, h1, sSl_mono (fun d z => h _ _ z) h2⟩) q2) q1) q
  | .rv a => mkW_mo fun env Q Q' h q => pk_mono (w_mo a).1 _ _ _ (fun oa env1 ⟨l, h1, h2⟩ => ⟨l, h1, sRv_mono (fun d z => h _ _ z) h2⟩) q
  | .dnil => mkW_mo fun env Q Q' h q => h _ _ q
  | .dsp es => mkW_mo fun env Q Q' h q => wEs_mo es _ _ _ (fun ds env1 z => sDsp_mono (fun c z => h _ _ z) z) q
  | .bi f es => mkW_mo fun env Q Q' h q => wPs_mo es _ _ _ (fun os env1 ⟨ds, h1, h2⟩ => ⟨ds, h1, sBi_mono (fun c z => h _ _ z) h2⟩) q
  | .call f es => mkW_mo fun env Q Q' h q => wEs_mo es _ _ _ (fun ds env1 z => hΓ _ _ _ _ (fun c y => h _ _ y) z) q
  | .pop i => mkW_mo fun env Q Q' h ⟨l, d, h1, h2, h3⟩ => ⟨l, d, h1, h2, h _ _ h3⟩
  | .popA i e => mkW_mo fun env Q Q' h q => ⟨q.1, (w_mo e).1 _ _ _ (fun c env1 ⟨l, k, j, d, h1, h2, h3, h4, h5, h6, h7⟩ => ⟨l, k, j, d, h1, h2, h3, h4, h5, h6, h _ _ h7⟩) q.2⟩
  | .comp own t it cnd elt => mkW_mo fun env Q Q' h q => wI_mo it _ _ _ (fun ds env1 z => lcGo_mono (g := fun d => wTg t (.sh d)) (fun d env Q Q' h z => wTg_mono t _ _ _ _ h z) (wC_mo cnd) (w_mo elt).1 _ _ _ _ _ (fun acc env2 y => h _ _ y) z) q
  | .isi a ty => mkW_mo fun env Q Q' h q => pk_mono (w_mo a).1 _ _ _ (fun o env1 ⟨d, b, h1, h2, h3⟩ => ⟨d, b, h1, h2, h _ _ h3⟩) q
theorem wEs_mo : ∀ (es : Es) (env : En) (Q Q' : List D → En → Prop), (∀ ds env', Q ds env' → Q' ds env') → wEs Γ es env Q → wEs Γ es env Q'
  | .nil, env, Q, Q', h, q => h _ _ q
  | .cons e r, env, Q, Q', h, q => (w_mo e).1 _ _ _ (fun c env1 z => wEs_mo r _ _ _ (fun ds env2 y => h _ _ y) z) q
theorem wPs_mo : ∀ (es : Es) (env : En) (Q Q' : List Opd → En → Prop), (∀ ds env', Q ds env' → Q' ds env') → wPs Γ es env Q → wPs Γ es env Q'
  | .nil, env, Q, Q', h, q => h _ _ q
  | .cons e r, env, Q, Q', h, q => by
    have q0 : pk e (w Γ e).ev env fun o env1 => wPs Γ r env1 fun os env2 => Q (o :: os) env2 := q
    exact pk_mono (w_mo e).1 _ _ _ (fun c env1 z => wPs_mo r _ _ _ (fun ds env2 y => h _ _ y) z) q0
theorem wO_mo : ∀ (o : Oe) (env : En) (Q Q' : Option Int → En → Prop), (∀ ds env', Q ds env' → Q' ds env') → wO Γ o env Q → wO Γ o env Q'
  | .no, env, Q, Q', h, q => h _ _ q
  | .so e, env, Q, Q', h, q => (w_mo e).1 _ _ _ (fun c env1 ⟨i, h1, h2⟩ => ⟨i, h1, h _ _ h2⟩) q
theorem wC_mo : ∀ (o : Oe), MoT (wC Γ o)
  | .no => fun env Q Q' h q => h _ _ q
  | .so e => (w_mo e).2
theorem wI_mo : ∀ (it : It) (env : En) (Q Q' : List D → En → Prop), (∀ ds env', Q ds env' → Q' ds env') → wI Γ it env Q → wI Γ it env Q'
  | .rg1 a, env, Q, Q', h, q => (w_mo a).1 _ _ _ (fun c env1 ⟨n, h1, h2, h3⟩ => ⟨n, h1, h2, h _ _ h3⟩) q
  | .rg2 a b, env, Q, Q', h, q => (w_mo a).1 _ _ _ (fun c env1 q1 => (w_mo b).1 _ _ _ (fun c2 env2 ⟨n, m, h1, h2, h3, h4⟩ => ⟨n, m, h1, h2, h3, h _ _ h4⟩) q1) q
  | .rg3 a b c, env, Q, Q', h, q => (w_mo a).1 _ _ _ (fun c1 env1 q1 => (w_mo b).1 _ _ _ (fun c2 env2 q2 => (w_mo c).1 _ _ _ (fun c3 env3 ⟨x, y, z, n, h1, h2, h3, h4, h5, h6⟩ => ⟨x, y, z, n, h1, h2, h3, h4, h5, h _ _ h6⟩) q2) q1) q
  | .sq a, env, Q, Q', h, q => (w_mo a).1 _ _ _ (fun c env1 ⟨l, h1, h2⟩ => ⟨l, h1, h _ _ h2⟩) q
  | .en a, env, Q, Q', h, q => (w_mo a).1 _ _ _ (fun c env1 ⟨l, h1, h2⟩ => ⟨l, h1, h _ _ h2⟩) q
  | .zp a b, env, Q, Q', h, q => (w_mo a).1 _ _ _ (fun c env1 q1 => (w_mo b).1 _ _ _ (fun c2 env2 ⟨l, m, h1, h2⟩ => ⟨l, m, h1, h _ _ h2⟩) q1) q
  | .rev a, env, Q, Q', h, q => (w_mo a).1 _ _ _ (fun c env1 ⟨l, h1, h2⟩ => ⟨l, h1, h _ _ h2⟩) q
  | .dk i, env, Q, Q', h, ⟨d, h1, h2⟩ => ⟨d, h1, sKeys_mono (fun l z => h _ _ z) h2⟩
end
end
end B

namespace B
open PySem PySem.Spec L2

/-! ### readings by value -/
def tE (K : PySem.W.Frag) (we : WE) : TE := fun σ H Q => ∃ G env Hv F, G.K = K ∧ Rel G env σ H Hv F ∧ we env fun c env' => Kont G env' σ Hv Q c
def OpdAt (G : Gd) (σ : St) (Hv : Hp) (v : V) : Opd → Prop
  | .v d => Rep G.K G.ad Hv v d
  | .s i => σ[i]? = some (some v)
def tP (K : PySem.W.Frag) (e : E) (we : WE) : TE := fun σ H Q => ∃ G env Hv F, G.K = K ∧ Rel G env σ H Hv F ∧ pk e we env fun o env' => ∀ v H' Hv' F', Rel G env' σ H' Hv' F' → OpdAt G σ Hv' v o → Same Hv Hv' → Q v H'
def tT (K : PySem.W.Frag) (wt : WT) : TT := fun σ H Q => ∃ G env Hv F, G.K = K ∧ Rel G env σ H Hv F ∧ wt env fun b env' => ∀ H' Hv' F', Rel G env' σ H' Hv' F' → Same Hv Hv' → Q b H'
def tA (K : PySem.W.Frag) (n : Nat) (wa : En → (List D → En → Prop) → Prop) : TA := fun σ H Q => ∃ G env Hv F, G.K = K ∧ Rel G env σ H Hv F ∧ wa env fun ds env' => ∀ vs H' Hv' F', vs.length = n → Rel G env' σ H' Hv' F' → RepL G.K G.ad Hv' vs ds → Same Hv Hv' → Q vs H'
def OpdsAt (G : Gd) (σ : St) (Hv : Hp) : List V → List Opd → Prop
  | [], [] => True
  | v :: vs, o :: os => OpdAt G σ Hv v o ∧ OpdsAt G σ Hv vs os
  | _, _ => False
def tPs (K : PySem.W.Frag) (wa : En → (List Opd → En → Prop) → Prop) : TA := fun σ H Q => ∃ G env Hv F, G.K = K ∧ Rel G env σ H Hv F ∧ wa env fun os env' => ∀ vs H' Hv' F', Rel G env' σ H' Hv' F' → OpdsAt G σ Hv' vs os → Same Hv Hv' → Q vs H'

theorem PE.of {X : Cx} {e : Expr} {t t' : TE} (h : PE X e t') (i : ∀ σ H Q, t σ H Q → t' σ H Q) : PE X e t := ⟨fun pins s σ H Q I q => h.run pins s σ H Q I (i σ H Q q)⟩
theorem PT.of {X : Cx} {e : Expr} {t t' : TT} (h : PT X e t') (i : ∀ σ H Q, t σ H Q → t' σ H Q) : PT X e t := ⟨fun pins s σ H Q I q => h.run pins s σ H Q I (i σ H Q q)⟩
theorem PW.of {X : Cx} {e : Expr} {t t' : TT} (h : PW X e t') (i : ∀ σ H Q, t σ H Q → t' σ H Q) : PW X e t := ⟨fun wh pins s σ H Q I q => h.run wh pins s σ H Q I (i σ H Q q)⟩
theorem PA.of {X : Cx} {e : List Expr} {t t' : TA} (h : PA X e t') (i : ∀ σ H Q, t σ H Q → t' σ H Q) : PA X e t := ⟨fun p pins s σ H Q I q => h.run p pins s σ H Q I (i σ H Q q)⟩

section
variable {G : Gd} {σ : St} {H Hv Hv' : Hp} {F : Addr → Prop} {env : En} {v : V} {o : Opd} {d : D} {vs : List V} {os : List Opd} {ds : List D}
theorem OpdAt.mono (h : OpdAt G σ Hv v o) (s : Same Hv Hv') : OpdAt G σ Hv' v o := by
  cases o with
  | v d => exact Rep.mono s h
  | s i => exact h
theorem OpdsAt.mono : ∀ {vs : List V} {os : List Opd}, OpdsAt G σ Hv vs os → Same Hv Hv' → OpdsAt G σ Hv' vs os
  | [], [], _, _ => trivial
  | _ :: _, _ :: _, h, s => ⟨h.1.mono s, OpdsAt.mono h.2 s⟩
  | [], _ :: _, h, _ => h.elim
  | _ :: _, [], h, _ => h.elim
theorem RC.pk {c : C} (s : Same Hv H) (h : RC G H Hv F v c) : Pk G.K G.ad H Hv v c.d := by
  cases c with
  | sh d => exact Pk.of_rep s h
  | ow d =>
    obtain ⟨a, rfl, _, o1⟩ := h
    cases d with
    | lst ds => obtain ⟨vs, e, r⟩ := o1; exact ⟨a, vs, rfl, e, r⟩
    | dic ks ds => obtain ⟨kvs, e, e2, r⟩ := o1; exact ⟨a, kvs, rfl, .inl e, e2, r⟩
    | _ => exact o1.elim
theorem OpdAt.pk (R : Rel G env σ H Hv F) (h : OpdAt G σ Hv v o) (e : o.get env = some d) : Pk G.K G.ad H Hv v d := by
  cases o with
  | v d' => cases e; exact Pk.of_rep R.hs.sub h
  | s i =>
    have h' : σ[i]? = some (some v) := h
    unfold Opd.get at e
    simp only at e
    split at e
    · rename_i c hc
      cases e
      exact (R.get hc h').pk R.hs.sub
    · cases e
theorem OpdsAt.pk (R : Rel G env σ H Hv F) : ∀ {vs : List V} {os : List Opd} {ds : List D}, OpdsAt G σ Hv vs os → gets env os = some ds → PkL G.K G.ad H Hv vs ds
  | [], [], ds, _, e => by cases e; trivial
  | v :: vs, o :: os, ds, h, e => by
    unfold gets at e
    split at e
    · rename_i d ds' h1 h2
      cases e
      exact ⟨h.1.pk R h1, OpdsAt.pk R h.2 h2⟩
    · cases e
  | [], _ :: _, _, h, _ => h.elim
  | _ :: _, [], _, h, _ => h.elim
/-- truth -/
theorem tru_of {k : Bool → Prop} (s : Same Hv H) (h : Pk G.K G.ad H Hv v d) (q : sTru d k) : ∃ b, TruV G.K v H b ∧ k b := by
  cases d with
  | non => obtain rfl := h.non; exact ⟨false, rfl, q⟩
  | bl b => obtain rfl := h.bl; exact ⟨b, rfl, q⟩
  | int i => obtain rfl := h.int; exact ⟨_, rfl, q⟩
  | str z =>
    obtain rfl := h.str
    refine ⟨_, ⟨q.1, rfl⟩, ?_⟩
    have e : ((z.length : Int) != 0) = (z.length != 0) := by
      by_cases hz : z.length = 0
      · rw [hz]; rfl
      · have h1 : (z.length != 0) = true := by simpa using hz
        have h2 : ((z.length : Int) != 0) = true := by simpa using hz
        rw [h1, h2]
    rw [e]
    exact q.2
  | lst l =>
    obtain ⟨a, vs, rfl, e, r⟩ := h.lst
    refine ⟨_, .inl ⟨vs, SqL.of e, rfl⟩, ?_⟩
    have : vs.isEmpty = l.isEmpty := by cases r <;> rfl
    rw [this]; exact q
  | tup l =>
    obtain ⟨a, vs, rfl, e, _, r⟩ := h.tup s
    refine ⟨_, .inr (.inl ⟨vs, SqT.of e, rfl⟩), ?_⟩
    have : vs.isEmpty = l.isEmpty := by cases r <;> rfl
    rw [this]; exact q
  | dic ks ds => exact q.elim
  | hd n => exact q.elim
end

structure SE (X : Cx) (Γ : Gam) (e : Expr) (x : E) : Prop where
  ev : PE X e (tE X.K (w Γ x).ev)
  pk : PE X e (tP X.K x (w Γ x).ev)
  te : PT X e (tT X.K (w Γ x).te)
def NotVar : E → Prop
  | .var _ => False
  | _ => True
section
variable {X : Cx} {Γ : Gam} {e : Expr} {x : E}
theorem pk_not (h : NotVar x) (we : WE) (env : En) (Q : Opd → En → Prop) : pk x we env Q = we env fun c env' => Q (.v c.d) env' := by
  cases x <;> first | rfl | exact h.elim
theorem pk_of_ev (hΓ : GamOk Γ) (h : NotVar x) (he : PE X e (tE X.K (w Γ x).ev)) : PE X e (tP X.K x (w Γ x).ev) := by
  refine PE.of he fun σ H Q q => ?_
  obtain ⟨G, env, Hv, F, hK, R, q⟩ := q
  rw [pk_not h] at q
  refine ⟨G, env, Hv, F, hK, R, (w_mo hΓ x).1 _ _ _ (fun c env' k v H' Hv' F' R' hr s => ?_) q⟩
  obtain ⟨Hv2, R2, r2, s2⟩ := Res.freeze R' hr
  exact k v H' Hv2 F' R2 r2 (s.trans s2)
/-- the truth of an expression that is no test by itself -/
theorem te_of_pk (hΓ : GamOk Γ) (he : PE X e (tP X.K x (w Γ x).ev)) (hw : w Γ x = mkW x (w Γ x).ev) (hi : ∀ whole, isTrue e X.env whole = (do let v ← whole; standAt e.pos; holding [v] (truthy v))) : PT X e (tT X.K (w Γ x).te) := by
  refine PT.of (pt_truth he hi) fun σ H Q q => ?_
  obtain ⟨G, env, Hv, F, hK, R, q⟩ := q
  rw [hw] at q
  have q' : pk x (w Γ x).ev env fun o env' => ∃ d, o.get env' = some d ∧ sTru d fun k => ∀ H' Hv' F', Rel G env' σ H' Hv' F' → Same Hv Hv' → Q k H' := q
  refine ⟨G, env, Hv, F, hK, R, ?_⟩
  have key : ∀ (o : Opd) (env' : En), (∃ d, o.get env' = some d ∧ sTru d fun k => ∀ H' Hv' F', Rel G env' σ H' Hv' F' → Same Hv Hv' → Q k H') → ∀ v H' Hv' F', Rel G env' σ H' Hv' F' → OpdAt G σ Hv' v o → Same Hv Hv' → ∃ k, TruV X.K v H' k ∧ Q k H' := by
    intro o env' ⟨d, h1, h2⟩ v H' Hv' F' R' hv s
    obtain ⟨b, h3, h4⟩ := tru_of R'.hs.sub (hv.pk R' h1) h2
    rw [hK] at h3
    exact ⟨b, h3, h4 H' Hv' F' R' s⟩
  exact pk_mono (w_mo hΓ x).1 _ _ _ (fun o env' z => key o env' z) q'
end
end B

namespace B
open PySem PySem.Spec L2

/-! ### t[::-1] of a list, of a tuple -/
section
open PyProof.Rows HT
variable {prog : Program} {w : World} {A : Around} {E : Value → Shared → Prop} {s : Shared}
theorem places_rev (n : Nat) : Builtin.Slice.slicePlaces ((n : Int) - 1) (-1) (-1) = n := by
  unfold Builtin.Slice.slicePlaces
  rw [if_neg (by decide)]
  by_cases h : (n : Int) - 1 > -1
  · rw [if_pos h, Int.neg_neg, Int.ediv_one]
    omega
  · rw [if_neg h]
    omega
theorem sliceApplied_rev {sl : Addr} {vl vu vs : Value} {n : Nat} {Q : Int × Int × Nat → Shared → Prop} (hs : s.heap.IsSliceOf sl vl vu vs) (pl : IsPart vl none) (pu : IsPart vu none) (ps : IsPart vs (some (-1)))
    (h : Q ((n : Int) - 1, -1, n) s) : wpAny (model prog w) A (Builtin.Slice.sliceApplied (.ref sl) (pure (n : Int))) Q E s := by
  obtain ⟨os, hos, hcs, hds⟩ := id hs
  unfold Builtin.Slice.sliceApplied Builtin.Slice.sliceFields
  refine wpAny_bind (wpAny_bind (wpAny_field hos hds (x := vl) rfl (wpAny_bind (wpAny_field hos hds (x := vu) rfl (wpAny_bind (wpAny_field hos hds (x := vs) rfl (wpAny_pure ?_)))))))
  refine wpAny_bind (slicePart_ ps ?_)
  show wpAny _ _ (if ((-1 : Int) == 0) = true then _ else _) _ _ s
  rw [if_neg (by decide)]
  refine wpAny_bind (slicePart_ pl (wpAny_bind (slicePart_ pu (wpAny_bind (wpAny_pure ?_)))))
  show wpAny _ _ (match Builtin.Slice.sliceAdjust none none (-1) (n : Int) with | (lo, hi) => pure (lo, (-1 : Int), Builtin.Slice.slicePlaces lo hi (-1))) _ _ s
  show wpAny _ _ (pure ((n : Int) - 1, (-1 : Int), Builtin.Slice.slicePlaces ((n : Int) - 1) (-1) (-1))) _ _ s
  rw [places_rev]
  exact wpAny_pure h
theorem fm_congr {α β : Type} {f g : α → Option β} : ∀ {l : List α}, (∀ m, m ∈ l → f m = g m) → l.filterMap f = l.filterMap g
  | [], _ => rfl
  | a :: l, h => by
    rw [List.filterMap_cons, List.filterMap_cons, h a List.mem_cons_self, fm_congr fun m hm => h m (List.mem_cons_of_mem _ hm)]
theorem pick_rev (xs : Array Value) : ((List.range xs.size).filterMap fun (m : Nat) => xs[((xs.size : Int) - 1 + (m : Int) * -1).toNat]?).toArray = xs.toList.reverse.toArray := by
  congr 1
  apply List.ext_getElem?
  intro i
  have e : ∀ m, m ∈ List.range xs.size → xs[((xs.size : Int) - 1 + (m : Int) * -1).toNat]? = xs.toList.reverse[m]? := by
    intro m hm
    rw [List.mem_range] at hm
    have q : ((xs.size : Int) - 1 + (m : Int) * -1).toNat = xs.size - 1 - m := by omega
    rw [q, List.getElem?_reverse (by rw [Array.length_toList]; exact hm), Array.length_toList, Array.getElem?_toList]
  have f : ((List.range xs.size).filterMap fun (m : Nat) => xs[((xs.size : Int) - 1 + (m : Int) * -1).toNat]?) = xs.toList.reverse := by
    rw [fm_congr e]
    have key : ∀ (l : List Value) (n : Nat), n = l.length → (List.range n).filterMap (fun m => l[m]?) = l := by
      intro l n hn
      subst hn
      induction l with
      | nil => rfl
      | cons x l ih =>
        rw [List.length_cons, List.range_succ_eq_map, List.filterMap_cons]
        show x :: List.filterMap _ (List.map Nat.succ _) = _
        rw [List.filterMap_map]
        congr 1
    exact key _ _ (by rw [List.length_reverse, Array.length_toList])
  rw [f]
theorem getItem_tuple_rev {t sl : Addr} {items : Array Value} {vl vu vs : Value} {Q : Value → Shared → Prop} (ht : IsTup s.heap t items) (hs : s.heap.IsSliceOf sl vl vu vs) (pl : IsPart vl none) (pu : IsPart vu none) (ps : IsPart vs (some (-1)))
    (h : Q (.ref s.heap.objs.size) { s with heap := s.heap.push { cls := .type "tuple", data := .seq items.toList.reverse.toArray } })
    (hsz : items.size ≤ sizeLine) : wpAny (model prog w) A (getItem (.ref t) (.ref sl)) Q E s := by
  have htake : sizeOk (.seq items.toList.reverse.toArray) := by
    show items.toList.reverse.toArray.size ≤ sizeLine
    rw [List.size_toArray, List.length_reverse, Array.length_toList]
    omega
  obtain ⟨os, hos, hcs, hds⟩ := id hs
  have hTs : s.TypeIs (.ref sl) "slice" := ⟨os, hos, hcs⟩
  unfold getItem
  try with_reducible refine wpAny_holding ?_
  first | refine wpAny_bind (wpAny_pure ?_) | skip
  refine wpAny_bind (wpAny_sequenceKey ht.typeIs (by decide) ?_)
  refine wpAny_bind (wpAny_callSpecial?_slot (name := Str.ofString "__getitem__") ht.typeIs PyProof.Rows.slot_tuple_getitem
    (wpAny_call_entry PyProof.Rows.slot_tuple_getitem ht.typeIs entry_tuple_getitem ?_ (args_tuple_getitem _ _)))
  show wpAny _ _ (Builtin.Tuple.tupleItemsOf (.ref t) >>= _) _ _ s
  refine wpAny_bind (tupleItemsOf_ ht ?_)
  refine wpAny_bind (wpAny_typeOf hTs ?_)
  rw [if_pos (by decide)]
  refine wpAny_bind (sliceApplied_rev hs pl pu ps ?_)
  have hno : ¬ ((((items.size : Int) - 1) == 0 && (-1 : Int) == 1 && items.size == items.size) = true) := by
    intro q
    rw [Bool.and_eq_true, Bool.and_eq_true] at q
    exact absurd q.1.2 (by decide)
  show wpAny _ _ (if (((items.size : Int) - 1) == 0 && (-1 : Int) == 1 && items.size == items.size) = true then _ else _) _ _ s
  rw [if_neg hno, pick_rev]
  first
    | exact wpAny_bind (m := Builtin.Tuple.tupleExact _) (wpAny_newObj_type (wpAny_pure ⟨_, rfl, wpAny_pure h⟩) htake)
    | exact wpAny_bind (m := Builtin.Tuple.tupleExact _) (wpAny_newObj_type (wpAny_bind (wpAny_pure (wpAny_pure ⟨_, rfl, wpAny_pure h⟩))) htake)
    | exact wpAny_bind (wpAny_bind (m := Builtin.Tuple.tupleExact _) (wpAny_newObj_type (wpAny_pure (wpAny_pure ⟨_, rfl, wpAny_pure h⟩)) htake))
    | exact wpAny_bind (wpAny_bind (m := Builtin.Tuple.tupleExact _) (wpAny_newObj_type (wpAny_pure ⟨_, rfl, wpAny_pure h⟩) htake))
end
open PyProof.Rows in
def tRevLT (K : PySem.W.Frag) (te : TE) : TE := fun σ H Q => te σ H fun x H1 => ∃ a xs, x = .ref a ∧ ((SqL K H1 a xs ∧ ∀ p, H1 p = none → Q (.ref p) (upd H1 p (.lst xs.reverse))) ∨ (SqT K H1 a xs ∧ ∀ p, H1 p = none → Q (.ref p) (upd H1 p (.tup xs.reverse))))
open PyProof.Rows in
theorem pe_revLT {X : Cx} {pos : Pos} {e : Expr} {te : TE} {k : Nat} {p1 p2 p3 : Pos} (he : PE X e te) : PE X (.Subscript e (.Slice none none (some (.UnaryOp .USub (.Constant (.int 1) k p1) p2)) p3) pos) (tRevLT X.K te) := by
  refine ⟨fun pins s σ H Q I h => ?_⟩
  refine Subscript_ (thn (he.run pins s σ H _ I h) fun v s1 ⟨x, H1, I1, r1, q1⟩ => ?_)
  obtain ⟨a, xs, ex, q⟩ := q1
  subst ex
  cases r1
  have hst : PO X (some (.UnaryOp .USub (.Constant (.int 1) k p1) p2)) (tPart (tUn (rU fun i => .int (-i)) (tC (.int 1)))) := po_some (pe_un un_neg pe_int)
  refine wpAny_Slice (thn (po_none.run pins s1 σ H1 (fun o H2 => o = none ∧ H2 = H1) I1 ⟨rfl, rfl⟩) fun vl s2 ⟨l, H2, I2, pl, el, e2⟩ => ?_)
  subst el e2
  refine thn (po_none.run pins s2 σ H2 (fun o H3 => o = none ∧ H3 = H2) I2 ⟨rfl, rfl⟩) fun vu s3 ⟨u, H3, I3, pu, eu, e3⟩ => ?_
  subst eu e3
  refine thn (hst.run pins s3 σ H3 (fun o H4 => o = some (-1) ∧ H4 = H3) I3 ⟨1, rfl, -1, rfl, rfl, rfl⟩) fun vs s4 ⟨o, H4, I4, ps, eo, e4⟩ => ?_
  subst eo e4
  have I5 : Inv X pins σ H4 { s4 with heap := s4.heap.push { cls := .type "slice", data := .fields #[vl, vu, vs] } } := I4.kept (t' := s4.toks) fun b ob q => Heap.get?_push_of_some _ q
  show wpAny (model X.prog X.w) X.A (subscriptTail e (.Slice none none (some (.UnaryOp .USub (.Constant (.int 1) k p1) p2)) p3) (.ref a) (.ref s4.heap.objs.size)) (EP X pins σ Q) X.xe { s4 with heap := s4.heap.push { cls := .type "slice", data := .fields #[vl, vu, vs] } }
  rcases q with ⟨hx, q⟩ | ⟨hx, q⟩
  · obtain ⟨its, r, ht, hz⟩ := I5.list hx
    have hlen := r.length
    refine tail_any (ops := [.ref a, .ref s4.heap.objs.size]) ht.isList.typeIs (PySem.slot_list_getitem.lookup) ?_ (by with_unfolding_all rfl)
    refine wpAny_getItem_list_slice ht.isList (Heap.IsSliceOf.new _ vl vu vs) pl pu ps (by decide) ?_ (by rw [List.size_toArray]; omega)
    rw [PySem.W.krv_pick]
    refine ⟨.ref _, _, I5.laid (t' := s4.toks) (o := .lst xs.reverse) (fun b ob q => Heap.get?_push_of_some _ q) (Nat.le_refl _) ?_, rfl, q _ (I5.hok.fresh (Nat.le_refl _))⟩
    exact ⟨by rw [List.length_reverse]; exact hz, _, 0, r.reverse, Heap.get?_push_size _ rfl⟩
  · obtain ⟨its, r, ht, hz⟩ := I5.tuple hx
    have hlen := r.length
    refine tail_any (ops := [.ref a, .ref s4.heap.objs.size]) ht.typeIs PyProof.Rows.slot_tuple_getitem.lookup ?_ (by with_unfolding_all rfl)
    refine getItem_tuple_rev ht (Heap.IsSliceOf.new _ vl vu vs) pl pu ps ?_ (by rw [List.size_toArray]; omega)
    refine ⟨.ref _, _, I5.laid (t' := s4.toks) (o := .tup xs.reverse) (fun b ob q => Heap.get?_push_of_some _ q) (Nat.le_refl _) ?_, rfl, q _ (I5.hok.fresh (Nat.le_refl _))⟩
    exact ⟨by rw [List.length_reverse]; exact hz, _, r.reverse, PyProof.Rows.IsTup.new _ _⟩
/-! ### forms of a text -/
def NotStar : Expr → Prop
  | .Starred _ _ => False
  | _ => True
theorem star_cons {e : Expr} {es : List Expr} {env : Env} (h : NotStar e) : starEach (e :: es) env = (false, eval e env) :: starEach es env := by
  cases e <;> first | rfl | exact h.elim
def NoStars (es : List Expr) : Prop := ∀ e, e ∈ es → NotStar e
theorem star_any {es : List Expr} {env : Env} {pos : Pos} (h : NoStars es) : (backTo pos (starEach es env)).any (·.1) = false := by
  induction es with
  | nil => rfl
  | cons e es ih =>
    rw [star_cons (h e List.mem_cons_self)]
    show ((false : Bool) || _) = false
    rw [Bool.false_or]
    exact ih fun x hx => h x (List.mem_cons_of_mem _ hx)
/-- a test is the truth of the value -/
def Plain (e : Expr) : Prop := ∀ (env : Env) (whole : Sem Value), isTrue e env whole = (do let v ← whole; standAt e.pos; holding [v] (truthy v))
def NotSet : Expr → Prop
  | .Set _ _ _ => False
  | _ => True
theorem nomark_of {op : CmpOp} {e : Expr} (h : NotSet e) : behindInMarks op e = false := by
  cases e <;> first | rfl | exact h.elim
theorem lastMarks_of {o1 o2 : CmpOp} {a b : Expr} (h : NotSet b) : lastMarks [o1, o2] [a, b] = false := by
  show lastMarks [o2] [b] = false
  exact nomark_of h
def NotSlice : Expr → Prop
  | .Slice _ _ _ _ => False
  | _ => True
theorem plainIx_of {e : Expr} (h : NotSlice e) : PlainIx e := fun o i => by
  cases e <;> first | rfl | exact h.elim

section
variable {X : Cx} {Γ : Gam} {e a b c : Expr} {x xa xb xc : E} {pos : Pos}

/-! ### names, constants -/
theorem se_var {i : Nat} {nm : Str} (hΓ : GamOk Γ) (hN : X.N[i]? = some nm) (hv : Vis X.env.scope nm) (hd : (nm == ("__debug__" : Str)) = false) (hcd : (nm == ("__classdict__" : Str)) = false) : SE X Γ (.Name nm pos) (.var i) := by
  have pv : PE X (.Name nm pos) (tVar i) := pe_var hN hv hd hcd
  have p : PE X (.Name nm pos) (tP X.K (.var i) (w Γ (.var i)).ev) := PE.of pv fun σ H Q q => by
    obtain ⟨G, env, Hv, F, hK, R, ⟨c, e1⟩, q⟩ := q
    obtain ⟨v, h1, h2⟩ := R.sl i c e1
    exact ⟨v, h1, q v H Hv F R h1 (Same.refl _)⟩
  refine ⟨PE.of pv fun σ H Q q => ?_, p, te_of_pk hΓ p rfl fun _ => rfl⟩
  obtain ⟨G, env, Hv, F, hK, R, c, e1, q⟩ := q
  obtain ⟨v, h1, h2⟩ := R.sl i c e1
  obtain ⟨Hv', R', r, s⟩ := R.freeze e1 h1
  exact ⟨v, h1, q v H Hv' F R' ⟨r, fun _ z => nomatch z⟩ s⟩
/-- what is made of the value alone -/
theorem se_of_ev (hΓ : GamOk Γ) (hx : NotVar x) (hw : w Γ x = mkW x (w Γ x).ev) (hp : Plain e) (h : PE X e (tE X.K (w Γ x).ev)) : SE X Γ e x :=
  have p := pk_of_ev hΓ hx h
  ⟨h, p, te_of_pk hΓ p hw (hp X.env)⟩
theorem se_cst {v : V} {d : D} (hΓ : GamOk Γ) (h : PE X e (tC v)) (hr : ∀ K ad H, Rep K ad H v d) (hp : Plain e) : SE X Γ e (.cst d) := by
  refine se_of_ev hΓ trivial rfl hp (PE.of h fun σ H Q q => ?_)
  obtain ⟨G, env, Hv, F, hK, R, q⟩ := q
  exact (show Kont G env σ Hv Q (.sh d) from q).sh R (hr _ _ _)

/-! ### operators -/
/-- two operands, then k -/
theorem two_pk {σ : St} {H : Hp} {W2 : En → Opd → Opd → Gd → Hp → Prop} {R2 : V → V → Hp → Prop} (hΓ : GamOk Γ)
    (q : ∃ G env Hv F, G.K = X.K ∧ Rel G env σ H Hv F ∧ pk xa (w Γ xa).ev env fun oa env1 => pk xb (w Γ xb).ev env1 fun ob env2 => W2 env2 oa ob G Hv)
    (k : ∀ G env2 Hv H2 Hv2 F2 u v oa ob, G.K = X.K → Rel G env2 σ H2 Hv2 F2 → OpdAt G σ Hv2 u oa → OpdAt G σ Hv2 v ob → Same Hv Hv2 → W2 env2 oa ob G Hv → R2 u v H2) :
    tP X.K xa (w Γ xa).ev σ H fun u H1 => tP X.K xb (w Γ xb).ev σ H1 fun v H2 => R2 u v H2 := by
  obtain ⟨G, env, Hv, F, hK, R, q⟩ := q
  refine ⟨G, env, Hv, F, hK, R, pk_mono (w_mo hΓ xa).1 _ _ _ (fun oa env1 q1 u H1 Hv1 F1 R1 hu s1 => ?_) q⟩
  refine ⟨G, env1, Hv1, F1, hK, R1, pk_mono (w_mo hΓ xb).1 _ _ _ (fun ob env2 q2 v H2 Hv2 F2 R2' hv s2 => ?_) q1⟩
  exact k G env2 Hv H2 Hv2 F2 u v oa ob hK R2' (hu.mono s2) hv (s1.trans s2) q2
theorem Kont.later {G : Gd} {env : En} {σ : St} {Hv Hv1 : Hp} {Q : VK} {c : C} (k : Kont G env σ Hv Q c) (s : Same Hv Hv1) : Kont G env σ Hv1 Q c := fun v H' Hv' F' R r s' => k v H' Hv' F' R r (s.trans s')
theorem se_bin {op : Operator} (hΓ : GamOk Γ) (ha : SE X Γ a xa) (hb : SE X Γ b xb) : SE X Γ (.BinOp a op b pos) (.bin op xa xb) := by
  obtain ⟨r, ho, hr⟩ := bin_ok (X := X) op
  refine se_of_ev hΓ trivial rfl (fun _ _ => rfl) (PE.of (pe_op ho ha.pk hb.pk) fun σ H Q q => ?_)
  refine two_pk (W2 := fun env2 oa ob G Hv => ∃ x y, oa.get env2 = some x ∧ ob.get env2 = some y ∧ sBin op x y fun c => Kont G env2 σ Hv Q c) hΓ q ?_
  rintro G env2 Hv H2 Hv2 F2 u v oa ob hK R hu hv s ⟨x, y, h1, h2, h3⟩
  exact hr G env2 σ H2 Hv2 F2 Q u v x y hK R (hu.pk R h1) (hv.pk R h2) (sBin_mono (fun c k => k.later s) h3)
theorem Res.pk {G : Gd} {env : En} {σ : St} {H Hv : Hp} {F : Addr → Prop} {v : V} {c : C} (R : Rel G env σ H Hv F) (r : Res G env σ H Hv F v c) : Pk G.K G.ad H Hv v c.d := r.1.pk R.hs.sub
theorem se_neg (hΓ : GamOk Γ) (ha : SE X Γ a xa) : SE X Γ (.UnaryOp .USub a pos) (.neg xa) := by
  refine se_of_ev hΓ trivial rfl (fun _ _ => rfl) (PE.of (pe_un un_neg ha.ev) fun σ H Q q => ?_)
  obtain ⟨G, env, Hv, F, hK, R, q⟩ := q
  refine ⟨G, env, Hv, F, hK, R, (w_mo hΓ xa).1 _ _ _ (fun c env1 ⟨i, h1, k⟩ v H1 Hv1 F1 R1 r1 s1 => ?_) q⟩
  have p := r1.pk R1
  rw [h1] at p
  exact ⟨i, p.int, (k.later s1).sh R1 (.int _)⟩
theorem se_not (hΓ : GamOk Γ) (ha : SE X Γ a xa) : SE X Γ (.UnaryOp .Not a pos) (.nt xa) := by
  have h : PE X (.UnaryOp .Not a pos) (tE X.K (w Γ (.nt xa)).ev) := PE.of (pe_not ha.ev) fun σ H Q q => by
    obtain ⟨G, env, Hv, F, hK, R, q⟩ := q
    refine ⟨G, env, Hv, F, hK, R, (w_mo hΓ xa).1 _ _ _ (fun c env1 ⟨i, h1, k⟩ v H1 Hv1 F1 R1 r1 s1 => ?_) q⟩
    have p := r1.pk R1
    rw [h1] at p
    exact ⟨i, p.bl, (k.later s1).sh R1 (.bl _)⟩
  refine ⟨h, pk_of_ev hΓ trivial h, PT.of (pt_not ha.te) fun σ H Q q => ?_⟩
  obtain ⟨G, env, Hv, F, hK, R, q⟩ := q
  exact ⟨G, env, Hv, F, hK, R, q⟩
theorem se_cmp {op : CmpOp} (hu : X.A.units + 64 < cLine) (hΓ : GamOk Γ) (ha : SE X Γ a xa) (hb : SE X Γ b xb) (hs : NotSet b) : SE X Γ (.Compare a [op] [b] pos) (.cmp op xa xb) := by
  obtain ⟨r, ho, hr⟩ := cmp_ok (X := X) hu op
  have h : PE X (.Compare a [op] [b] pos) (tE X.K (w Γ (.cmp op xa xb)).ev) := PE.of (pe_cmpR ho ha.pk hb.pk (nomark_of hs)) fun σ H Q q => by
    refine two_pk (W2 := fun env2 oa ob G Hv => ∃ x y, oa.get env2 = some x ∧ ob.get env2 = some y ∧ sCmp op x y fun k => Kont G env2 σ Hv Q (.sh (.bl k))) hΓ q ?_
    rintro G env2 Hv H2 Hv2 F2 u v oa ob hK R hu hv s ⟨x, y, h1, h2, h3⟩
    exact hr G H2 Hv2 Q u v x y hK R.hs.sub (hu.pk R h1) (hv.pk R h2) (sCmp_mono (fun c k => (k.later s).sh R (.bl _)) h3)
  refine ⟨h, pk_of_ev hΓ trivial h, PT.of (pt_cmpR ho ha.pk hb.pk (nomark_of hs)) fun σ H Q q => ?_⟩
  refine two_pk (W2 := fun env2 oa ob G Hv => ∃ x y, oa.get env2 = some x ∧ ob.get env2 = some y ∧ sCmp op x y fun k => ∀ H' Hv' F', Rel G env2 σ H' Hv' F' → Same Hv Hv' → Q k H') hΓ q ?_
  rintro G env2 Hv H2 Hv2 F2 u v oa ob hK R hu hv s ⟨x, y, h1, h2, h3⟩
  exact hr G H2 Hv2 _ u v x y hK R.hs.sub (hu.pk R h1) (hv.pk R h2) (sCmp_mono (fun k q => ⟨k, rfl, q H2 Hv2 F2 R s⟩) h3)
theorem se_chn {o1 o2 : CmpOp} (hu : X.A.units + 64 < cLine) (hΓ : GamOk Γ) (ha : SE X Γ a xa) (hb : SE X Γ b xb) (hc : SE X Γ c xc) (hs : NotSet c) : SE X Γ (.Compare a [o1, o2] [b, c] pos) (.chn o1 o2 xa xb xc) := by
  obtain ⟨r1, ho1, hr1⟩ := cmp_ok (X := X) hu o1
  obtain ⟨r2, ho2, hr2⟩ := cmp_ok (X := X) hu o2
  -- both ways alike: Z what is wanted of the answer
  have core : ∀ (σ : St) (H : Hp) (Q : VK) (G : Gd) (env : En) (Hv : Hp) (F : Addr → Prop), G.K = X.K → Rel G env σ H Hv F →
      ((w Γ xa).ev env fun ca env1 => (w Γ xb).ev env1 fun cb env2 => sCmp o1 ca.d cb.d fun k => if k = true then (w Γ xc).ev env2 fun cc env3 => sCmp o2 cb.d cc.d fun k2 => ∀ H' Hv' F', Rel G env3 σ H' Hv' F' → Same Hv Hv' → Q (.bl k2) H' else ∀ H' Hv' F', Rel G env2 σ H' Hv' F' → Same Hv Hv' → Q (.bl false) H') →
      tChain r1 r2 (tE X.K (w Γ xa).ev) (tE X.K (w Γ xb).ev) (tE X.K (w Γ xc).ev) σ H Q := by
    intro σ H Q G env Hv F hK R q
    refine ⟨G, env, Hv, F, hK, R, (w_mo hΓ xa).1 _ _ _ (fun ca env1 q1 u H1 Hv1 F1 R1 c1 s1 => ?_) q⟩
    obtain ⟨Hw1, R1, p1, t1⟩ := Res.freeze R1 c1
    have s1 := s1.trans t1
    refine ⟨G, env1, Hw1, F1, hK, R1, (w_mo hΓ xb).1 _ _ _ (fun cb env2 q2 v H2 Hv2 F2 R2 c2 s2 => ?_) q1⟩
    obtain ⟨Hw2, R2, p2, t2⟩ := Res.freeze R2 c2
    have s2 := s2.trans t2
    refine hr1 G H2 Hw2 _ u v _ _ hK R2.hs.sub (Pk.of_rep R2.hs.sub (p1.mono s2)) (Pk.of_rep R2.hs.sub p2) (sCmp_mono (fun k z => ?_) q2)
    refine ⟨k, rfl, ?_⟩
    cases k with
    | false => rw [if_neg Bool.false_ne_true] at z ⊢; exact z H2 Hw2 F2 R2 (s1.trans s2)
    | true =>
      rw [if_pos rfl] at z ⊢
      refine ⟨G, env2, Hw2, F2, hK, R2, (w_mo hΓ xc).1 _ _ _ (fun cc env3 q3 w' H3 Hv3 F3 R3 c3 s3 => ?_) z⟩
      exact hr2 G H3 Hv3 _ v w' _ _ hK R3.hs.sub (Pk.of_rep R3.hs.sub (p2.mono s3)) (c3.pk R3) (sCmp_mono (fun k y => y H3 Hv3 F3 R3 ((s1.trans s2).trans s3)) q3)
  have h : PE X (.Compare a [o1, o2] [b, c] pos) (tE X.K (w Γ (.chn o1 o2 xa xb xc)).ev) := PE.of (pe_chain ho1 ho2 ha.ev hb.ev hc.ev (lastMarks_of hs)) fun σ H Q q => by
    obtain ⟨G, env, Hv, F, hK, R, q⟩ := q
    refine core σ H Q G env Hv F hK R ((w_mo hΓ xa).1 _ _ _ (fun ca env1 q1 => (w_mo hΓ xb).1 _ _ _ (fun cb env2 q2 => sCmp_mono (fun k z => ?_) q2) q1) q)
    cases k with
    | false => exact fun H' Hv' F' R' s => (show Kont _ _ _ _ _ _ from z) _ H' Hv' F' R' ⟨.bl _, fun _ z => nomatch z⟩ s
    | true => exact (w_mo hΓ xc).1 _ _ _ (fun cc env3 q3 => sCmp_mono (fun k z H' Hv' F' R' s => (show Kont G env3 σ Hv Q (.sh (.bl k)) from z) _ H' Hv' F' R' ⟨Rep.bl k, fun _ z => nomatch z⟩ s) q3) z
  refine ⟨h, pk_of_ev hΓ trivial h, PT.of (pt_chain ho1 ho2 ha.ev hb.ev hc.ev (lastMarks_of hs)) fun σ H Q q => ?_⟩
  obtain ⟨G, env, Hv, F, hK, R, q⟩ := q
  refine core σ H (fun x H' => ∃ k, x = .bl k ∧ Q k H') G env Hv F hK R ((w_mo hΓ xa).1 _ _ _ (fun ca env1 q1 => (w_mo hΓ xb).1 _ _ _ (fun cb env2 q2 => sCmp_mono (fun k z => ?_) q2) q1) q)
  cases k with
  | false => exact fun H' Hv' F' R' s => ⟨_, rfl, z H' Hv' F' R' s⟩
  | true => exact (w_mo hΓ xc).1 _ _ _ (fun cc env3 q3 => sCmp_mono (fun k z H' Hv' F' R' s => ⟨_, rfl, z H' Hv' F' R' s⟩) q3) z
/-- the truth of a if t else b -/
theorem pt_if {t : TT} {ta tb : TT} (hc : PT X c t) (ha : PT X a ta) (hb : PT X b tb) : PT X (.IfExp c a b pos) (fun σ H Q => t σ H fun k H1 => if k = true then ta σ H1 Q else tb σ H1 Q) := by
  refine ⟨fun pins s σ H Q I h => ?_⟩
  show wpAny (model X.prog X.w) X.A (do
    if ← isTrue c X.env (eval c X.env) then isTrue a X.env (eval a X.env) else isTrue b X.env (eval b X.env)) _ _ s
  refine wpAny_bind (thn (hc.run pins s σ H _ I h) fun k s1 ⟨H1, I1, q1⟩ => ?_)
  cases k with
  | true => exact ha.run pins s1 σ H1 Q I1 q1
  | false => exact hb.run pins s1 σ H1 Q I1 q1
theorem se_ife (hΓ : GamOk Γ) (hc : SE X Γ c xc) (ha : SE X Γ a xa) (hb : SE X Γ b xb) : SE X Γ (.IfExp c a b pos) (.ife xc xa xb) := by
  have h : PE X (.IfExp c a b pos) (tE X.K (w Γ (.ife xc xa xb)).ev) := PE.of (pe_ifExp hc.te ha.ev hb.ev) fun σ H Q q => by
    obtain ⟨G, env, Hv, F, hK, R, q⟩ := q
    refine ⟨G, env, Hv, F, hK, R, (w_mo hΓ xc).2 _ _ _ (fun k env1 z H1 Hv1 F1 R1 s1 => ?_) q⟩
    cases k with
    | true => exact ⟨G, env1, Hv1, F1, hK, R1, (w_mo hΓ xa).1 _ _ _ (fun c env2 k => k.later s1) z⟩
    | false => exact ⟨G, env1, Hv1, F1, hK, R1, (w_mo hΓ xb).1 _ _ _ (fun c env2 k => k.later s1) z⟩
  refine ⟨h, pk_of_ev hΓ trivial h, PT.of (pt_if hc.te ha.te hb.te) fun σ H Q q => ?_⟩
  obtain ⟨G, env, Hv, F, hK, R, q⟩ := q
  refine ⟨G, env, Hv, F, hK, R, (w_mo hΓ xc).2 _ _ _ (fun k env1 z H1 Hv1 F1 R1 s1 => ?_) q⟩
  cases k with
  | true => exact ⟨G, env1, Hv1, F1, hK, R1, (w_mo hΓ xa).2 _ _ _ (fun c env2 k H' Hv' F' R' s => k H' Hv' F' R' (s1.trans s)) z⟩
  | false => exact ⟨G, env1, Hv1, F1, hK, R1, (w_mo hΓ xb).2 _ _ _ (fun c env2 k H' Hv' F' R' s => k H' Hv' F' R' (s1.trans s)) z⟩

/-! ### and, or -/
def opOf (k : Bool) : BoolOp := if k then .And else .Or
/-- a row of and, or: what its value, its truth is -/
structure SB (X : Cx) (Γ : Gam) (e : Expr) (x : E) : Prop where
  ev : PE X e (tE X.K (w Γ x).ev)
  te : PW X e (tT X.K (w Γ x).te)
theorem sb_one {k : Bool} (ha : SE X Γ a xa) : SB X Γ (.BoolOp (opOf k) [a] pos) xa := by
  cases k with
  | true => exact ⟨pe_one ha.ev, pw_and1 ha.te⟩
  | false => exact ⟨pe_one ha.ev, pw_or1 ha.te⟩
theorem sb_cons {k : Bool} {rest : List Expr} {xr : E} (hΓ : GamOk Γ) (ha : SE X Γ a xa) (hr : SB X Γ (.BoolOp (opOf k) (b :: rest) pos) xr) : SB X Γ (.BoolOp (opOf k) (a :: b :: rest) pos) (.bop k xa xr) := by
  cases k with
  | true =>
    refine ⟨PE.of (pe_and ha.ev hr.ev) fun σ H Q q => ?_, PW.of (pw_and ha.te hr.te) fun σ H Q q => ?_⟩
    · obtain ⟨G, env, Hv, F, hK, R, q⟩ := q
      refine ⟨G, env, Hv, F, hK, R, (w_mo hΓ xa).1 _ _ _ (fun c env1 ⟨k, h1, z⟩ v H1 Hv1 F1 R1 r1 s1 => ?_) q⟩
      have p := r1.pk R1
      rw [h1] at p
      refine ⟨k, p.bl, ?_⟩
      cases k with
      | true => exact ⟨G, env1, Hv1, F1, hK, R1, (w_mo hΓ xr).1 _ _ _ (fun c env2 k => k.later s1) z⟩
      | false => exact ((show Kont _ _ _ _ _ _ from z).later s1).sh R1 (.bl _)
    · obtain ⟨G, env, Hv, F, hK, R, q⟩ := q
      refine ⟨G, env, Hv, F, hK, R, (w_mo hΓ xa).2 _ _ _ (fun k env1 z H1 Hv1 F1 R1 s1 => ?_) q⟩
      cases k with
      | true => exact ⟨G, env1, Hv1, F1, hK, R1, (w_mo hΓ xr).2 _ _ _ (fun c env2 k H' Hv' F' R' s => k H' Hv' F' R' (s1.trans s)) z⟩
      | false => exact (show ∀ H' Hv' F', Rel G env1 σ H' Hv' F' → Same Hv Hv' → Q false H' from z) H1 Hv1 F1 R1 s1
  | false =>
    refine ⟨PE.of (pe_or ha.ev hr.ev) fun σ H Q q => ?_, PW.of (pw_or ha.te hr.te) fun σ H Q q => ?_⟩
    · obtain ⟨G, env, Hv, F, hK, R, q⟩ := q
      refine ⟨G, env, Hv, F, hK, R, (w_mo hΓ xa).1 _ _ _ (fun c env1 ⟨k, h1, z⟩ v H1 Hv1 F1 R1 r1 s1 => ?_) q⟩
      have p := r1.pk R1
      rw [h1] at p
      refine ⟨k, p.bl, ?_⟩
      cases k with
      | false => exact ⟨G, env1, Hv1, F1, hK, R1, (w_mo hΓ xr).1 _ _ _ (fun c env2 k => k.later s1) z⟩
      | true => exact ((show Kont _ _ _ _ _ _ from z).later s1).sh R1 (.bl _)
    · obtain ⟨G, env, Hv, F, hK, R, q⟩ := q
      refine ⟨G, env, Hv, F, hK, R, (w_mo hΓ xa).2 _ _ _ (fun k env1 z H1 Hv1 F1 R1 s1 => ?_) q⟩
      cases k with
      | false => exact ⟨G, env1, Hv1, F1, hK, R1, (w_mo hΓ xr).2 _ _ _ (fun c env2 k H' Hv' F' R' s => k H' Hv' F' R' (s1.trans s)) z⟩
      | true => exact (show ∀ H' Hv' F', Rel G env1 σ H' Hv' F' → Same Hv Hv' → Q true H' from z) H1 Hv1 F1 R1 s1
theorem se_bop {k : Bool} {rest : List Expr} {xr : E} (hΓ : GamOk Γ) (h : SB X Γ (.BoolOp (opOf k) (a :: b :: rest) pos) (.bop k xa xr)) : SE X Γ (.BoolOp (opOf k) (a :: b :: rest) pos) (.bop k xa xr) :=
  ⟨h.ev, pk_of_ev hΓ trivial h.ev, h.te.pt⟩

/-! ### rows of arguments, displays -/
theorem sa_nil : PA X [] (tA X.K 0 (wEs Γ .nil)) := PA.of pa_nil fun σ H Q q => by
  obtain ⟨G, env, Hv, F, hK, R, q⟩ := q
  exact q [] H Hv F rfl R .nil (Same.refl _)
theorem sa_cons {n : Nat} {es : List Expr} {xs : Es} (hΓ : GamOk Γ) (ha : SE X Γ a xa) (hr : PA X es (tA X.K n (wEs Γ xs))) (hs : NotStar a) : PA X (a :: es) (tA X.K (n + 1) (wEs Γ (.cons xa xs))) := PA.of (pa_cons ha.ev hr (star_cons hs)) fun σ H Q q => by
  obtain ⟨G, env, Hv, F, hK, R, q⟩ := q
  refine ⟨G, env, Hv, F, hK, R, (w_mo hΓ xa).1 _ _ _ (fun c env1 q1 v H1 Hv1 F1 R1 r1 s1 => ?_) q⟩
  obtain ⟨Hw1, R1, p1, t1⟩ := Res.freeze R1 r1
  refine ⟨G, env1, Hw1, F1, hK, R1, wEs_mo hΓ xs _ _ _ (fun ds env2 q2 vs H2 Hv2 F2 hn R2 r2 s2 => ?_) q1⟩
  exact q2 (v :: vs) H2 Hv2 F2 (congrArg Nat.succ hn) R2 (.cons (p1.mono s2) r2) ((s1.trans t1).trans s2)
theorem sp_nil : PA X [] (tPs X.K (wPs Γ .nil)) := PA.of pa_nil fun σ H Q q => by
  obtain ⟨G, env, Hv, F, hK, R, q⟩ := q
  exact q [] H Hv F R trivial (Same.refl _)
theorem sp_cons {es : List Expr} {xs : Es} (hΓ : GamOk Γ) (ha : SE X Γ a xa) (hr : PA X es (tPs X.K (wPs Γ xs))) (hs : NotStar a) : PA X (a :: es) (tPs X.K (wPs Γ (.cons xa xs))) := PA.of (pa_cons ha.pk hr (star_cons hs)) fun σ H Q q => by
  obtain ⟨G, env, Hv, F, hK, R, q⟩ := q
  have q' : pk xa (w Γ xa).ev env fun o env1 => wPs Γ xs env1 fun os env2 => ∀ vs H' Hv' F', Rel G env2 σ H' Hv' F' → OpdsAt G σ Hv' vs (o :: os) → Same Hv Hv' → Q vs H' := q
  refine ⟨G, env, Hv, F, hK, R, pk_mono (w_mo hΓ xa).1 _ _ _ (fun o env1 q1 v H1 Hv1 F1 R1 r1 s1 => ?_) q'⟩
  refine ⟨G, env1, Hv1, F1, hK, R1, wPs_mo hΓ xs _ _ _ (fun ds env2 q2 vs H2 Hv2 F2 R2 r2 s2 => ?_) q1⟩
  exact q2 (v :: vs) H2 Hv2 F2 R2 ⟨r1.mono s2, r2⟩ (s1.trans s2)
theorem se_tup {es : List Expr} {xs : Es} {n m : Nat} (hΓ : GamOk Γ) (h : PA X es (tA X.K m (wEs Γ xs))) : SE X Γ (.Tuple es n pos) (.tup xs) := by
  refine se_of_ev hΓ trivial rfl (fun _ _ => rfl) (PE.of (pe_tup h) fun σ H Q q => ?_)
  obtain ⟨G, env, Hv, F, hK, R, q⟩ := q
  refine ⟨G, env, Hv, F, hK, R, wEs_mo hΓ xs _ _ _ (fun ds env1 q1 vs H1 Hv1 F1 _ R1 r1 s1 => ⟨by rw [r1.length]; exact q1.1, fun p hp => (q1.2.later s1).newT R1 r1 hp⟩) q⟩
theorem se_lst {es : List Expr} {xs : Es} {m : Nat} (hΓ : GamOk Γ) (h : PA X es (tA X.K m (wEs Γ xs))) : SE X Γ (.List es pos) (.lst xs) := by
  refine se_of_ev hΓ trivial rfl (fun _ _ => rfl) (PE.of (pe_lst h) fun σ H Q q => ?_)
  obtain ⟨G, env, Hv, F, hK, R, q⟩ := q
  refine ⟨G, env, Hv, F, hK, R, wEs_mo hΓ xs _ _ _ (fun ds env1 q1 vs H1 Hv1 F1 _ R1 r1 s1 => ⟨by rw [r1.length]; exact q1.1, fun p hp => (q1.2.later s1).newL R1 r1 hp⟩) q⟩

/-! ### places, slices -/
theorem atI_rep {K : PySem.W.Frag} {ad : Nat → Addr} {H : Hp} {vs : List V} {l : List D} {i : Int} {d : D} (r : RepL K ad H vs l) (e : atI l i = some d) : ∃ v, atI vs i = some v ∧ Rep K ad H v d := by
  unfold atI at e ⊢
  rw [r.length]
  cases h : ixN l.length i with
  | none => rw [h] at e; cases e
  | some j =>
    rw [h] at e
    exact r.get e
theorem se_ix (hΓ : GamOk Γ) (ha : SE X Γ a xa) (hb : SE X Γ b xb) (hs : NotSlice b) : SE X Γ (.Subscript a b pos) (.ix xa xb) := by
  refine se_of_ev hΓ trivial rfl (fun _ _ => rfl) (PE.of (pe_ix ix_seq ha.pk hb.ev (plainIx_of hs)) fun σ H Q q => ?_)
  obtain ⟨G, env, Hv, F, hK, R, q⟩ := q
  have q' : pk xa (w Γ xa).ev env fun oa env1 => (w Γ xb).ev env1 fun ci env2 => ∃ x, oa.get env2 = some x ∧ sIx x ci.d fun d => Kont G env2 σ Hv Q (.sh d) := q
  refine ⟨G, env, Hv, F, hK, R, pk_mono (w_mo hΓ xa).1 _ _ _ (fun oa env1 q1 u H1 Hv1 F1 R1 hu s1 => ?_) q'⟩
  refine ⟨G, env1, Hv1, F1, hK, R1, (w_mo hΓ xb).1 _ _ _ (fun ci env2 ⟨x, h1, h2⟩ v H2 Hv2 F2 R2 r2 s2 => ?_) q1⟩
  have px := (hu.mono s2).pk R2 h1
  have pi := r2.pk R2
  have st := s1.trans s2
  generalize ci.d = di at h2 pi
  cases x <;> cases di <;> first | exact h2.elim | skip
  case lst.int l i =>
    obtain ⟨d, h3, k⟩ := h2
    obtain ⟨p, vs, rfl, e, r⟩ := px.lst
    obtain ⟨v', h4, h5⟩ := atI_rep r h3
    exact .inl ⟨p, vs, i, v', rfl, pi.int, SqL.of e, h4, (k.later st).sh R2 h5⟩
  case tup.int l i =>
    obtain ⟨d, h3, k⟩ := h2
    obtain ⟨p, vs, rfl, e, _, r⟩ := px.tup R2.hs.sub
    obtain ⟨v', h4, h5⟩ := atI_rep r h3
    exact .inr (.inl ⟨p, vs, i, v', rfl, pi.int, SqT.of e, h4, (k.later st).sh R2 h5⟩)
  case str.int z i =>
    obtain ⟨hz, c, h3, k⟩ := h2
    exact .inr (.inr ⟨z, i, c, px.str, pi.int, hz, h3, (k.later st).sh R2 (.str _)⟩)
/-- an end of a slice -/
def tOi (K : PySem.W.Frag) (wo : En → (Option Int → En → Prop) → Prop) : TO := fun σ H Q => ∃ G env Hv F, G.K = K ∧ Rel G env σ H Hv F ∧ wo env fun i env' => ∀ H' Hv' F', Rel G env' σ H' Hv' F' → Same Hv Hv' → Q i H'
theorem PO.of {e : Option Expr} {t t' : TO} (h : PO X e t') (i : ∀ σ H Q, t σ H Q → t' σ H Q) : PO X e t := ⟨fun pins s σ H Q I q => h.run pins s σ H Q I (i σ H Q q)⟩
theorem so_no : PO X none (tOi X.K (wO Γ .no)) := PO.of po_none fun σ H Q q => by
  obtain ⟨G, env, Hv, F, hK, R, q⟩ := q
  exact q H Hv F R (Same.refl _)
theorem so_so (hΓ : GamOk Γ) (ha : SE X Γ a xa) : PO X (some a) (tOi X.K (wO Γ (.so xa))) := PO.of (po_some ha.ev) fun σ H Q q => by
  obtain ⟨G, env, Hv, F, hK, R, q⟩ := q
  refine ⟨G, env, Hv, F, hK, R, (w_mo hΓ xa).1 _ _ _ (fun c env1 ⟨i, h1, k⟩ v H1 Hv1 F1 R1 r1 s1 => ?_) q⟩
  have p := r1.pk R1
  rw [h1] at p
  exact ⟨i, p.int, k H1 Hv1 F1 R1 s1⟩
theorem cut_rep {K : PySem.W.Frag} {ad : Nat → Addr} {H : Hp} {vs : List V} {l : List D} (r : RepL K ad H vs l) (lo hi : Option Int) : RepL K ad H (cutV vs lo hi) (cutD l lo hi) := by
  unfold cutV cutD
  rw [r.length]
  exact (r.drop _).take _
theorem se_sl {lo hi : Option Expr} {xl xh : Oe} {p2 : Pos} (hΓ : GamOk Γ) (ha : SE X Γ a xa) (hl : PO X lo (tOi X.K (wO Γ xl))) (hh : PO X hi (tOi X.K (wO Γ xh))) : SE X Γ (.Subscript a (.Slice lo hi none p2) pos) (.sl xa xl xh) := by
  refine se_of_ev hΓ trivial rfl (fun _ _ => rfl) (PE.of (pe_slice (sl_list.or sl_tupA) ha.pk hl hh) fun σ H Q q => ?_)
  obtain ⟨G, env, Hv, F, hK, R, q⟩ := q
  have q' : pk xa (w Γ xa).ev env fun oa env1 => wO Γ xl env1 fun l env2 => wO Γ xh env2 fun h env3 => ∃ x, oa.get env3 = some x ∧ sSl x l h fun c => Kont G env3 σ Hv Q c := q
  refine ⟨G, env, Hv, F, hK, R, pk_mono (w_mo hΓ xa).1 _ _ _ (fun oa env1 q1 u H1 Hv1 F1 R1 hu s1 => ?_) q'⟩
  refine ⟨G, env1, Hv1, F1, hK, R1, wO_mo hΓ xl _ _ _ (fun l env2 q2 H2 Hv2 F2 R2 s2 => ?_) q1⟩
  refine ⟨G, env2, Hv2, F2, hK, R2, wO_mo hΓ xh _ _ _ (fun h env3 ⟨x, h1, h2⟩ H3 Hv3 F3 R3 s3 => ?_) q2⟩
  have px := (hu.mono (s2.trans s3)).pk R3 h1
  have st := s1.trans (s2.trans s3)
  cases x <;> first | exact (show False from h2).elim | skip
  case lst m =>
    obtain ⟨p, vs, rfl, e, r⟩ := px.lst
    have k : Kont G env3 σ Hv Q (.ow (.lst (cutD m l h))) := h2
    exact .inl ⟨p, vs, rfl, SqL.of e, fun p2 hp => (k.later st).newL R3 (cut_rep r l h) hp⟩
  case tup m =>
    obtain ⟨p, vs, rfl, e, e2, r⟩ := px.tup R3.hs.sub
    have k : Kont G env3 σ Hv Q (.sh (.tup (cutD m l h))) := h2
    refine .inr ⟨p, vs, rfl, SqT.of e, fun hw => ?_, fun _ p2 hp => (k.later st).newT R3 (cut_rep r l h) hp⟩
    refine (k.later st).sh R3 (.tup e2 ?_)
    have z : cutV vs l h = vs := by
      unfold cutV
      rw [hw.1, hw.2]
      simp
    rw [← z]
    exact cut_rep r l h
theorem se_rv {k : Nat} {p1 p2 p3 : Pos} (hΓ : GamOk Γ) (ha : SE X Γ a xa) : SE X Γ (.Subscript a (.Slice none none (some (.UnaryOp .USub (.Constant (.int 1) k p1) p2)) p3) pos) (.rv xa) := by
  refine se_of_ev hΓ trivial rfl (fun _ _ => rfl) (PE.of (pe_revLT ha.pk) fun σ H Q q => ?_)
  obtain ⟨G, env, Hv, F, hK, R, q⟩ := q
  have q' : pk xa (w Γ xa).ev env fun oa env1 => ∃ x, oa.get env1 = some x ∧ sRv x fun c => Kont G env1 σ Hv Q c := q
  refine ⟨G, env, Hv, F, hK, R, pk_mono (w_mo hΓ xa).1 _ _ _ (fun oa env1 ⟨x, h1, k⟩ u H1 Hv1 F1 R1 hu s1 => ?_) q'⟩
  have px := hu.pk R1 h1
  cases x <;> first | exact (show False from k).elim | skip
  case lst m =>
    obtain ⟨p, vs, rfl, e, r⟩ := px.lst
    exact ⟨p, vs, rfl, .inl ⟨SqL.of e, fun p2 hp => ((show Kont G env1 σ Hv Q _ from k).later s1).newL R1 r.reverse hp⟩⟩
  case tup m =>
    obtain ⟨p, vs, rfl, e, e2, r⟩ := px.tup R1.hs.sub
    exact ⟨p, vs, rfl, .inr ⟨SqT.of e, fun p2 hp => ((show Kont G env1 σ Hv Q _ from k).later s1).newT R1 r.reverse hp⟩⟩
end
end B

namespace B
open PySem PySem.Spec L2

/-! ### defs and their promises, where nothing is being written out (no repr under way) -/
structure FnG (P : Program) (w : World) (K : PySem.W.Frag) (mg : Str → Option Value) (base : Heap) (k : Nat) (f : Addr) (fd : FuncData) (ps : List Str) (sp : Sp) : Prop where
  len : ∀ vs H Q E, sp vs H Q E → vs.length = ps.length
  run : ∀ (A : Around) (outer : List Env) (s : Shared) (H : Hp) (args : Args) (us : List Value) (vs : List V) (Q : VK) (E : XK), Room k A → A.guards = some [] → Env0 P w K mg base A outer s H → BindsTo s fd args (ps.zip us) → Vals vs us → sp vs H Q E →
    codeAny (model P w) A (.call (.ref f) args) (CR CX0 outer P w H s Q E) s
theorem FnG.of_ok {P : Program} {w : World} {K : PySem.W.Frag} {mg : Str → Option Value} {base : Heap} {k : Nat} {f : Addr} {fd : FuncData} {ps : List Str} {sp : Sp} (F : FnOk P w K mg base CX0 k f fd ps sp) : FnG P w K mg base k f fd ps sp :=
  ⟨F.len, fun A outer s H args us vs Q E hr _ he hb hv hs => F.run A outer s H args us vs Q E hr he hb hv hs⟩
theorem FnG.imp {P : Program} {w : World} {K : PySem.W.Frag} {mg : Str → Option Value} {base : Heap} {k : Nat} {f : Addr} {fd : FuncData} {ps : List Str} {sp sp' : Sp} (F : FnG P w K mg base k f fd ps sp) (h : ∀ vs H Q E, sp' vs H Q E → sp vs H Q E) : FnG P w K mg base k f fd ps sp' :=
  ⟨fun vs H Q E q => F.len vs H Q E (h _ _ _ _ q), fun A outer s H args us vs Q E hr hg he hb hv hs => F.run A outer s H args us vs Q E hr hg he hb hv (h _ _ _ _ hs)⟩
/-- what a def says by value -/
def spD (K : PySem.W.Frag) (n : Nat) (S : Spec) : Sp := fun vs H Q _ => ∃ G Hv F ds, G.K = K ∧ HS G H Hv F ∧ RepL G.K G.ad Hv vs ds ∧ ds.length = n ∧
  S ds fun c => ∀ v H' Hv' F', HS (G.at_ H Hv F) H' Hv' F' → RC (G.at_ H Hv F) H' Hv' F' v c → Q v H'
theorem run_G {X : Cx} {k : Nat} {f : Addr} {fd : FuncData} {ps : List Str} {sp : Sp} {pins : List (Addr × Obj)} {σ : St} {H : Hp} {s : Shared} {Q : VK} {E : XK} {us us' : List Value} {kw : List (Str × Value)} {vs : List V} (F : FnG X.prog X.w X.K X.mg X.base k f fd ps sp) (hr : Room k X.A) (hg : X.A.guards = some [])
    (I : Inv X pins σ H s) (hb : BindsTo s fd ⟨us, kw⟩ (ps.zip us')) (r : Vals vs us') (h : sp vs H Q E) : wpAny (model X.prog X.w) X.A (call (.ref f) us kw) (EP X pins σ Q) X.xe s := by
  refine wpAny_call (codeAny_mono (F.run X.A X.stack s H ⟨us, kw⟩ us' vs Q E hr hg I.env0 hb r h) fun res s' hq => ?_)
  cases res with
  | error e => exact (show False from hq).elim
  | ok fl =>
    cases fl with
    | ret u => exact I.after hq
    | next => exact (show False from hq).elim
    | brk => exact (show False from hq).elim
    | cont => exact (show False from hq).elim
/-- a call's end -/
theorem after_call {G : Gd} {env : En} {σ : St} {H Hv H' Hv' : Hp} {F F' : Addr → Prop} {Q : VK} {c : C} {v : V} (R : Rel G env σ H Hv F) (k : Kont G env σ Hv Q c) (h : HS (G.at_ H Hv F) H' Hv' F') (r : RC (G.at_ H Hv F) H' Hv' F' v c) : Q v H' := by
  refine k v H' Hv' F' (R.step h) ⟨?_, ?_⟩ h.old
  · cases c with
    | sh d => exact r
    | ow d =>
      obtain ⟨a, rfl, ⟨n1, n2, n3⟩, o1⟩ := r
      refine ⟨a, rfl, ⟨n1, n2, ?_⟩, o1.mono rfl rfl rfl (Same.refl _)⟩
      cases e : G.T a with
      | none => rfl
      | some o =>
        obtain ⟨q1, q2, q3⟩ := R.hs.tmp a o e
        have n3' : hid H Hv F a = none := n3
        rw [hid_some q2 q3 q1] at n3'
        cases n3'
  · rintro d rfl i e hi hs
    obtain ⟨a, rfl, ⟨n1, n2, n3⟩, o1⟩ := r
    obtain ⟨v, h1, h2⟩ := R.sl i _ hi
    rw [hs] at h1
    cases h1
    obtain ⟨b, eb, ⟨m1, m2, m3⟩, o2⟩ := h2
    cases eb
    obtain ⟨o, eo⟩ := o2.obj
    have n3' : hid H Hv F a = none := n3
    rw [hid_some m1 m2 eo] at n3'
    cases n3'

/-- the values in the parameters' order -/
def perm {α : Type} (p : List Nat) (l : List α) : List α := p.filterMap (l[·]?)
theorem perm_rep {K : PySem.W.Frag} {ad : Nat → Addr} {H : Hp} {vs : List V} {ds : List D} (r : RepL K ad H vs ds) : ∀ p : List Nat, RepL K ad H (perm p vs) (perm p ds)
  | [] => .nil
  | i :: p => by
    unfold perm
    rw [List.filterMap_cons, List.filterMap_cons]
    cases e : ds[i]? with
    | none =>
      have : vs[i]? = none := by rw [List.getElem?_eq_none_iff] at e ⊢; rw [r.length]; exact e
      rw [this]
      exact perm_rep r p
    | some d =>
      obtain ⟨v, h1, h2⟩ := r.get e
      rw [h1]
      exact .cons h2 (perm_rep r p)
theorem perm_vals {vs : List V} {us : List Value} (r : Vals vs us) : ∀ p : List Nat, Vals (perm p vs) (perm p us)
  | [] => .nil
  | i :: p => by
    unfold perm
    rw [List.filterMap_cons, List.filterMap_cons]
    cases e : vs[i]? with
    | none =>
      rw [r.none_of e]
      exact perm_vals r p
    | some d =>
      obtain ⟨v, h1, h2⟩ := r.get e
      rw [h1]
      exact .cons h2 (perm_vals r p)
/-- a name x called with n positional values and the keywords ks says S of the values as they are written -/
structure Fact (P : Program) (w : World) (K : PySem.W.Frag) (mg : Str → Option Value) (base : Heap) (A : Around) (x : Str) (np : Nat) (ks : List Str) (S : Spec) : Prop where
  ex : ∃ (k : Nat) (f : Addr) (fd : FuncData) (ps : List Str) (n : Nat) (p : List Nat) (S' : Spec), FnG P w K mg base k f fd ps (spD K n S') ∧ Room k A ∧ mg x = some (.ref f) ∧ PySem.W.keepIn K (.ref f) = true ∧
    (∀ (s : Shared) (us ws : List Value), K.In s.heap → us.length = np → ws.length = ks.length → BindsTo s fd ⟨us, ks.zip ws⟩ (ps.zip (perm p (us ++ ws)))) ∧
    ∀ ds Q, S ds Q → (perm p ds).length = n ∧ S' (perm p ds) Q
  db : (x == ("__debug__" : Str)) = false

def Es.app : Es → Es → Es
  | .nil, ys => ys
  | .cons e r, ys => .cons e (r.app ys)
theorem wEs_app {Γ : Gam} (hΓ : GamOk Γ) : ∀ (xs ys : Es) (env : En) (Q : List D → En → Prop), wEs Γ (xs.app ys) env Q → wEs Γ xs env fun ds env1 => wEs Γ ys env1 fun es env2 => Q (ds ++ es) env2
  | .nil, ys, env, Q, q => q
  | .cons e r, ys, env, Q, q => (w_mo hΓ e).1 _ _ _ (fun c env1 z => wEs_app hΓ r ys env1 (fun ds env2 => Q (c.d :: ds) env2) z) q

section
variable {X : Cx} {Γ : Gam} {e a b c : Expr} {x xa xb xc : E} {pos : Pos}
theorem PK.of {ks : List Keyword} {t t' : TA} (h : PK X ks t') (i : ∀ σ H Q, t σ H Q → t' σ H Q) : PK X ks t := ⟨fun p pins s σ H Q I q => h.run p pins s σ H Q I (i σ H Q q)⟩
theorem sk_nil : PK X [] (tA X.K 0 (wEs Γ .nil)) := PK.of pk_nil fun σ H Q q => by
  obtain ⟨G, env, Hv, F, hK, R, q⟩ := q
  exact q [] H Hv F rfl R .nil (Same.refl _)
theorem sk_cons {n : Nat} {ks : List Keyword} {xs : Es} {nm : Option Str} {kp : Pos} (hΓ : GamOk Γ) (ha : SE X Γ a xa) (hr : PK X ks (tA X.K n (wEs Γ xs))) : PK X (⟨nm, a, kp⟩ :: ks) (tA X.K (n + 1) (wEs Γ (.cons xa xs))) := PK.of (pk_cons ha.ev hr) fun σ H Q q => by
  obtain ⟨G, env, Hv, F, hK, R, q⟩ := q
  refine ⟨G, env, Hv, F, hK, R, (w_mo hΓ xa).1 _ _ _ (fun c env1 q1 v H1 Hv1 F1 R1 r1 s1 => ?_) q⟩
  obtain ⟨Hw1, R1, p1, t1⟩ := Res.freeze R1 r1
  refine ⟨G, env1, Hw1, F1, hK, R1, wEs_mo hΓ xs _ _ _ (fun ds env2 q2 vs H2 Hv2 F2 hn R2 r2 s2 => ?_) q1⟩
  exact q2 (v :: vs) H2 Hv2 F2 (congrArg Nat.succ hn) R2 (.cons (p1.mono s2) r2) ((s1.trans t1).trans s2)
def kwNames : List Keyword → Option (List Str)
  | [] => some []
  | ⟨some n, _, _⟩ :: r => (kwNames r).map (n :: ·)
  | ⟨none, _, _⟩ :: _ => none
theorem kw_forms {env : Env} {pos : Pos} : ∀ {kws : List Keyword} {ks : List Str}, kwNames kws = some ks →
    (backToKw pos (keywordEach kws env)).all (·.1.isSome) = true ∧ (backToKw pos (keywordEach kws env)).filterMap (·.1) = ks ∧ (backToKw pos (keywordEach kws env)).any (·.1.isNone) = false
  | [], _, h => by cases h; exact ⟨rfl, rfl, rfl⟩
  | ⟨some n, v, p⟩ :: r, ks, h => by
    unfold kwNames at h
    cases e : kwNames r with
    | none => rw [e] at h; cases h
    | some l =>
      rw [e] at h
      cases h
      obtain ⟨h1, h2, h3⟩ := kw_forms (env := env) (pos := pos) e
      refine ⟨?_, ?_, ?_⟩
      · show (true && _) = true
        rw [Bool.true_and]; exact h1
      · show n :: _ = _
        congr 1
      · show (false || _) = false
        rw [Bool.false_or]; exact h3
  | ⟨none, _, _⟩ :: _, _, h => by cases h
theorem kw_len : ∀ {kws : List Keyword} {ks : List Str}, kwNames kws = some ks → kws.length = ks.length
  | [], _, h => by cases h; rfl
  | ⟨some n, v, p⟩ :: r, ks, h => by
    unfold kwNames at h
    cases e : kwNames r with
    | none => rw [e] at h; cases h
    | some l =>
      rw [e] at h
      cases h
      exact congrArg Nat.succ (kw_len e)
  | ⟨none, _, _⟩ :: _, _, h => by cases h
/-- f(..) of a def of the text, with keywords or without -/
theorem se_call {nm : Str} {p : Pos} {n : Nat} {es : List Expr} {kws : List Keyword} {ks : List Str} {xs ys : Es} (hΓ : GamOk Γ) (hf : Fact X.prog X.w X.K X.mg X.base X.A nm es.length ks (Γ n)) (hg : X.A.guards = some []) (hgl : Gl X nm)
    (hk : kwNames kws = some ks) (hes : NoStars es) (hnil : es = [] → xs = .nil) (ha : PA X es (tA X.K es.length (wEs Γ xs))) (hkw : PK X kws (tA X.K kws.length (wEs Γ ys))) : SE X Γ (.Call (.Name nm p) es kws pos) (.call n (xs.app ys)) := by
  obtain ⟨k, f, fd, ps, m, pm, S', FG, hr, hm, hkp, hb, hS⟩ := hf.ex
  obtain ⟨hall, hks, hnone⟩ := kw_forms (env := X.env) (pos := pos) hk
  refine se_of_ev hΓ trivial rfl (fun _ _ => rfl) ⟨fun pins s σ H Q I q => ?_⟩
  obtain ⟨G, env, Hv, F, hK, R, q⟩ := q
  have q1 : wEs Γ (xs.app ys) env fun ds env1 => Γ n ds fun c => Kont G env1 σ Hv Q c := q
  have q2 := wEs_app hΓ xs ys env _ q1
  refine wpAny_Call_Name_kw (ld_glob I hgl hm ?_ hf.db)
  have tail : ∀ {s1 : Shared} {env1 : En} {H1 Hv1 : Hp} {F1 : Addr → Prop} {vs : List V} {us : List Value} {ds : List D}, Inv X pins σ H1 s1 → Vals vs us → vs.length = es.length → Rel G env1 σ H1 Hv1 F1 → RepL G.K G.ad Hv1 vs ds → Same Hv Hv1 →
      wEs Γ ys env1 (fun es env2 => Γ n (ds ++ es) fun c => Kont G env2 σ Hv Q c) →
      wpAny (model X.prog X.w) X.A (evalAll ((backToKw pos (keywordEach kws X.env)).map (·.2))) (fun ws s2 => X.K.In s2.heap ∧ wpAny (model X.prog X.w) X.A (call (.ref f) us (((backToKw pos (keywordEach kws X.env)).filterMap (·.1)).zip ws)) (EP X pins σ Q) X.xe s2) X.xe s1 := by
    intro s1 env1 H1 Hv1 F1 vs us ds I1 r hl1 R1 rd st z
    refine thn (hkw.run pos pins s1 σ H1 (fun zs H2 => ∃ env2 Hv2 F2 es, zs.length = kws.length ∧ Rel G env2 σ H2 Hv2 F2 ∧ RepL G.K G.ad Hv2 zs es ∧ Same Hv1 Hv2 ∧ Γ n (ds ++ es) fun c => Kont G env2 σ Hv Q c) I1
      ⟨G, env1, Hv1, F1, hK, R1, wEs_mo hΓ ys _ _ _ (fun es env2 z2 zs H2 Hv2 F2 hn R2 re s2' => ⟨env2, Hv2, F2, es, hn, R2, re, s2', z2⟩) z⟩) fun ws s2 ⟨zs, H2, I2, rz, env2, Hv2, F2, es, hl, R2, re, s2', z2⟩ => ⟨I2.kIn, ?_⟩
    rw [hks]
    have rr := perm_rep ((rd.mono s2').append re) pm
    have rv := perm_vals (r.append rz) pm
    obtain ⟨hn, z3⟩ := hS _ _ (hΓ n _ _ (fun c => ∀ v H' Hv' F', HS (G.at_ H2 Hv2 F2) H' Hv' F' → RC (G.at_ H2 Hv2 F2) H' Hv' F' v c → Q v H') (fun c (kc : Kont G env2 σ Hv Q c) v H' Hv' F' h1 h2 => after_call R2 (kc.later (st.trans s2')) h1 h2) z2)
    exact run_G (E := E0) FG hr hg I2 (hb s2 us ws I2.kIn (by rw [← r.length]; exact hl1) (by rw [← rz.length, hl]; exact kw_len hk)) rv ⟨G, Hv2, F2, _, hK, R2.hs, rr, hn, z3⟩
  cases es with
  | nil =>
    refine PySem.W.callWith_KW0 (h₀ := X.base) I.ok.mod.kin hkp hall ?_ hnone
    obtain rfl := hnil rfl
    have t := tail (vs := []) (us := []) (ds := []) I .nil rfl R .nil (Same.refl _) q2
    exact t
  | cons e es =>
    have hs := hes e List.mem_cons_self
    refine PySem.W.callWith_KW (h₀ := X.base) I.ok.mod.kin hkp hall (thn (ha.run pos pins s σ H (fun vs H1 => ∃ env1 Hv1 F1 ds, vs.length = (e :: es).length ∧ Rel G env1 σ H1 Hv1 F1 ∧ RepL G.K G.ad Hv1 vs ds ∧ Same Hv Hv1 ∧ wEs Γ ys env1 fun es env2 => Γ n (ds ++ es) fun c => Kont G env2 σ Hv Q c) I
      ⟨G, env, Hv, F, hK, R, wEs_mo hΓ xs _ _ _ (fun ds env1 z vs H1 Hv1 F1 hn R1 rd st => ⟨env1, Hv1, F1, ds, hn, R1, rd, st, z⟩) q2⟩) fun us s1 ⟨vs, H1, I1, r, env1, Hv1, F1, ds, hn, R1, rd, st, z⟩ => tail I1 r hn R1 rd st z) ?_ (star_cons hs)
    rw [star_any hes, hnone]
    rfl
end
end B

namespace B
open PySem PySem.Spec L2
section
variable {X : Cx} {Γ : Gam} {e a b c : Expr} {x xa xb xc : E} {pos : Pos}

theorem PkL.ds1 {K : PySem.W.Frag} {ad : Nat → Addr} {H Hv : Hp} {v : V} : ∀ {ds : List D}, PkL K ad H Hv [v] ds → ∃ d, ds = [d]
  | [], h => h.elim
  | [d], _ => ⟨d, rfl⟩
  | _ :: _ :: _, h => h.2.elim
theorem PkL.ds2 {K : PySem.W.Frag} {ad : Nat → Addr} {H Hv : Hp} {v u : V} : ∀ {ds : List D}, PkL K ad H Hv [v, u] ds → ∃ d e, ds = [d, e]
  | [], h => h.elim
  | [_], h => h.2.elim
  | [d, e], _ => ⟨d, e, rfl⟩
  | _ :: _ :: _ :: _, h => h.2.2.elim
theorem bi_boot {f : Bi} {nm : Str} {val : Value} (hf : biOf f = some (nm, val)) : (f = .gcd ∨ bootBuiltins nm = some val) ∧ nm ≠ "__name__" ∧ (nm == ("__debug__" : Str)) = false := by
  cases f <;> first | (cases hf; done) | (cases hf; exact ⟨.inr (by decide +kernel), by decide +kernel, by decide +kernel⟩) | (cases hf; exact ⟨.inl rfl, by decide +kernel, by decide +kernel⟩)
theorem se_bi {f : Bi} {nm : Str} {val : Value} {p : Pos} {es : List Expr} {xs : Es} (hΓ : GamOk Γ) (hc : X.calm = true) (hg : X.A.guards = some []) (hu : X.A.units + 64 < cLine) (hf : biOf f = some (nm, val)) (hgl : Gl X nm)
    (hm : if f = .gcd then X.mg nm = some val else X.mg nm = none) (hes : NoStars (e :: es)) (h : PA X (e :: es) (tPs X.K (wPs Γ xs))) : SE X Γ (.Call (.Name nm p) (e :: es) [] pos) (.bi f xs) := by
  obtain ⟨r, hr, ho⟩ := bi_ok (X := X) hc hg hu f nm val hf
  obtain ⟨hb, hn, hdb⟩ := bi_boot hf
  have hs := star_cons (env := X.env) (es := es) (hes e List.mem_cons_self)
  have hpl : (backTo pos (starEach es X.env)).any (·.1) = false := star_any fun x hx => hes x (List.mem_cons_of_mem _ hx)
  have pe : PE X (.Call (.Name nm p) (e :: es) [] pos) (tCB r (tPs X.K (wPs Γ xs))) := by
    by_cases hgc : f = .gcd
    · rw [if_pos hgc] at hm
      subst hgc
      cases hf
      exact pe_callBfun hr hgl hm h hdb hs hpl
    · rw [if_neg hgc] at hm
      have hb2 := hb.resolve_left hgc
      clear hb
      cases f <;> first
        | (cases hf; done)
        | exact absurd rfl hgc
        | (cases hf; exact pe_callTy hr hgl hm hb2 h hn hdb hs hpl)
        | (cases hf; exact pe_callB hr hgl hm hb2 h hn hdb hs hpl)
  refine se_of_ev hΓ trivial rfl (fun _ _ => rfl) (PE.of pe fun σ H Q q => ?_)
  obtain ⟨G, env, Hv, F, hK, R, q⟩ := q
  refine ⟨G, env, Hv, F, hK, R, wPs_mo hΓ xs _ _ _ (fun os env1 ⟨ds, h1, h2⟩ vs H1 Hv1 F1 R1 ro s1 => ?_) q⟩
  exact ho G env1 σ H1 Hv1 F1 Q vs ds hK R1 (ro.pk R1 h1) (sBi_mono (fun c k => k.later s1) h2)

theorem se_reprB {p : Pos} {es : List Expr} {xs : Es} (hΓ : GamOk Γ) (hg : X.A.guards = some []) (hu : X.A.units + 64 < cLine) (hd : digB X.K = true) (hgl : Gl X "repr") (hm : X.mg "repr" = none) (hes : NoStars (e :: es)) (h : PA X (e :: es) (tPs X.K (wPs Γ xs))) :
    SE X Γ (.Call (.Name "repr" p) (e :: es) [] pos) (.bi .reprB xs) := by
  have hs := star_cons (env := X.env) (es := es) (hes e List.mem_cons_self)
  have hpl : (backTo pos (starEach es X.env)).any (·.1) = false := star_any fun x hx => hes x (List.mem_cons_of_mem _ hx)
  have pe : PE X (.Call (.Name "repr" p) (e :: es) [] pos) (tCB (rReprB X.K) (tPs X.K (wPs Γ xs))) := pe_callB (call_reprB hg hu hd) hgl hm (by decide +kernel) h (by decide +kernel) (by decide +kernel) hs hpl
  refine se_of_ev hΓ trivial rfl (fun _ _ => rfl) (PE.of pe fun σ H Q q => ?_)
  obtain ⟨G, env, Hv, F, hK, R, q⟩ := q
  refine ⟨G, env, Hv, F, hK, R, wPs_mo hΓ xs _ _ _ (fun os env1 ⟨ds, h1, h2⟩ vs H1 Hv1 F1 R1 ro s1 => ?_) q⟩
  exact bi_okB G env1 σ H1 Hv1 F1 Q vs ds hK R1 (ro.pk R1 h1) (sBi_mono (fun c k => k.later s1) h2)

/-- sorted(set(..)) -/
theorem se_sset {p p2 q2 : Pos} (hΓ : GamOk Γ) (hc : X.calm = true) (hgl : Gl X "sorted") (hm : X.mg "sorted" = none) (hgs : Gl X "set") (hms : X.mg "set" = none) (hs : NotStar a) (ha : SE X Γ a xa) :
    SE X Γ (.Call (.Name "sorted" p) [.Call (.Name "set" p2) [a] [] q2] [] pos) (.bi .sset (.cons xa .nil)) := by
  have hst := star_cons (env := X.env) (es := []) hs
  have inner := pe_callTy (pos := q2) (p := p2) (cr_setQ hc) hgs hms (by decide +kernel) (pa_cons ha.pk pa_nil hst) (by decide) (by decide) hst rfl
  refine se_of_ev hΓ trivial rfl (fun _ _ => rfl) (PE.of (pe_callB (cr_srtQ hc) hgl hm (by decide +kernel) (pa_cons inner pa_nil)) fun σ H Q q => ?_)
  obtain ⟨G, env, Hv, F, hK, R, q⟩ := q
  have q' : pk xa (w Γ xa).ev env fun o env1 => ∃ ds, gets env1 [o] = some ds ∧ sBi .sset ds fun c => Kont G env1 σ Hv Q c := q
  refine ⟨G, env, Hv, F, hK, R, pk_mono (w_mo hΓ xa).1 _ _ _ (fun o env1 ⟨ds, h1, h2⟩ v H1 Hv1 F1 R1 ro s1 => ?_) q'⟩
  have hp := OpdsAt.pk (vs := [v]) (os := [o]) R1 ⟨ro, trivial⟩ h1
  have fin : ∀ (a : Addr) (ns : List Int), v = .ref a → ((SqL X.K H1 a (ns.map V.int) ∧ Few ns) ∨ (SqT X.K H1 a (ns.map V.int) ∧ ns.length ≤ 4000)) → (∀ ms : List Int, ms.Pairwise (· < ·) → (∀ k, k ∈ ms ↔ k ∈ ns) → Kont G env1 σ Hv Q (.ow (.lst (ms.map D.int)))) → rSetQ X.K X.w [v] H1 fun x H2 => rSrtQ X.w [x] H2 Q := by
    intro a ns hv hq k
    refine ⟨a, ns, by rw [hv], hq, fun s n hn => ⟨s, _, n, rfl, upd_same, fun ms p i1 i2 hp2 => ?_⟩⟩
    exact ((k ms i1 fun x => by rw [i2 x, decide_eq_true_eq]).later s1).newL (R1.new hn) (RepL.of_ints ms) hp2
  obtain ⟨d, rfl⟩ := hp.ds1
  cases d <;> first | exact (show False from h2).elim | skip
  case lst l =>
    obtain ⟨ns, rfl, hl, k⟩ := (h2 : sset _ _)
    obtain ⟨a, ws, hv, e, r⟩ := hp.1.lst
    obtain rfl := r.ints
    exact fin a ns hv (.inl ⟨by rw [← hK]; exact SqL.of e, hl⟩) k
  case tup l =>
    obtain ⟨ns, rfl, hl, k⟩ := (h2 : ssetT _ _)
    obtain ⟨a, ws, hv, e, e2, r⟩ := hp.1.tup R1.hs.sub
    obtain rfl := r.ints
    exact fin a ns hv (.inr ⟨by rw [← hK]; exact SqT.of e, hl⟩) k
/-! ### list(range(..)), tuple(range(..)) -/
theorem rg_rep {K : PySem.W.Frag} {ad : Nat → Addr} {H : Hp} (a b : Int) : RepL K ad H (rgV a b) ((List.range (b - a).toNat).map fun (k : Nat) => D.int (a + k)) := by
  unfold rgV
  generalize List.range (b - a).toNat = l
  induction l with
  | nil => exact .nil
  | cons n l ih => exact .cons (.int _) ih
theorem rg_zero (n : Int) : ((List.range (n - 0).toNat).map fun (k : Nat) => D.int (0 + k)) = (List.range n.toNat).map fun (k : Nat) => D.int k := by simp
theorem se_lrg1 {p p2 q2 : Pos} (hΓ : GamOk Γ) (hc : X.calm = true) (hgl : Gl X "list") (hm : X.mg "list" = none) (hgr : Gl X "range") (hmr : X.mg "range" = none) (hs : NotStar a) (ha : SE X Γ a xa) :
    SE X Γ (.Call (.Name "list" p) [.Call (.Name "range" p2) [a] [] q2] [] pos) (.bi .lrg1 (.cons xa .nil)) := by
  refine se_of_ev hΓ trivial rfl (fun _ _ => rfl) (PE.of (pe_listRg hc hgl hm (prg_1 hgr hmr ha.pk (star_cons hs)) rfl) fun σ H Q q => ?_)
  obtain ⟨G, env, Hv, F, hK, R, q⟩ := q
  have q' : pk xa (w Γ xa).ev env fun o env1 => ∃ ds, gets env1 [o] = some ds ∧ sBi .lrg1 ds fun c => Kont G env1 σ Hv Q c := q
  refine ⟨G, env, Hv, F, hK, R, pk_mono (w_mo hΓ xa).1 _ _ _ (fun o env1 ⟨ds, h1, h2⟩ v H1 Hv1 F1 R1 ro s1 => ?_) q'⟩
  have hp := OpdsAt.pk (vs := [v]) (os := [o]) R1 ⟨ro, trivial⟩ h1
  obtain ⟨d, rfl⟩ := hp.ds1
  cases d <;> first | exact (show False from h2).elim | skip
  case int n =>
    have hv := hp.1.int
    refine ⟨n, hv, h2.1, fun q hq => ?_⟩
    have k : Kont G env1 σ Hv Q (.ow (.lst ((List.range n.toNat).map fun (k : Nat) => D.int k))) := h2.2
    rw [← rg_zero] at k
    exact (k.later s1).newL R1 (rg_rep 0 n) hq
theorem se_lrg2 {p p2 q2 : Pos} (hΓ : GamOk Γ) (hc : X.calm = true) (hgl : Gl X "list") (hm : X.mg "list" = none) (hgr : Gl X "range") (hmr : X.mg "range" = none) (hs : NotStar a) (hs2 : NotStar b) (ha : SE X Γ a xa) (hb : SE X Γ b xb) :
    SE X Γ (.Call (.Name "list" p) [.Call (.Name "range" p2) [a, b] [] q2] [] pos) (.bi .lrg2 (.cons xa (.cons xb .nil))) := by
  refine se_of_ev hΓ trivial rfl (fun _ _ => rfl) (PE.of (pe_listRg hc hgl hm (prg_2 hgr hmr ha.pk hb.pk (star_cons hs) (star_cons hs2) (by rw [star_cons hs2]; rfl)) rfl) fun σ H Q q => ?_)
  refine two_pk (W2 := fun env2 oa ob G Hv => ∃ ds, gets env2 [oa, ob] = some ds ∧ sBi .lrg2 ds fun c => Kont G env2 σ Hv Q c) hΓ q ?_
  rintro G env2 Hv H2 Hv2 F2 u v oa ob hK R hu hv s ⟨ds, h1, h2⟩
  have hp := OpdsAt.pk (vs := [u, v]) (os := [oa, ob]) R ⟨hu, hv, trivial⟩ h1
  obtain ⟨d, e, rfl⟩ := hp.ds2
  cases d <;> first | exact (show False from h2).elim | skip
  cases e <;> first | exact (show False from h2).elim | skip
  case int.int n m =>
    refine ⟨n, m, hp.1.int, hp.2.1.int, h2.1, fun q hq => ?_⟩
    exact ((show Kont G env2 σ Hv Q _ from h2.2).later s).newL R (rg_rep n m) hq
theorem se_trg1 {p p2 q2 : Pos} (hΓ : GamOk Γ) (hc : X.calm = true) (hgl : Gl X "tuple") (hm : X.mg "tuple" = none) (hgr : Gl X "range") (hmr : X.mg "range" = none) (hs : NotStar a) (ha : SE X Γ a xa) :
    SE X Γ (.Call (.Name "tuple" p) [.Call (.Name "range" p2) [a] [] q2] [] pos) (.bi .trg1 (.cons xa .nil)) := by
  refine se_of_ev hΓ trivial rfl (fun _ _ => rfl) (PE.of (pe_tupRg hc hgl hm (prg_1 hgr hmr ha.pk (star_cons hs)) rfl) fun σ H Q q => ?_)
  obtain ⟨G, env, Hv, F, hK, R, q⟩ := q
  have q' : pk xa (w Γ xa).ev env fun o env1 => ∃ ds, gets env1 [o] = some ds ∧ sBi .trg1 ds fun c => Kont G env1 σ Hv Q c := q
  refine ⟨G, env, Hv, F, hK, R, pk_mono (w_mo hΓ xa).1 _ _ _ (fun o env1 ⟨ds, h1, h2⟩ v H1 Hv1 F1 R1 ro s1 => ?_) q'⟩
  have hp := OpdsAt.pk (vs := [v]) (os := [o]) R1 ⟨ro, trivial⟩ h1
  obtain ⟨d, rfl⟩ := hp.ds1
  cases d <;> first | exact (show False from h2).elim | skip
  case int n =>
    have hv := hp.1.int
    refine ⟨n, hv, h2.1, fun q hq => ?_⟩
    have k : Kont G env1 σ Hv Q (.sh (.tup ((List.range n.toNat).map fun (k : Nat) => D.int k))) := h2.2
    rw [← rg_zero] at k
    exact (k.later s1).newT R1 (rg_rep 0 n) hq
theorem se_trg2 {p p2 q2 : Pos} (hΓ : GamOk Γ) (hc : X.calm = true) (hgl : Gl X "tuple") (hm : X.mg "tuple" = none) (hgr : Gl X "range") (hmr : X.mg "range" = none) (hs : NotStar a) (hs2 : NotStar b) (ha : SE X Γ a xa) (hb : SE X Γ b xb) :
    SE X Γ (.Call (.Name "tuple" p) [.Call (.Name "range" p2) [a, b] [] q2] [] pos) (.bi .trg2 (.cons xa (.cons xb .nil))) := by
  refine se_of_ev hΓ trivial rfl (fun _ _ => rfl) (PE.of (pe_tupRg hc hgl hm (prg_2 hgr hmr ha.pk hb.pk (star_cons hs) (star_cons hs2) (by rw [star_cons hs2]; rfl)) rfl) fun σ H Q q => ?_)
  refine two_pk (W2 := fun env2 oa ob G Hv => ∃ ds, gets env2 [oa, ob] = some ds ∧ sBi .trg2 ds fun c => Kont G env2 σ Hv Q c) hΓ q ?_
  rintro G env2 Hv H2 Hv2 F2 u v oa ob hK R hu hv s ⟨ds, h1, h2⟩
  have hp := OpdsAt.pk (vs := [u, v]) (os := [oa, ob]) R ⟨hu, hv, trivial⟩ h1
  obtain ⟨d, e, rfl⟩ := hp.ds2
  cases d <;> first | exact (show False from h2).elim | skip
  cases e <;> first | exact (show False from h2).elim | skip
  case int.int n m =>
    refine ⟨n, m, hp.1.int, hp.2.1.int, h2.1, fun q hq => ?_⟩
    exact ((show Kont G env2 σ Hv Q _ from h2.2).later s).newT R (rg_rep n m) hq

/-! ### isinstance -/
def tyNames : List String := ["int", "bool", "str", "tuple", "list", "dict"]
theorem ty_boot {ty : String} (h : ty ∈ tyNames) : bootBuiltins (ty : Str) = some (.type ty) ∧ (ty : Str) ≠ "__name__" ∧ ((ty : Str) == ("__debug__" : Str)) = false := by
  simp only [tyNames, List.mem_cons, List.not_mem_nil, or_false] at h
  rcases h with rfl | rfl | rfl | rfl | rfl | rfl <;> exact ⟨by decide +kernel, by decide +kernel, by decide +kernel⟩
theorem tyX_of {K : PySem.W.Frag} {ad : Nat → Addr} {H : Hp} {v : V} {d : D} {ty : String} {k : Bool} (r : Rep K ad H v d) (h : isTy d ty = some k) : ∃ t, TyX K H v (.type t) ∧ kitB t ty = some k := by
  cases r with
  | non => exact ⟨_, .base .non, h⟩
  | bl b => exact ⟨_, .base (.bl b), h⟩
  | int i => exact ⟨_, .base (.int i), h⟩
  | str z => exact ⟨_, .base (.str z), h⟩
  | tup e _ => exact ⟨_, .base (.tup e), h⟩
  | lst e _ => exact ⟨_, .base (.lst e), h⟩
  | dic e _ =>
    rcases e with e | ⟨o, e⟩
    · exact ⟨_, .base (.dK e), h⟩
    · exact ⟨_, .fDict e, h⟩
  | hd n => cases h
theorem se_isi {p p2 : Pos} {ty : String} (hΓ : GamOk Γ) (hgl : Gl X "isinstance") (hm : X.mg "isinstance" = none) (hty : ty ∈ tyNames) (hgt : Gl X (ty : Str)) (hmt : X.mg (ty : Str) = none) (hs : NotStar a) (ha : SE X Γ a xa) :
    SE X Γ (.Call (.Name "isinstance" p) [a, .Name (ty : Str) p2] [] pos) (.isi xa ty) := by
  obtain ⟨hb, hn, hdb⟩ := ty_boot hty
  have pt : PE X (.Name (ty : Str) p2) (tC (.ty ty)) := pe_bltn hgt hmt hb rfl hn hdb
  refine se_of_ev hΓ trivial rfl (fun _ _ => rfl) (PE.of (pe_callB call_isi hgl hm (by decide +kernel) (pa_cons ha.pk (pa_cons pt pa_nil rfl) (star_cons hs)) (by decide +kernel) (by decide +kernel) (star_cons hs) rfl) fun σ H Q q => ?_)
  obtain ⟨G, env, Hv, F, hK, R, q⟩ := q
  have q' : pk xa (w Γ xa).ev env fun o env1 => ∃ d b, o.get env1 = some d ∧ isTy d ty = some b ∧ Kont G env1 σ Hv Q (.sh (.bl b)) := q
  refine ⟨G, env, Hv, F, hK, R, pk_mono (w_mo hΓ xa).1 _ _ _ (fun o env1 ⟨d, k, h1, h2, h3⟩ v H1 Hv1 F1 R1 ro s1 => ?_) q'⟩
  obtain ⟨t, h4, h5⟩ := tyX_of ((ro.pk R1 h1).rep R1.hs.sub) h2
  rw [hK] at h4
  exact ⟨v, .ty ty, _, _, k, rfl, .ty ty, h4, kit_ty h5, (h3.later s1).sh R1 (.bl _)⟩

/-! ### a list of one's own changed -/
theorem Rel.mut {G : Gd} {env : En} {σ : St} {H Hv : Hp} {F : Addr → Prop} {i : Nat} {l m : List D} (R : Rel G env σ H Hv F) (e : env[i]? = some (some (.ow (.lst l)))) :
    ∃ p vs, σ[i]? = some (some (.ref p)) ∧ H p = some (.lst vs) ∧ RepL G.K G.ad Hv vs l ∧ ∀ ws, RepL G.K G.ad Hv ws m → Rel G (env.set i (some (.ow (.lst m)))) σ (upd H p (.lst ws)) Hv F := by
  obtain ⟨v, h1, h2⟩ := R.sl i _ e
  obtain ⟨p, rfl, ⟨n1, n2, n3⟩, vs, ep, r⟩ := h2
  refine ⟨p, vs, h1, ep, r, fun ws rw' => ?_⟩
  have hi := set_self (c' := some (C.ow (.lst m))) e
  refine ⟨R.hs.put n1 n2 n3, by rw [List.length_set]; exact R.len, fun j c ej => ?_, fun j k d1 d2 u hne ej ek sj sk => ?_⟩
  · by_cases hj : i = j
    · subst hj
      rw [hi] at ej
      cases ej
      exact ⟨_, h1, p, rfl, ⟨n1, n2, n3⟩, ws, upd_same, rw'⟩
    · rw [get_set_ne hj] at ej
      obtain ⟨u, h3, h4⟩ := R.sl j c ej
      refine ⟨u, h3, ?_⟩
      cases c with
      | sh d => exact h4
      | ow d =>
        obtain ⟨q, rfl, n, o2⟩ := h4
        have hne : q ≠ p := fun z => R.ap i j _ d (.ref p) hj e ej h1 (by rw [← z]; exact h3)
        exact ⟨q, rfl, n, o2.mono rfl rfl (upd_ne hne) (Same.refl _)⟩
  · by_cases hj : i = j
    · subst hj
      have hk : i ≠ k := hne
      rw [get_set_ne hk] at ek
      exact R.ap i k _ d2 u hne e ek sj sk
    · rw [get_set_ne hj] at ej
      by_cases hk : i = k
      · subst hk
        exact R.ap j i d1 _ u hne ej e sj sk
      · rw [get_set_ne hk] at ek
        exact R.ap j k d1 d2 u hne ej ek sj sk
theorem apart_set {env : En} {σ : St} {v : V} {i : Nat} {l m : List D} (e : env[i]? = some (some (.ow (.lst l)))) (h : Apart env σ v) : Apart (env.set i (some (.ow (.lst m)))) σ v := fun j d ej => by
  by_cases hj : i = j
  · subst hj
    exact h i _ e
  · rw [get_set_ne hj] at ej
    exact h j d ej
theorem tyV_list {K : PySem.W.Frag} {H : Hp} {p : Addr} {vs : List V} (h : H p = some (.lst vs)) : tyV K "list" (.ref p) H := .inl ⟨rfl, vs, SqL.of h⟩
theorem attr_base {nm at_ : Str} {p : Pos} {env : Env} : attributeBase (.Name nm p) at_ env (eval (.Name nm p) env) = eval (.Name nm p) env := rfl
theorem se_pop {i : Nat} {nm : Str} {p ap : Pos} (hΓ : GamOk Γ) (pv : PE X (.Name nm p) (tVar i)) (hl : (ap.endLine == pos.line) = true) : SE X Γ (.Call (.Attribute (.Name nm p) "pop" ap) [] [] pos) (.pop i) := by
  refine se_of_ev hΓ trivial rfl (fun _ _ => rfl) (PE.of (pe_bm0 PySem.F.plainAttrs_list PySem.F.slot_list_pop PySem.F.type_list_pop mt_pop pv rfl hl) fun σ H Q q => ?_)
  obtain ⟨G, env, Hv, F, hK, R, l, d, e, h1, k⟩ := q
  obtain ⟨q, vs, s1, hq, r, mk⟩ := R.mut (m := l.dropLast) e
  obtain ⟨v, h2, h3⟩ := r.get h1
  rw [← r.length] at h2
  exact ⟨_, s1, tyV_list hq, q, vs, v, rfl, rfl, hq, h2, (show Kont G _ σ Hv Q _ from k).sh (mk _ r.dropLast) h3⟩
theorem se_popA {i : Nat} {nm : Str} {p ap : Pos} (hΓ : GamOk Γ) (pv : PE X (.Name nm p) (tVar i)) (hl : (ap.endLine == pos.line) = true) (hs : NotStar a) (ha : SE X Γ a xa) : SE X Γ (.Call (.Attribute (.Name nm p) "pop" ap) [a] [] pos) (.popA i xa) := by
  have hst := star_cons (env := X.env) (es := []) hs
  refine se_of_ev hΓ trivial rfl (fun _ _ => rfl) (PE.of (pe_bm PySem.F.plainAttrs_list PySem.F.slot_list_pop PySem.F.type_list_pop mt_popAt pv (pa_cons ha.ev pa_nil hst) rfl (by rw [hst]; rfl) hl hst rfl) fun σ H Q q => ?_)
  obtain ⟨G, env, Hv, F, hK, R, ⟨l0, e0⟩, q⟩ := q
  obtain ⟨p0, vs0, s0, hp0, _, _⟩ := R.mut (m := l0) e0
  refine ⟨_, s0, tyV_list hp0, G, env, Hv, F, hK, R, (w_mo hΓ xa).1 _ _ _ (fun c env1 ⟨l, k, j, d, h1, e, h3, h4, h5, h6, kk⟩ v H1 Hv1 F1 R1 r1 s1 => ?_) q⟩
  obtain ⟨q1, vs, s2, hq, r, mk⟩ := R1.mut (m := l.eraseIdx j) e
  rw [s0] at s2
  cases s2
  have pv := r1.pk R1
  rw [h1] at pv
  obtain ⟨u, h7, h8⟩ := r.get h6
  exact ⟨_, vs, k, j, u, rfl, by rw [pv.int], hq, h3, h4, by rw [r.length]; exact h5, h7, ((show Kont G _ σ Hv Q _ from kk).later s1).sh (mk _ (r.eraseIdx j)) h8⟩
end
end B

namespace B
open PySem PySem.Spec L2

/-! ### enumerate over a tuple -/
set_option maxHeartbeats 8000000 in
theorem meets_enumT {v : Value} {ob : Obj} {Z : Heap → Prop} (bg : Begins v ob Z) :
    Meets (Builtin.«enumerate.__new__» ⟨[.type "enumerate", v], []⟩) (fun _ Re st => Z st.heap ∧
      Re (.ok (.ret (.ref (st.heap.push ob).objs.size))) { st with heap := (st.heap.push ob).push { cls := .type "enumerate", data := .fields #[.none, .bool false, .ref st.heap.objs.size, rawInt 0, .none, .none] } }) := by
  refine .of_wp fun pr wo Ar Re st hh => ?_
  obtain ⟨hp, g, d, tk, os⟩ := st
  obtain ⟨hz, hk⟩ := hh
  have sb := PySem.sub_enumerate
  have it1 : ∀ {A' : Around} {E : Value → Shared → Prop} {Q : Value → Shared → Prop}, Q (.ref hp.objs.size) ⟨hp.push ob, g, d, tk, os⟩ → wpAny (model pr wo) A' (pyIter v) Q E ⟨hp, g, d, tk, os⟩ := fun q => bg.iter pr wo _ _ ⟨hp, g, d, tk, os⟩ _ hz q
  wp_walk using it1
  refine wpAny_stack_any fun sk => wpAny_pure ?_
  split
  · rename_i cc _ _ _ _ _
    cases (cc == Value.type "enumerate") <;> (wp_walk using it1; exact ⟨_, rfl, hk⟩)
  · wp_walk using it1
    exact ⟨_, rfl, hk⟩
theorem call_enumT {P : Program} {w : World} {A : Around} {E : Value → Shared → Prop} {s : Shared} {v : Value} {ob : Obj} {Z : Heap → Prop} {Q : Value → Shared → Prop} (bg : Begins v ob Z) (hz : Z s.heap)
    (k : ∀ h', IsEnum h' (s.heap.objs.size + 1) s.heap.objs.size 0 .none → h'.get? s.heap.objs.size = some ob → (∀ b o, s.heap.get? b = some o → h'.get? b = some o) → Q (.ref (s.heap.objs.size + 1)) { s with heap := h' }) :
    wpAny (model P w) A (call (.type "enumerate") [v]) Q E s := by
  refine callType_new F.called_enumerate (by decide) (F.typeCall_enumerate_1 _) (F.newCall_enumerate_1 _) (fun o => F.args_object_init_2 o _) F.entry_enumerate_new (meets_enumT bg) ⟨hz, ?_⟩
  have e1 : (s.heap.push ob).objs.size = s.heap.objs.size + 1 := Heap.size_push ..
  have e2 : ((s.heap.push ob).push { cls := .type "enumerate", data := .fields #[.none, .bool false, .ref s.heap.objs.size, rawInt 0, .none, .none] }).get? (s.heap.objs.size + 1) = some { cls := .type "enumerate", data := .fields #[.none, .bool false, .ref s.heap.objs.size, rawInt 0, .none, .none] } := by
    have z := Heap.get?_push_size (s.heap.push ob) (o := { cls := .type "enumerate", data := .fields #[.none, .bool false, .ref s.heap.objs.size, rawInt 0, .none, .none] }) rfl
    rw [e1] at z
    exact z
  show (_ ∧ _)
  rw [e1]
  exact ⟨⟨_, e2, rfl⟩, k _ e2 (Heap.get?_push_of_some _ (Heap.get?_push_size _ bg.free)) fun b o x => Heap.get?_push_of_some _ (Heap.get?_push_of_some _ x)⟩
/-- the tuple at a, each item in a new pair with its place -/
def IteT (K : PySem.W.Frag) (a : Addr) : L2.It where
  go i H := ∃ (xs : List V) (x : V), SqT K H a xs ∧ xs[i]? = some x
  yld i H v H' := ∃ T x, v = .ref T ∧ H T = none ∧ H' = upd H T (.tup [.int (i : Nat), x]) ∧ ∀ xs, SqT K H a xs → xs[i]? = some x
  stop i H := ∃ xs : List V, SqT K H a xs ∧ xs.length = i
theorem turn_enumT {P : Program} {w : World} {K : PySem.W.Frag} {elts : List Expr} {kk : Nat} {tp : Pos} (a e it : Addr) :
    Turn P w K (.Tuple elts kk tp) (IteT K a) [e, it] e (fun i h => (∃ old, IsEnum h e it ((i : Nat) : Int) old) ∧ h.IsTupleIter it a i) := by
  have two : ∀ {b : Addr}, b ∈ [e, it] → b = e ∨ b = it := fun hb => by simpa using hb
  refine ⟨by simp, fun i h ⟨⟨old, he⟩, ⟨o, ho, hc, hd⟩⟩ b hb => ?_, fun i h h' ⟨⟨old, he⟩, ht⟩ k => ⟨⟨old, k e (by simp) _ he⟩, ht.at fun o q => k it (by simp) o q⟩, ?_, ?_, fun A i s Q E ⟨⟨_, he⟩, _⟩ k => wpAny_pyIter_enum he k⟩
  · rcases two hb with rfl | rfl
    · exact ⟨_, he, fun v q => nomatch q⟩
    · exact ⟨o, ho, fun v q => by rw [hd] at q; cases q⟩
  · intro X hP hw hK hc i pins s σ H E I hf ⟨⟨old, he⟩, ht⟩ ⟨xs, x, hq, hx⟩
    subst hP hw hK
    obtain ⟨its, rv, p, _⟩ := I.tuple hq
    obtain ⟨u, hu, ru⟩ := rv.get hx
    have pt : s.heap.IsTuple a its.toArray := p
    obtain ⟨oi, hoi, hci, hdi⟩ := ht
    obtain ⟨oa, hoa, hca, _⟩ := pt
    have hne : e ≠ it := fun z => by subst z; rw [he] at hoi; cases hoi; exact absurd (Value.type.inj hci) (by decide)
    have hea : e ≠ a := fun z => by subst z; rw [he] at hoa; cases hoa; exact absurd (Value.type.inj hca) (by decide)
    have hia : a ≠ it := fun z => by subst z; rw [hoi] at hoa; cases hoa; rw [hci] at hca; exact absurd (Value.type.inj hca) (by decide)
    have hi : i < its.toArray.size := by
      have := (List.getElem?_eq_some_iff.mp hu).1
      simpa using this
    refine wpAny_pyNext_enum_itemC (PySem.Draws.tuple (A := X.A.in1) (I.ok.hd hc) it a hia its.toArray) he ⟨⟨oi, hoi, hci, hdi⟩, p⟩ hi hne (by simp [hne, hea]) fun y h' tk hy ho st hT hsz hk => ⟨_, rfl, ?_⟩
    have hy2 : u = y := by
      have e1 : its.toArray[i]? = some u := by simpa using hu
      have e2 : its.toArray[i]? = some y := hy
      rw [e1] at e2
      exact Option.some.inj e2
    subst hy2
    have le : e < s.heap.objs.size := Heap.lt_size he
    have li : it < s.heap.objs.size := Heap.lt_size hoi
    refine wpAny_letOwnedTupleGo_enum (s := { s with heap := h', toks := tk + 1 }) ho fun h2 he2 sb => ?_
    have T2 : h2.get? s.heap.objs.size = some { cls := .type "tuple", data := .seq #[.int i tk, u] } := (sb.2 _ (Nat.ne_of_gt le)).trans hT
    have new : ObjOk X.prog X.w (upd H s.heap.objs.size (.tup [.int (i : Nat), x])) h2 s.heap.objs.size (.tup [.int (i : Nat), x]) := by
      refine ⟨show 2 ≤ sizeLine by decide, [.int i tk, u], .cons ⟨_, rfl⟩ (.cons ru .nil), _, T2, rfl, _, rfl⟩
    have I1 : Inv X pins σ (upd H s.heap.objs.size (.tup [.int (i : Nat), x])) { s with heap := h2, toks := tk + 1 } := by
      refine I.turnedNew (ch := [e, it]) (fun b ob hb q => ?_) hf (Nat.le_refl _) new
      exact (sb.2 b fun z => hb (by simp [z])).trans (hk b ob (fun z => hb (by simp [z])) (fun z => hb (by simp [z])) q)
    refine ⟨.ref s.heap.objs.size, _, I1, rfl, ⟨_, x, rfl, I.hok.fresh (Nat.le_refl _), rfl, fun ys hys => by rw [I.tuple_inj hys hq]; exact hx⟩, ⟨⟨u, ?_⟩, st.1.at fun o q => (sb.2 it (Ne.symm hne)).trans q⟩, fun b hb => ?_⟩
    · have e1 : ((i + 1 : Nat) : Int) = (i : Int) + 1 := by omega
      rw [e1]
      exact he2
    · have hb' : b < s.heap.objs.size := by rcases two hb with rfl | rfl <;> assumption
      rw [upd_ne (Nat.ne_of_lt hb')]
      exact (hf b hb).1
  · intro X hP hw hK hc i pins s σ H E I hf ⟨⟨old, he⟩, ht⟩ ⟨xs, hq, hx⟩
    subst hP hw hK
    obtain ⟨its, rv, p, _⟩ := I.tuple hq
    have hl := rv.length
    obtain ⟨f0, f1, f2, f3, f4, f5⟩ := hf it (by simp)
    have pt : s.heap.IsTuple a its.toArray := p
    obtain ⟨oi, hoi, hci, hdi⟩ := ht
    obtain ⟨oa, hoa, hca, _⟩ := pt
    have hia : a ≠ it := fun z => by subst z; rw [hoi] at hoa; cases hoa; rw [hci] at hca; exact absurd (Value.type.inj hca) (by decide)
    have hn : its.toArray.size = i := by simp; omega
    refine wpAny_pyNext_enum_endD (PySem.Draws.tuple (A := X.A.in1) (I.ok.hd hc) it a hia its.toArray) he ⟨by rw [hn]; exact ⟨oi, hoi, hci, hdi⟩, p⟩ fun h' eb => ⟨rfl, I.turned (t' := s.toks) (fun b o hb q => eb b o hb q) f0 f1 f3 f4 f5⟩
theorem pi_enumT {X : Cx} {e : Expr} {ta : TA} {p pos tp : Pos} {elts : List Expr} {kk : Nat} (hg : Gl X "enumerate") (hm : X.mg "enumerate" = none) (ha : PA X [e] ta) (hs : starEach [e] X.env = [(false, eval e X.env)]) :
    PI X (.Tuple elts kk tp) (.Call (.Name "enumerate" p) [e] [] pos) (fun σ H R => ta σ H fun vs H1 => ∃ a xs, vs = [.ref a] ∧ ((SqL X.K H1 a xs ∧ R (Ite X.K a) H1) ∨ (SqT X.K H1 a xs ∧ R (IteT X.K a) H1))) := by
  refine ⟨fun pins s σ H R I h => ?_⟩
  refine PyProof.Rows.Call_ (ld_blt I hg hm PyProof.Rows.boot_enumerate (PyProof.Rows.callWith_type1 (thn (ha.run pos pins s σ H _ I h) fun us s1 ⟨vs, H1, I1, r1, q1⟩ => ?_) hs rfl))
  obtain ⟨a, xs, rfl, q⟩ := q1
  obtain ⟨u, rfl, ru⟩ := vals1 r1
  cases ru
  have fresh : ∀ b ∈ [s1.heap.objs.size + 1, s1.heap.objs.size], FpOk X pins H1 b := fun b hb => by
    have hle : s1.heap.objs.size ≤ b := by
      simp only [List.mem_cons, List.not_mem_nil, or_false] at hb
      rcases hb with rfl | rfl
      · exact Nat.le_add_right _ _
      · exact Nat.le_refl _
    exact I1.fpOk hle (I1.hok.fresh hle)
  rcases q with ⟨hq, q⟩ | ⟨hq, q⟩
  · obtain ⟨its, rv, pl, _⟩ := I1.list hq
    refine call_enumerate_list pl.isList fun h' he hit hsz hk => wpAny_pyIter_enum he ⟨_, _, _, _, H1, rfl, I1.kept (t' := s1.toks) hk, turn_enum a (s1.heap.objs.size + 1) s1.heap.objs.size, ⟨⟨.none, he⟩, hit, Nat.succ_ne_self _⟩, fresh, q⟩
  · obtain ⟨its, rv, pl, _⟩ := I1.tuple hq
    refine call_enumT (begins_tuple a its.toArray) pl fun h' he hit hk => wpAny_pyIter_enum he ⟨_, _, _, _, H1, rfl, I1.kept (t' := s1.toks) hk, turn_enumT a (s1.heap.objs.size + 1) s1.heap.objs.size, ⟨⟨.none, he⟩, _, hit, rfl, rfl⟩, fresh, q⟩
end B

namespace B
open PySem PySem.Spec L2

/-! ### targets -/
def T.len : T → Nat
  | .cons _ r => r.len + 1
  | _ => 0
/-- a tuple or a list of that length -/
def gSeq (K : PySem.W.Frag) (n : Nat) (t : TGs) : TG := fun v σ H Q => gTup K n t v σ H Q ∨ gLst K n t v σ H Q
theorem pg_seq {X : Cx} {es : List Expr} {k n : Nat} {t : TGs} {pos : Pos} (hc : X.calm = true) (h : PGs X es t) (hn : (assignEach es X.env).length = n) (hst : (assignEach es X.env).findIdx? (·.1) = none) : PG X (.Tuple es k pos) (gSeq X.K n t) :=
  ⟨fun pins s σ H v u Q I r hw => hw.elim (fun a => (pg_tup hc h hn hst).run pins s σ H v u Q I r a) fun a => (pg_lst hc h hn hst).run pins s σ H v u Q I r a⟩
mutual
def gOf (K : PySem.W.Frag) : T → TG
  | .nm i => gName i
  | .nil => gSeq K 0 gNil
  | .cons t r => gSeq K (r.len + 1) (gCons (gOf K t) (gOfs K r))
def gOfs (K : PySem.W.Frag) : T → TGs
  | .nm _ => fun _ _ _ _ => False
  | .nil => gNil
  | .cons t r => gCons (gOf K t) (gOfs K r)
end
/-- the slots of a target -/
def T.vars : T → List Nat
  | .nm i => [i]
  | .nil => []
  | .cons t r => t.vars ++ r.vars
/-- a row of targets ends well -/
def T.isRow : T → Bool
  | .nm _ => false
  | .nil => true
  | .cons _ r => r.isRow
def T.ok : T → Bool
  | .nm _ => true
  | .nil => true
  | .cons t r => t.ok && r.ok && r.isRow
theorem Rel.asg {G : Gd} {env : En} {σ : St} {H Hv : Hp} {F : Addr → Prop} {v : V} {c : C} {i : Nat} (R : Rel G env σ H Hv F) (r : Res G env σ H Hv F v c) : Rel G (env.set i (some c)) (σ.set i (some v)) H Hv F := by
  refine ⟨R.hs, by rw [List.length_set, List.length_set]; exact R.len, fun j d e => ?_, fun j k d1 d2 u hne ej ek sj sk => ?_⟩
  · by_cases hj : i = j
    · subst hj
      by_cases hl : i < env.length
      · rw [List.getElem?_set_self hl] at e
        cases e
        exact ⟨v, List.getElem?_set_self (by rw [← R.len]; exact hl), r.1⟩
      · rw [List.getElem?_eq_none (by rw [List.length_set]; omega)] at e
        cases e
    · rw [List.getElem?_set_ne hj] at e ⊢
      exact R.sl j d e
  · have lt : ∀ {j : Nat} {d : D}, (env.set i (some c))[j]? = some (some (.ow d)) → j < env.length := fun {j d} e => by
      have := (List.getElem?_eq_some_iff.mp e).1
      rwa [List.length_set] at this
    by_cases hj : i = j
    · subst hj
      have hk : i ≠ k := hne
      have hl := lt ej
      rw [List.getElem?_set_self hl] at ej
      rw [List.getElem?_set_self (by rw [← R.len]; exact hl)] at sj
      rw [List.getElem?_set_ne hk] at ek sk
      cases ej
      cases sj
      exact r.2 d1 rfl k d2 ek sk
    · rw [List.getElem?_set_ne hj] at ej sj
      by_cases hk : i = k
      · subst hk
        have hl := lt ek
        rw [List.getElem?_set_self hl] at ek
        rw [List.getElem?_set_self (by rw [← R.len]; exact hl)] at sk
        cases ek
        cases sk
        exact r.2 d2 rfl j d1 ej sj
      · rw [List.getElem?_set_ne hk] at ek sk
        exact R.ap j k d1 d2 u hne ej ek sj sk
theorem Res.sh {G : Gd} {env : En} {σ : St} {H Hv : Hp} {F : Addr → Prop} {v : V} {d : D} (h : Rep G.K G.ad Hv v d) : Res G env σ H Hv F v (.sh d) := ⟨h, fun _ z => nomatch z⟩
theorem wipe_set {σ : St} {i : Nat} {x : Option V} {own : List Nat} (h : i ∈ own) : wipe (σ.set i x) own = wipe σ own := by
  induction own with
  | nil => cases h
  | cons j own ih =>
    unfold wipe
    by_cases hj : i = j
    · subst hj
      by_cases hi : i ∈ own
      · rw [ih hi]
      · have : ∀ own : List Nat, i ∉ own → wipe (σ.set i x) own = (wipe σ own).set i x := by
          intro own
          induction own with
          | nil => intro _; rfl
          | cons k own ih2 =>
            intro hk
            unfold wipe
            rw [ih2 fun z => hk (List.mem_cons_of_mem _ z)]
            exact List.set_comm _ _ fun z => hk (by rw [z]; exact List.mem_cons_self)
        rw [this own hi, List.set_set]
    · rw [ih ((List.mem_cons.mp h).resolve_left hj)]
mutual
/-- a value goes to a target -/
theorem gOf_ok {G : Gd} {H Hv : Hp} {F : Addr → Prop} : ∀ (t : T) {env : En} {σ : St} {v : V} {c : C} {W : En → Prop} {Q : St → Hp → Prop} {own : List Nat}, Rel G env σ H Hv F → Res G env σ H Hv F v c → wTg t c env W → (∀ i ∈ t.vars, i ∈ own ∨ own = []) →
    (∀ env' σ', Rel G env' σ' H Hv F → W env' → (own ≠ [] → wipe σ' own = wipe σ own) → Q σ' H) → t.ok = true → gOf G.K t v σ H Q
  | .nm i, env, σ, v, c, W, Q, own, R, r, q, hi, k, _ => k _ _ (R.asg r) q fun hn => wipe_set ((hi i List.mem_cons_self).resolve_right hn)
  | .nil, env, σ, v, c, W, Q, own, R, r, q, hi, k, _ => by
    have p := r.pk R
    rcases q.1 with z | z
    · rw [z] at p
      obtain ⟨a, vs, rfl, e, _, rr⟩ := p.tup R.hs.sub
      cases rr
      exact .inl ⟨a, [], rfl, SqT.of e, rfl, rfl, k _ _ R q.2 fun _ => rfl⟩
    · rw [z] at p
      obtain ⟨a, vs, rfl, e, rr⟩ := p.lst
      cases rr
      exact .inr ⟨a, [], rfl, SqL.of e, rfl, rfl, k _ _ R q.2 fun _ => rfl⟩
  | .cons t r, env, σ, v, c, W, Q, own, R, rs, ⟨d, ds, e1, q⟩, hi, k, hok => by
    have hok' : (t.ok && r.ok && r.isRow) = true := hok
    rw [Bool.and_eq_true, Bool.and_eq_true] at hok'
    have ex : ∀ (t : T) (c : C) (env : En) (Z : En → Prop), wTg t c env Z → ∃ env', Z env' := by
      intro t
      induction t with
      | nm i => intro c env Z z; exact ⟨_, z⟩
      | nil => intro c env Z z; exact ⟨_, z.2⟩
      | cons t r ih1 ih2 => intro c env Z ⟨d, ds, _, z⟩; obtain ⟨e1, z1⟩ := ih1 _ _ _ z; exact ih2 _ _ _ z1
    have len : ds.length = r.len := by
      have : ∀ (r : T) (env : En) (ds : List D), r.isRow = true → wTg r (.sh (.tup ds)) env (fun _ => True) → ds.length = r.len := by
        intro r
        induction r with
        | nm i => intro env ds h; cases h
        | nil =>
          intro env ds _ z
          rcases z.1 with e | e
          · cases e; rfl
          · cases e
        | cons t r _ ih =>
          intro env ds h ⟨d, ds', e1, z⟩
          rcases e1 with e | e
          · cases e
            obtain ⟨env2, z2⟩ := ex _ _ _ _ z
            exact congrArg Nat.succ (ih env2 ds' h z2)
          · cases e
      obtain ⟨env2, z2⟩ := ex _ _ _ _ q
      exact this r env2 ds hok'.2 (wTg_mono r _ _ _ _ (fun _ _ => trivial) z2)
    have p := rs.pk R
    have go : ∀ (v1 : V) (vs1 : List V), Rep G.K G.ad Hv v1 d → RepL G.K G.ad Hv vs1 ds → gCons (gOf G.K t) (gOfs G.K r) (v1 :: vs1) σ H Q := fun v1 vs1 r1 r2 =>
      ⟨v1, vs1, rfl, gOf_ok t (own := own) R (Res.sh r1) q (fun i hm => hi i (List.mem_append_left _ hm)) (fun env1 σ1 R1 q1 w1 =>
        gOfs_ok r (own := own) R1 r2 q1 (fun i hm => hi i (List.mem_append_right _ hm)) (fun env2 σ2 R2 q2 w2 => k env2 σ2 R2 q2 fun hn => (w2 hn).trans (w1 hn)) hok'.1.2 hok'.2) hok'.1.1⟩
    rcases e1 with z | z
    · rw [z] at p
      obtain ⟨a, vs, rfl, e, _, rr⟩ := p.tup R.hs.sub
      cases rr with
      | @cons v1 _ vs1 _ r1 r2 => exact .inl ⟨a, v1 :: vs1, rfl, SqT.of e, (by show vs1.length + 1 = r.len + 1; rw [r2.length, len]), go v1 vs1 r1 r2⟩
    · rw [z] at p
      obtain ⟨a, vs, rfl, e, rr⟩ := p.lst
      cases rr with
      | @cons v1 _ vs1 _ r1 r2 => exact .inr ⟨a, v1 :: vs1, rfl, SqL.of e, (by show vs1.length + 1 = r.len + 1; rw [r2.length, len]), go v1 vs1 r1 r2⟩
theorem gOfs_ok {G : Gd} {H Hv : Hp} {F : Addr → Prop} : ∀ (t : T) {env : En} {σ : St} {vs : List V} {ds : List D} {W : En → Prop} {Q : St → Hp → Prop} {own : List Nat}, Rel G env σ H Hv F → RepL G.K G.ad Hv vs ds → wTg t (.sh (.tup ds)) env W → (∀ i ∈ t.vars, i ∈ own ∨ own = []) →
    (∀ env' σ', Rel G env' σ' H Hv F → W env' → (own ≠ [] → wipe σ' own = wipe σ own) → Q σ' H) → t.ok = true → t.isRow = true → gOfs G.K t vs σ H Q
  | .nm i, env, σ, vs, ds, W, Q, own, R, r, q, hi, k, _, h => nomatch h
  | .nil, env, σ, vs, ds, W, Q, own, R, r, q, hi, k, _, _ => by
    have e : D.tup ds = D.tup [] := q.1.resolve_right fun z => nomatch (show D.tup ds = D.lst [] from z)
    cases e
    cases r
    exact ⟨rfl, k _ _ R q.2 fun _ => rfl⟩
  | .cons t r, env, σ, vs, ds0, W, Q, own, R, rs, ⟨d, ds, e1, q⟩, hi, k, hok, _ => by
    have e : D.tup ds0 = D.tup (d :: ds) := e1.resolve_right fun z => nomatch (show D.tup ds0 = D.lst (d :: ds) from z)
    cases e
    have hok' : (t.ok && r.ok && r.isRow) = true := hok
    rw [Bool.and_eq_true, Bool.and_eq_true] at hok'
    cases rs with
    | cons r1 r2 =>
      refine ⟨_, _, rfl, gOf_ok t (own := own) R (Res.sh r1) q (fun i hm => hi i (List.mem_append_left _ hm)) (fun env1 σ1 R1 q1 w1 => ?_) hok'.1.1⟩
      exact gOfs_ok r (own := own) R1 r2 q1 (fun i hm => hi i (List.mem_append_right _ hm)) (fun env2 σ2 R2 q2 w2 => k env2 σ2 R2 q2 fun hn => (w2 hn).trans (w1 hn)) hok'.1.2 hok'.2
end
end B

namespace B
open PySem PySem.Spec L2

/-! ### zip of two sequences, each a list or a tuple -/
/-- a list (false) or a tuple (true) at l -/
def SeqB (h : Heap) (p : Bool) (l : Addr) (xs : Array Value) : Prop := match p with | false => h.IsList l xs | true => h.IsTuple l xs
/-- t stands at place k of the sequence at l -/
def ItB (h : Heap) (p : Bool) (t l : Addr) (k : Nat) : Prop := match p with | false => h.IsListIter t l k | true => h.IsTupleIter t l k
def Feed (h : Heap) (p : Bool) (t l : Addr) (k : Nat) (xs : Array Value) : Prop := ItB h p t l k ∧ SeqB h p l xs
theorem SeqB.keep {h g : Heap} {p : Bool} {l : Addr} {xs : Array Value} (f : SeqB h p l xs) (e : ∀ o, h.get? l = some o → g.get? l = some o) : SeqB g p l xs := by
  cases p
  · exact Heap.IsList.at f e
  · exact Heap.IsTuple.at f e
theorem ItB.keep {h g : Heap} {p : Bool} {t l : Addr} {k : Nat} (f : ItB h p t l k) (e : ∀ o, h.get? t = some o → g.get? t = some o) : ItB g p t l k := by
  cases p
  · exact Heap.IsListIter.at f e
  · exact Heap.IsTupleIter.at f e
theorem ItB.obj {h : Heap} {p : Bool} {t l : Addr} {k : Nat} (f : ItB h p t l k) : ∃ o, h.get? t = some o ∧ ∀ v, o.data ≠ .cell v := by
  cases p
  all_goals obtain ⟨o, e, _, d⟩ := f
  all_goals exact ⟨o, e, fun v q => by rw [d] at q; cases q⟩
theorem Feed.keep {h g : Heap} {p : Bool} {t l : Addr} {k : Nat} {xs : Array Value} (f : Feed h p t l k xs) (e1 : ∀ o, h.get? t = some o → g.get? t = some o) (e2 : ∀ o, h.get? l = some o → g.get? l = some o) : Feed g p t l k xs := ⟨f.1.keep e1, f.2.keep e2⟩
theorem Feed.up {h g : Heap} {p : Bool} {t l b : Addr} {k : Nat} {xs : Array Value} (f : Feed h p t l k xs) (e : Heap.ExtBut b h g) (n1 : t ≠ b) (n2 : l ≠ b) : Feed g p t l k xs := f.keep (fun o => e t o n1) (fun o => e l o n2)
section
variable {prog : Program} {w : World} {A : Around} {E : Value → Shared → Prop} {s : Shared}
theorem feed_item {p : Bool} {t l : Addr} {k : Nat} {xs : Array Value} {x : Value} {Q : Value → Shared → Prop} (f : Feed s.heap p t l k xs) (n : l ≠ t) (hx : xs[k]? = some x)
    (q : ∀ g, Feed g p t l (k + 1) xs → Heap.SameBut t s.heap g → Q x { s with heap := g }) : wpAny (model prog w) A (Builtin.SmallTypes.nextOf (.ref t)) Q E s := by
  cases p
  · exact wpAny_nextOf_list_item f.1 f.2 hx fun g a' e => q g ⟨a', f.2.keep fun o => e.extBut l o n⟩ e
  · exact RZ.nextOf_tuple_item f.1 f.2 hx fun g a' e => q g ⟨a', f.2.keep fun o => e.extBut l o n⟩ e
theorem feed_end {p : Bool} {t l : Addr} {k : Nat} {xs : Array Value} {Q : Value → Shared → Prop} (hh : A.handled = none) (f : Feed s.heap p t l k xs) (hx : xs[k]? = none)
    (q : ∀ g e, Heap.ExtBut t s.heap g → (∃ o, g.get? e = some o ∧ o.cls = .type "StopIteration") → E (.ref e) { s with heap := g }) : wpAny (model prog w) A (Builtin.SmallTypes.nextOf (.ref t)) Q E s := by
  cases p
  · exact wpAny_nextOf_list_end hh f.1 f.2 hx q
  · exact RZ.nextOf_tuple_end hh f.1 f.2 hx q
/-- what a call of next leaves be -/
def Held (h g : Heap) (bs : List Addr) : Prop := ∀ c o, c ∉ bs → h.get? c = some o → g.get? c = some o
theorem feeds_item {p p' : Bool} {z P O t u l m : Addr} {k : Nat} {xs ys : Array Value} {x y a b : Value} {Q : Value → Shared → Prop} (ap : ZipApart z P O t u l m) (c1 : IsZip s.heap z P O .none) (c2 : IsPair s.heap P (.ref t) (.ref u)) (c3 : IsPair s.heap O a b)
    (f1 : Feed s.heap p t l k xs) (f2 : Feed s.heap p' u m k ys) (hx : xs[k]? = some x) (hy : ys[k]? = some y)
    (q : ∀ g, IsZip g z P O (rawInt s.heap.objs.size) → IsPair g O x y → Feed g p t l (k + 1) xs → Feed g p' u m (k + 1) ys → IsPair g s.heap.objs.size x y → g.objs.size = s.heap.objs.size + 1 → Held s.heap g [z, O, t, u] → Q (.ref s.heap.objs.size) { s with heap := g }) :
    wpAny (model prog w) A (Builtin.«zip.__next__» ⟨[.ref z], []⟩) (fun r s' => ∃ v, r = .done (.ret v) ∧ Q v s') E s := by
  show wpAny _ _ (field (.ref z) 2 >>= fun _ => _) _ _ _
  refine wpAny_bind (wpAny_field c1 rfl (x := .bool false) rfl (wpAny_bind (wpAny_field c1 rfl (x := .ref P) rfl (wpAny_bind (wpAny_seqItems c2 rfl (wpAny_bind ?_))))))
  delta Builtin.SmallTypes.ownedTupleIsFree
  refine wpAny_bind (wpAny_field c1 rfl (x := .none) rfl (wpAny_pure ?_))
  rw [if_pos rfl]
  refine wpAny_bind (wpAny_rule (wpAny_bind (wpAny_field c1 rfl (x := .ref O) rfl (wpAny_bind (wpAny_setField_rec c1 (by simp) fun g1 d1 e1 => wpAny_bind ?_)))))
  simp only [List.forIn_nil, List.zipIdx_nil, List.zipIdx_cons, List.forIn_cons]
  have d1 : IsZip g1 z P O .ellipsis := d1
  have f1 := f1.up e1.extBut ap.i1z ap.l1z
  have f2 := f2.up e1.extBut ap.i2z ap.l2z
  have c3 : IsPair g1 O a b := e1.extBut _ _ ap.TOz c3
  refine wpAny_bind (wpAny_bind (wpAny_onRaise (wpAny_bind (feed_item f1 ap.l1i1 hx fun g2 f1 e2 => wpAny_pure ?_))))
  have f2 := f2.up e2.extBut ap.i12.symm ap.l2i1
  have c3 : IsPair g2 O a b := e2.extBut _ _ ap.TOi1 c3
  have d2 : IsZip g2 z P O .ellipsis := e2.extBut _ _ ap.i1z.symm d1
  refine wpAny_bind (wpAny_seqItems c3 rfl (wpAny_bind (wpAny_updateSeq_pair c3 fun g3 c3 e3 => wpAny_bind (wpAny_letGo (wpAny_pure ?_)))))
  have c3 : IsPair g3 O x b := c3
  have f1 := f1.up e3.extBut ap.TOi1.symm ap.l1TO
  have f2 := f2.up e3.extBut ap.TOi2.symm ap.l2TO
  have d3 : IsZip g3 z P O .ellipsis := e3.extBut _ _ ap.TOz.symm d2
  refine wpAny_bind (wpAny_bind (wpAny_onRaise (wpAny_bind (feed_item f2 ap.l2i2 hy fun g4 f2 e4 => wpAny_pure ?_))))
  have c3 : IsPair g4 O x b := e4.extBut _ _ ap.TOi2 c3
  have f1 := f1.up e4.extBut ap.i12 ap.l1i2
  have d4 : IsZip g4 z P O .ellipsis := e4.extBut _ _ ap.i2z.symm d3
  refine wpAny_bind (wpAny_seqItems c3 rfl (wpAny_bind (wpAny_updateSeq_pair c3 fun g5 c3 e5 => wpAny_bind (wpAny_letGo (wpAny_pure (wpAny_pure ?_))))))
  have c3 : IsPair g5 O x y := c3
  have f1 := f1.up e5.extBut ap.TOi1.symm ap.l1TO
  have f2 := f2.up e5.extBut ap.TOi2.symm ap.l2TO
  have d5 : IsZip g5 z P O .ellipsis := e5.extBut _ _ ap.TOz.symm d4
  have sz : g5.objs.size = s.heap.objs.size := by rw [e5.1, e4.1, e3.1, e2.1, e1.1]
  have hd : Held s.heap g5 [z, O, t, u] := fun c o n e => by
    simp only [List.mem_cons, List.not_mem_nil, or_false, not_or] at n
    exact e5.extBut c o n.2.1 (e4.extBut c o n.2.2.2 (e3.extBut c o n.2.1 (e2.extBut c o n.2.2.1 (e1.extBut c o n.1 e))))
  have lz : z < g5.objs.size := Heap.lt_size d5
  refine wpAny_bind (wpAny_seqItems c3 rfl (wpAny_bind (wpAny_newTuple ?_)))
  show wpAny _ _ (Builtin.SmallTypes.ownedTupleHandOut (.ref z) (.ref g5.objs.size) >>= fun _ => _) _ _ _
  refine wpAny_bind ?_
  delta Builtin.SmallTypes.ownedTupleHandOut
  have d6 : IsZip (g5.push { cls := .type "tuple", data := .seq #[x, y] }) z P O .ellipsis := Heap.get?_push_of_some _ d5
  refine wpAny_bind (wpAny_setField_rec d6 (by simp) fun g7 d7 e7 => ?_)
  have d7 : IsZip g7 z P O (rawInt g5.objs.size) := d7
  refine wpAny_setField_rec d7 (by simp) fun g8 d8 e8 => wpAny_pure ⟨_, rfl, ?_⟩
  have d8 : IsZip g8 z P O (rawInt g5.objs.size) := d8
  have hd8 : ∀ c o, c ≠ z → g5.get? c = some o → g8.get? c = some o := fun c o n e => e8.extBut c o n (e7.extBut c o n (Heap.get?_push_of_some _ e))
  have c8 : IsPair g8 g5.objs.size x y := e8.extBut _ _ (Nat.ne_of_gt lz) (e7.extBut _ _ (Nat.ne_of_gt lz) (Heap.get?_push_size _ rfl))
  have s8 : g8.objs.size = g5.objs.size + 1 := by rw [e8.1, e7.1, Heap.size_push]
  have f1 := f1.keep (fun o => hd8 t o ap.i1z) (fun o => hd8 l o ap.l1z)
  have f2 := f2.keep (fun o => hd8 u o ap.i2z) (fun o => hd8 m o ap.l2z)
  have hd' : Held s.heap g8 [z, O, t, u] := fun c o n e => hd8 c o (fun h => n (h ▸ List.mem_cons_self)) (hd c o n e)
  have c3 : IsPair g8 O x y := hd8 _ _ ap.TOz c3
  rw [sz] at d8 c8 s8
  show Q (.ref g5.objs.size) _
  rw [sz]
  exact q g8 d8 c3 f1 f2 c8 s8 hd'
theorem feeds_end {p p' : Bool} {z P O t u l m : Addr} {k : Nat} {xs ys : Array Value} {a b : Value} {Q : Fin → Shared → Prop} (hh : A.handled = none) (ap : ZipApart z P O t u l m) (c1 : IsZip s.heap z P O .none) (c2 : IsPair s.heap P (.ref t) (.ref u)) (c3 : IsPair s.heap O a b)
    (f1 : Feed s.heap p t l k xs) (f2 : Feed s.heap p' u m k ys) (no : xs[k]? = none ∨ ys[k]? = none)
    (q : ∀ g e, Held s.heap g [z, O, t, u] → (∃ o, g.get? e = some o ∧ o.cls = .type "StopIteration") → E (.ref e) { s with heap := g }) :
    wpAny (model prog w) A (Builtin.«zip.__next__» ⟨[.ref z], []⟩) Q E s := by
  show wpAny _ _ (field (.ref z) 2 >>= fun _ => _) _ _ _
  refine wpAny_bind (wpAny_field c1 rfl (x := .bool false) rfl (wpAny_bind (wpAny_field c1 rfl (x := .ref P) rfl (wpAny_bind (wpAny_seqItems c2 rfl (wpAny_bind ?_))))))
  delta Builtin.SmallTypes.ownedTupleIsFree
  refine wpAny_bind (wpAny_field c1 rfl (x := .none) rfl (wpAny_pure ?_))
  rw [if_pos rfl]
  refine wpAny_bind (wpAny_rule (wpAny_bind (wpAny_field c1 rfl (x := .ref O) rfl (wpAny_bind (wpAny_setField_rec c1 (by simp) fun g1 d1 e1 => wpAny_bind ?_)))))
  simp only [List.forIn_nil, List.zipIdx_nil, List.zipIdx_cons, List.forIn_cons]
  have d1 : IsZip g1 z P O .ellipsis := d1
  have f1 := f1.up e1.extBut ap.i1z ap.l1z
  have f2 := f2.up e1.extBut ap.i2z ap.l2z
  have c3 : IsPair g1 O a b := e1.extBut _ _ ap.TOz c3
  refine wpAny_bind (wpAny_bind (wpAny_onRaise (wpAny_bind ?_)))
  cases hx : xs[k]? with
  | none =>
    refine feed_end hh f1 hx fun g2 e e2 he => ?_
    have d2 : IsZip g2 z P O .ellipsis := e2 _ _ ap.i1z.symm d1
    obtain ⟨o, ho, hc⟩ := he
    have ne : e ≠ z := fun h => by
      rw [h, d2] at ho
      cases ho
      simp at hc
    refine wpAny_setField_rec d2 (by simp) fun g3 _ e3 => q g3 e (fun c o n h => ?_) ⟨o, e3.extBut _ _ ne ho, hc⟩
    simp only [List.mem_cons, List.not_mem_nil, or_false, not_or] at n
    exact e3.extBut c o n.1 (e2 c o n.2.2.1 (e1.extBut c o n.1 h))
  | some x =>
    have hy : ys[k]? = none := no.resolve_left (by rw [hx]; exact fun h => nomatch h)
    refine feed_item f1 ap.l1i1 hx fun g2 f1 e2 => wpAny_pure ?_
    have f2 := f2.up e2.extBut ap.i12.symm ap.l2i1
    have c3 : IsPair g2 O a b := e2.extBut _ _ ap.TOi1 c3
    have d2 : IsZip g2 z P O .ellipsis := e2.extBut _ _ ap.i1z.symm d1
    refine wpAny_bind (wpAny_seqItems c3 rfl (wpAny_bind (wpAny_updateSeq_pair c3 fun g3 c3 e3 => wpAny_bind (wpAny_letGo (wpAny_pure ?_)))))
    have f2 := f2.up e3.extBut ap.TOi2.symm ap.l2TO
    have d3 : IsZip g3 z P O .ellipsis := e3.extBut _ _ ap.TOz.symm d2
    refine wpAny_bind (wpAny_bind (wpAny_onRaise (wpAny_bind (feed_end hh f2 hy fun g4 e e4 he => ?_))))
    have d4 : IsZip g4 z P O .ellipsis := e4 _ _ ap.i2z.symm d3
    obtain ⟨o, ho, hc⟩ := he
    have ne : e ≠ z := fun h => by
      rw [h, d4] at ho
      cases ho
      simp at hc
    refine wpAny_setField_rec d4 (by simp) fun g5 _ e5 => q g5 e (fun c o n h => ?_) ⟨o, e5.extBut _ _ ne ho, hc⟩
    simp only [List.mem_cons, List.not_mem_nil, or_false, not_or] at n
    exact e5.extBut c o n.1 (e4 c o n.2.2.2 (e3.extBut c o n.2.1 (e2.extBut c o n.2.2.1 (e1.extBut c o n.1 h))))

theorem feeds_some {p p' : Bool} {z P O t u l m : Addr} {k : Nat} {xs ys : Array Value} {x y a b : Value} {Q : Option Value → Shared → Prop} (ap : ZipApart z P O t u l m) (c1 : IsZip s.heap z P O .none) (c2 : IsPair s.heap P (.ref t) (.ref u)) (c3 : IsPair s.heap O a b)
    (f1 : Feed s.heap p t l k xs) (f2 : Feed s.heap p' u m k ys) (hx : xs[k]? = some x) (hy : ys[k]? = some y)
    (q : ∀ g, IsZip g z P O (rawInt s.heap.objs.size) → IsPair g O x y → Feed g p t l (k + 1) xs → Feed g p' u m (k + 1) ys → IsPair g s.heap.objs.size x y → g.objs.size = s.heap.objs.size + 1 → Held s.heap g [z, O, t, u] → Q (some (.ref s.heap.objs.size)) { s with heap := g }) :
    wpAny (model prog w) A (pyNext (.ref z)) Q E s := by
  have ty : s.TypeIs (.ref z) "zip" := ⟨_, c1, rfl⟩
  delta pyNext
  refine wpAny_bind (wpAny_attempt (wpAny_callSpecial?_slot ty F.slot_zip_next (wpAny_call_entry F.slot_zip_next ty F.entry_zip_next ?_ (F.args_zip_next_1 _))))
  exact feeds_item ap c1 c2 c3 f1 f2 hx hy fun g b1 b2 b3 b4 b5 b6 b7 => wpAny_pure (q g b1 b2 b3 b4 b5 b6 b7)
theorem feeds_none {p p' : Bool} {z P O t u l m : Addr} {k : Nat} {xs ys : Array Value} {a b : Value} {Q : Option Value → Shared → Prop} (hh : A.handled = none) (ap : ZipApart z P O t u l m) (c1 : IsZip s.heap z P O .none) (c2 : IsPair s.heap P (.ref t) (.ref u)) (c3 : IsPair s.heap O a b)
    (f1 : Feed s.heap p t l k xs) (f2 : Feed s.heap p' u m k ys) (no : xs[k]? = none ∨ ys[k]? = none) (q : ∀ g, Held s.heap g [z, O, t, u] → Q none { s with heap := g }) :
    wpAny (model prog w) A (pyNext (.ref z)) Q E s := by
  have ty : s.TypeIs (.ref z) "zip" := ⟨_, c1, rfl⟩
  delta pyNext
  refine wpAny_bind (wpAny_attempt (wpAny_callSpecial?_slot ty F.slot_zip_next (wpAny_call_entry F.slot_zip_next ty F.entry_zip_next ?_ (F.args_zip_next_1 _))))
  refine feeds_end hh ap c1 c2 c3 f1 f2 no fun g e hk ⟨o, ho, hc⟩ => ?_
  exact wpAny_bind (wpAny_isInstance (b := true) (T := "StopIteration") ⟨o, ho, hc⟩ isSubtype_stop (wpAny_pure (q g hk)))
def fresh (p : Bool) (l : Addr) : Obj := { cls := .type (bif p then "tuple_iterator" else "list_iterator"), data := .fields #[.ref l, .int 0 0] }
theorem SeqB.more {h : Heap} {p : Bool} {l : Addr} {xs : Array Value} (q : SeqB h p l xs) (o : Obj) : SeqB (h.push o) p l xs := by
  cases p
  · exact Heap.IsList.push q _
  · exact Heap.IsTuple.push q _
theorem SeqB.lt {h : Heap} {p : Bool} {l : Addr} {xs : Array Value} (q : SeqB h p l xs) : l < h.objs.size := by
  cases p
  · obtain ⟨o, e, _⟩ := q; exact Heap.lt_size e
  · obtain ⟨o, e, _⟩ := q; exact Heap.lt_size e
theorem SeqB.feed {h : Heap} {p : Bool} {l t : Addr} {xs : Array Value} (q : SeqB h p l xs) (e : h.get? t = some (fresh p l)) : Feed h p t l 0 xs := by
  cases p
  · exact ⟨⟨_, e, rfl, rfl⟩, q⟩
  · exact ⟨⟨_, e, rfl, rfl⟩, q⟩
theorem iter_seq {p : Bool} {l : Addr} {xs : Array Value} {Q : Value → Shared → Prop} (q : SeqB s.heap p l xs) (k : Q (.ref s.heap.objs.size) { s with heap := s.heap.push (fresh p l) }) : wpAny (model prog w) A (pyIter (.ref l)) Q E s := by
  cases p
  · exact wpAny_pyIter_list q k
  · exact wpAny_pyIter_tuple q k
end
def zh2 (h : Heap) (p q : Bool) (l m : Addr) : Heap := (h.push (fresh p l)).push (fresh q m)
def zh4 (h : Heap) (p q : Bool) (l m : Addr) : Heap := ((zh2 h p q l m).push { cls := .type "tuple", data := .seq #[.ref h.objs.size, .ref (h.objs.size + 1)] }).push { cls := .type "tuple", data := .seq #[.none, .none] }
def zh5 (h : Heap) (p q : Bool) (l m : Addr) : Heap := (zh4 h p q l m).push { cls := .type "zip", data := .fields #[.none, .bool false, .bool false, .ref (h.objs.size + 2), .ref (h.objs.size + 3)] }
theorem zh_new (p q : Bool) (l m : Addr) (xs ys : Array Value) : Meets (Builtin.«zip.__new__» ⟨[.type "zip", .ref l, .ref m], []⟩) (fun _ R s => SeqB s.heap p l xs ∧ SeqB s.heap q m ys ∧ R (.ok (.ret (.ref (s.heap.objs.size + 4)))) { s with heap := zh5 s.heap p q l m }) :=
  .of_wp fun prog w A R s h => by
    obtain ⟨hp, g, d, tk, os⟩ := s
    obtain ⟨q1, q2, h⟩ := h
    have sub := sub_zip
    have i1 : SeqB (Shared.heap ⟨hp, g, d, tk, os⟩) p l xs := q1
    have i2 : SeqB (Shared.heap ⟨hp.push (fresh p l), g, d, tk, os⟩) q m ys := q2.more _
    have z0 : ∀ (h : Heap) (o : Obj), (h.push o).objs.size = h.objs.size + 1 := fun h o => Heap.size_push ..
    simp only [zh5, zh4, zh2] at h
    wp_walk using iter_seq i1, iter_seq i2
    simp only [z0]
    exact ⟨_, rfl, h⟩


theorem call_feeds {prog : Program} {w : World} {A : Around} {E : Value → Shared → Prop} {s : Shared} {p q : Bool} {l m : Addr} {xs ys : Array Value} {Q : Value → Shared → Prop} (q1 : SeqB s.heap p l xs) (q2 : SeqB s.heap q m ys)
    (k : ∀ g, IsZip g (s.heap.objs.size + 4) (s.heap.objs.size + 2) (s.heap.objs.size + 3) .none → IsPair g (s.heap.objs.size + 2) (.ref s.heap.objs.size) (.ref (s.heap.objs.size + 1)) → IsPair g (s.heap.objs.size + 3) .none .none → Feed g p s.heap.objs.size l 0 xs → Feed g q (s.heap.objs.size + 1) m 0 ys →
      (∀ c o, s.heap.get? c = some o → g.get? c = some o) → Q (.ref (s.heap.objs.size + 4)) { s with heap := g }) :
    wpAny (model prog w) A (call (.type "zip") [.ref l, .ref m]) Q E s := by
  refine callType_new F.called_zip (by decide) (F.typeCall_zip_2 _ _) (F.newCall_zip_2 _ _) (fun o => F.args_object_init_3 o _ _) F.entry_zip_new (zh_new p q l m xs ys) ⟨q1, q2, ?_⟩
  have z0 : ∀ (h : Heap) (o : Obj), (h.push o).objs.size = h.objs.size + 1 := fun h o => Heap.size_push ..
  have old : ∀ (h : Heap) (o : Obj) (c : Addr) (o' : Obj), h.get? c = some o' → (h.push o).get? c = some o' := fun h o c o' e => Heap.get?_push_of_some _ e
  have at5 : (zh5 s.heap p q l m).get? (s.heap.objs.size + 4) = some { cls := .type "zip", data := .fields #[.none, .bool false, .bool false, .ref (s.heap.objs.size + 2), .ref (s.heap.objs.size + 3)] } := by
    have e : (Heap.push (zh4 s.heap p q l m) { cls := .type "zip", data := .fields #[.none, .bool false, .bool false, .ref (s.heap.objs.size + 2), .ref (s.heap.objs.size + 3)] }).get? (Heap.objs (zh4 s.heap p q l m)).size = some { cls := .type "zip", data := .fields #[.none, .bool false, .bool false, .ref (s.heap.objs.size + 2), .ref (s.heap.objs.size + 3)] } := Heap.get?_push_size _ rfl
    have n : (zh4 s.heap p q l m).objs.size = s.heap.objs.size + 4 := by simp only [zh4, zh2, z0]
    rwa [n] at e
  have at4 : (zh5 s.heap p q l m).get? (s.heap.objs.size + 3) = some { cls := .type "tuple", data := .seq #[.none, .none] } := by
    have e : (Heap.push ((zh2 s.heap p q l m).push { cls := .type "tuple", data := .seq #[.ref s.heap.objs.size, .ref (s.heap.objs.size + 1)] }) { cls := .type "tuple", data := .seq #[.none, .none] }).get? (Heap.objs ((zh2 s.heap p q l m).push { cls := .type "tuple", data := .seq #[.ref s.heap.objs.size, .ref (s.heap.objs.size + 1)] })).size = some { cls := .type "tuple", data := .seq #[.none, .none] } := Heap.get?_push_size _ rfl
    simp only [zh2, z0] at e
    exact old _ _ _ _ e
  have at3 : (zh5 s.heap p q l m).get? (s.heap.objs.size + 2) = some { cls := .type "tuple", data := .seq #[.ref s.heap.objs.size, .ref (s.heap.objs.size + 1)] } := by
    have e : (Heap.push (zh2 s.heap p q l m) { cls := .type "tuple", data := .seq #[.ref s.heap.objs.size, .ref (s.heap.objs.size + 1)] }).get? (Heap.objs (zh2 s.heap p q l m)).size = some { cls := .type "tuple", data := .seq #[.ref s.heap.objs.size, .ref (s.heap.objs.size + 1)] } := Heap.get?_push_size _ rfl
    simp only [zh2, z0] at e
    exact old _ _ _ _ (old _ _ _ _ e)
  have at2 : (zh5 s.heap p q l m).get? (s.heap.objs.size + 1) = some (fresh q m) := by
    have e : (Heap.push (s.heap.push (fresh p l)) (fresh q m)).get? (Heap.objs (s.heap.push (fresh p l))).size = some (fresh q m) := Heap.get?_push_size _ rfl
    simp only [z0] at e
    exact old _ _ _ _ (old _ _ _ _ (old _ _ _ _ e))
  have at1 : (zh5 s.heap p q l m).get? s.heap.objs.size = some (fresh p l) := old _ _ _ _ (old _ _ _ _ (old _ _ _ _ (old _ _ _ _ (Heap.get?_push_size _ rfl))))
  exact ⟨⟨_, at5, rfl⟩, k _ at5 at3 at4 (SeqB.feed ((((q1.more _).more _).more _).more _ |>.more _) at1) (SeqB.feed ((((q2.more _).more _).more _).more _ |>.more _) at2) fun c o e => old _ _ _ _ (old _ _ _ _ (old _ _ _ _ (old _ _ _ _ (old _ _ _ _ e))))⟩

/-! the iterator's judgement -/
/-- a list (false) or a tuple (true), tracked -/
def SqB (K : PySem.W.Frag) (H : Hp) (p : Bool) (a : Addr) (xs : List V) : Prop := match p with | false => SqL K H a xs | true => SqT K H a xs
theorem SqB.one {X : Cx} {pins : List (Addr × Obj)} {σ : L2.St} {H : Hp} {s : Shared} {p : Bool} {a : Addr} {xs ys : List V} (I : Inv X pins σ H s) (h1 : SqB X.K H p a xs) (h2 : SqB X.K H p a ys) : xs = ys := by
  cases p
  · exact I.list_inj h1 h2
  · exact I.tuple_inj h1 h2
theorem SqB.raw {X : Cx} {pins : List (Addr × Obj)} {σ : L2.St} {H : Hp} {s : Shared} {p : Bool} {a : Addr} {xs : List V} (I : Inv X pins σ H s) (h : SqB X.K H p a xs) : ∃ us : List Value, Vals xs us ∧ SeqB s.heap p a us.toArray := by
  cases p
  · obtain ⟨us, r, q, _⟩ := I.list h
    exact ⟨us, r, q.isList⟩
  · obtain ⟨us, r, q, _⟩ := I.tuple h
    exact ⟨us, r, q⟩
def Itf (K : PySem.W.Frag) (p q : Bool) (a b : Addr) : L2.It :=
  ⟨fun i H => ∃ (xs ys : List V) (x y : V), SqB K H p a xs ∧ SqB K H q b ys ∧ xs[i]? = some x ∧ ys[i]? = some y,
    fun i H v H' => ∃ T x y, v = .ref T ∧ H T = none ∧ H' = upd H T (.tup [x, y]) ∧ (∀ l, SqB K H p a l → l[i]? = some x) ∧ ∀ l, SqB K H q b l → l[i]? = some y,
    fun i H => ∃ xs ys : List V, SqB K H p a xs ∧ SqB K H q b ys ∧ (xs.length ≤ i ∨ ys.length ≤ i)⟩
theorem turn_feeds {P : Program} {w : World} {K : PySem.W.Frag} {es : List Expr} {kk : Nat} {tp : Pos} {p q : Bool} {a b z T O t u : Addr} (ap : ZipApart z T O t u a b) :
    L2.Turn P w K (.Tuple es kk tp) (Itf K p q a b) [z, T, O, t, u] z (fun i h => IsZip h z T O .none ∧ IsPair h T (.ref t) (.ref u) ∧ (∃ x y, IsPair h O x y) ∧ ItB h p t a i ∧ ItB h q u b i) where
  mem := List.mem_cons_self
  obj i h st c hc := by
    obtain ⟨c1, c2, ⟨x, y, c3⟩, f1, f2⟩ := st
    simp only [List.mem_cons, List.not_mem_nil, or_false] at hc
    obtain rfl | rfl | rfl | rfl | rfl := hc
    · exact ⟨_, c1, fun v e => nomatch e⟩
    · exact ⟨_, c2, fun v e => nomatch e⟩
    · exact ⟨_, c3, fun v e => nomatch e⟩
    · exact f1.obj
    · exact f2.obj
  keep i h g st k := by
    obtain ⟨c1, c2, ⟨x, y, c3⟩, f1, f2⟩ := st
    exact ⟨k z (by simp) _ c1, k T (by simp) _ c2, ⟨x, y, k O (by simp) _ c3⟩, f1.keep fun o => k t (by simp) o, f2.keep fun o => k u (by simp) o⟩
  item := by
    intro X eP ew eK cm i pins s σ H E I hf st hg
    obtain rfl := eP
    obtain rfl := ew
    obtain rfl := eK
    obtain ⟨c1, c2, ⟨x0, y0, c3⟩, f1, f2⟩ := st
    obtain ⟨xs, ys, x, y, s1, s2, hx, hy⟩ := hg
    obtain ⟨us, rv1, r1⟩ := s1.raw I
    obtain ⟨vs, rv2, r2⟩ := s2.raw I
    obtain ⟨u1, hu1, ru1⟩ := rv1.get hx
    obtain ⟨u2, hu2, ru2⟩ := rv2.get hy
    have lz : z < s.heap.objs.size := Heap.lt_size c1
    refine feeds_some (x := u1) (y := u2) ap c1 c2 c3 ⟨f1, r1⟩ ⟨f2, r2⟩ (by simpa using hu1) (by simpa using hu2) fun g b1 b2 b3 b4 b5 b6 b7 => ⟨_, rfl, ?_⟩
    refine wpAny_letOwnedTupleGo_zip (s := { s with heap := g }) b1 fun g' d1 sb => ?_
    have n5 : g'.get? s.heap.objs.size = some { cls := .type "tuple", data := .seq #[u1, u2] } := (sb.2 _ (Nat.ne_of_gt lz)).trans b5
    have ok : ObjOk X.prog X.w (upd H s.heap.objs.size (.tup [x, y])) g' s.heap.objs.size (.tup [x, y]) := ⟨by show 2 ≤ sizeLine; decide, [u1, u2], .cons ru1 (.cons ru2 .nil), ⟨_, n5, rfl, _, rfl⟩⟩
    have kp : ∀ c o, c ∉ [z, T, O, t, u] → s.heap.get? c = some o → g'.get? c = some o := fun c o n e => by
      have nz : c ≠ z := fun h => n (h ▸ List.mem_cons_self)
      refine (sb.2 c nz).trans (b7 c o (fun h => n ?_) e)
      simp only [List.mem_cons, List.not_mem_nil, or_false] at h ⊢
      obtain h | h | h | h := h
      · exact .inl h
      · exact .inr (.inr (.inl h))
      · exact .inr (.inr (.inr (.inl h)))
      · exact .inr (.inr (.inr (.inr h)))
    have I' : Inv X pins σ (upd H s.heap.objs.size (.tup [x, y])) { s with heap := g' } := I.turnedNew (ch := [z, T, O, t, u]) (t' := s.toks) kp hf (Nat.le_refl _) ok
    have nT : T ∉ [z, O, t, u] := by
      simp only [List.mem_cons, List.not_mem_nil, or_false, not_or]
      exact ⟨ap.TIz, ap.TITO, ap.TIi1, ap.TIi2⟩
    refine ⟨.ref s.heap.objs.size, _, I', rfl, ⟨_, x, y, rfl, I.hok.fresh (Nat.le_refl _), rfl, fun l hl => by rw [hl.one I s1]; exact hx, fun l hl => by rw [hl.one I s2]; exact hy⟩, ⟨d1, (sb.2 _ ap.TIz).trans (b7 T _ nT c2), ⟨u1, u2, (sb.2 _ ap.TOz).trans b2⟩, b3.1.keep fun o e => (sb.2 _ ap.i1z).trans e, b4.1.keep fun o e => (sb.2 _ ap.i2z).trans e⟩, fun c hc => ?_⟩
    have lt : c < s.heap.objs.size := by
      simp only [List.mem_cons, List.not_mem_nil, or_false] at hc
      obtain rfl | rfl | rfl | rfl | rfl := hc
      · exact lz
      · exact Heap.lt_size c2
      · exact Heap.lt_size c3
      · obtain ⟨o, e, _⟩ := f1.obj; exact Heap.lt_size e
      · obtain ⟨o, e, _⟩ := f2.obj; exact Heap.lt_size e
    rw [upd_ne (Nat.ne_of_lt lt)]
    exact (hf c hc).1
  done := by
    intro X eP ew eK cm i pins s σ H E I hf st hg
    obtain rfl := eP
    obtain rfl := ew
    obtain rfl := eK
    obtain ⟨c1, c2, ⟨x0, y0, c3⟩, f1, f2⟩ := st
    obtain ⟨xs, ys, s1, s2, no⟩ := hg
    obtain ⟨us, rv1, r1⟩ := s1.raw I
    obtain ⟨vs, rv2, r2⟩ := s2.raw I
    have n1 := rv1.length
    have n2 := rv2.length
    refine feeds_none (I.ok.hd cm) ap c1 c2 c3 ⟨f1, r1⟩ ⟨f2, r2⟩ (no.imp (fun h => ?_) fun h => ?_) fun g b7 => ⟨rfl, I.turnedL (ch := [z, T, O, t, u]) (t' := s.toks) (fun c o n e => b7 c o (fun h => n ?_) e) hf⟩
    · simp only [List.getElem?_toArray, List.getElem?_eq_none_iff]; omega
    · simp only [List.getElem?_toArray, List.getElem?_eq_none_iff]; omega
    · simp only [List.mem_cons, List.not_mem_nil, or_false] at h ⊢
      obtain h | h | h | h := h
      · exact .inl h
      · exact .inr (.inr (.inl h))
      · exact .inr (.inr (.inr (.inl h)))
      · exact .inr (.inr (.inr (.inr h)))
  self A i s Q E st h := wpAny_pyIter_zip st.1 h
def iZipF (K : PySem.W.Frag) (ta : TA) : TI := fun σ H R => ta σ H fun vs H1 => ∃ (p q : Bool) (a b : Addr) (xs ys : List V), vs = [.ref a, .ref b] ∧ SqB K H1 p a xs ∧ SqB K H1 q b ys ∧ R (Itf K p q a b) H1
theorem pi_feeds {X : Cx} {e1 e2 : Expr} {ta : TA} {p pos tp : Pos} {es : List Expr} {kk : Nat} (hg : Gl X "zip") (hm : X.mg "zip" = none) (ha : PA X [e1, e2] ta)
    (hs : starEach [e1, e2] X.env = (false, eval e1 X.env) :: starEach [e2] X.env := by rfl) (hp : (backTo pos (starEach [e2] X.env)).any (·.1) = false := by rfl) : PI X (.Tuple es kk tp) (.Call (.Name "zip" p) [e1, e2] [] pos) (iZipF X.K ta) := by
  refine ⟨fun pins s σ H R I h => ?_⟩
  refine PyProof.Rows.Call_ (ld_blt I hg hm PyProof.Rows.boot_zip (PyProof.Rows.callWith_type1 (thn (ha.run pos pins s σ H _ I h) fun us s1 ⟨vs, H1, I1, r1, k⟩ => ?_) hs hp))
  obtain ⟨q1, q2, a, b, xs, ys, ev, h1, h2, k⟩ := k
  rw [ev] at r1
  obtain ⟨w1, w2, rfl, rr⟩ : ∃ w1 w2, us = [w1, w2] ∧ w1 = Value.ref a ∧ w2 = Value.ref b := by
    cases r1 with
    | cons r1 r2 =>
      cases r2 with
      | cons r2 r3 =>
        cases r3
        cases r1
        cases r2
        exact ⟨_, _, rfl, rfl, rfl⟩
  obtain ⟨rfl, rfl⟩ := rr
  obtain ⟨as, _, t1⟩ := h1.raw I1
  obtain ⟨bs, _, t2⟩ := h2.raw I1
  have fr : ∀ c, c ∈ [s1.heap.objs.size + 4, s1.heap.objs.size + 2, s1.heap.objs.size + 3, s1.heap.objs.size, s1.heap.objs.size + 1] → FpOk X pins H1 c := fun c hc => by
    have le : s1.heap.objs.size ≤ c := by
      simp only [List.mem_cons, List.not_mem_nil, or_false] at hc
      omega
    exact I1.fpOk le (I1.hok.fresh le)
  refine call_feeds t1 t2 fun g c1 c2 c3 f1 f2 kp => wpAny_pyIter_zip c1 ?_
  exact ⟨s1.heap.objs.size + 4, [s1.heap.objs.size + 4, s1.heap.objs.size + 2, s1.heap.objs.size + 3, s1.heap.objs.size, s1.heap.objs.size + 1], _, _, H1, rfl, I1.kept (t' := s1.toks) kp, turn_feeds (PySem.W.ktu_apart s1.heap.objs.size a b t1.lt t2.lt), ⟨c1, c2, ⟨_, _, c3⟩, f1.1, f2.1⟩, fr, k⟩

/-! ### what is walked, by value -/
structure WalkD (G : Gd) (J : L2.It) (ds : List D) (Hv1 : Hp) : Prop where
  goes : ∀ i H, i < ds.length → Same Hv1 H → J.go i H
  stops : ∀ H, Same Hv1 H → J.stop ds.length H
  yields : ∀ i H x H' d, ds[i]? = some d → Same Hv1 H → J.yld i H x H' → (H' = H ∧ Rep G.K G.ad Hv1 x d) ∨
    ∃ T u v a b, x = .ref T ∧ H T = none ∧ H' = upd H T (.tup [u, v]) ∧ d = .tup [a, b] ∧ Rep G.K G.ad Hv1 u a ∧ Rep G.K G.ad Hv1 v b
  len : ds.length ≤ sizeLine
def iI (K : PySem.W.Frag) (wi : En → (List D → En → Prop) → Prop) : TI := fun σ H R => ∃ G env Hv F, G.K = K ∧ Rel G env σ H Hv F ∧ wi env fun ds env' => ∀ J H' Hv' F', Rel G env' σ H' Hv' F' → Same Hv Hv' → WalkD G J ds Hv' → R J H'
/-- that sizes are no greater than they can be need not be told -/
theorem PI.of {X : Cx} {tg iter : Expr} {wi wi' : TI} (h : PI X tg iter wi') (i : ∀ σ H R, wi σ H R → wi' σ H (fun J H' => ∃ n : Nat, ((∃ a vs, SqL X.K H' a vs ∧ vs.length = n) ∨ (∃ a vs, SqT X.K H' a vs ∧ vs.length = n) ∨ n ≤ sizeLine) ∧ (n ≤ sizeLine → R J H'))) : PI X tg iter wi := by
  refine ⟨fun pins s σ H R I q => ?_⟩
  refine thn (h.run pins s σ H _ I (i σ H R q)) fun v s1 h1 => thn h1 fun itv s2 h2 => ?_
  obtain ⟨it, fp, tn, J, H2, e, I2, T, st2, f2, n, hn, k⟩ := h2
  refine ⟨it, fp, tn, J, H2, e, I2, T, st2, f2, k ?_⟩
  rcases hn with ⟨a, vs, hq, rfl⟩ | ⟨a, vs, hq, rfl⟩ | hn
  · obtain ⟨_, _, _, z⟩ := I2.list hq; exact z
  · obtain ⟨_, _, _, z⟩ := I2.tuple hq; exact z
  · exact hn
theorem pi_seq {X : Cx} {tg l : Expr} {tl : TE} (hl : PE X l tl) : PI X tg l (fun σ H R => tl σ H fun x H1 => ∃ a, x = .ref a ∧ (((∃ xs, SqL X.K H1 a xs) ∧ R (Itl X.K a) H1) ∨ ((∃ xs, SqT X.K H1 a xs) ∧ R (Itt X.K a) H1))) := by
  refine ⟨fun pins s σ H R I h => ?_⟩
  refine thn (hl.run pins s σ H _ I h) fun v s1 ⟨x, H1, I1, r1, a, ex, q⟩ => ?_
  subst ex
  cases r1
  have fresh : ∀ b ∈ [s1.heap.objs.size], FpOk X pins H1 b := fun b hb => by
    obtain rfl : b = s1.heap.objs.size := by simpa using hb
    exact I1.fpOk (Nat.le_refl _) (I1.hok.fresh (Nat.le_refl _))
  rcases q with ⟨⟨xs, hq⟩, q⟩ | ⟨⟨xs, hq⟩, q⟩
  · obtain ⟨its, rv, p, _⟩ := I1.list hq
    refine wpAny_pyIter_list p.isList ⟨s1.heap.objs.size, _, _, _, H1, rfl, I1.kept (t' := s1.toks) fun b o z => Heap.get?_push_of_some _ z, turn_list a _, ⟨_, Heap.get?_push_size _ rfl, rfl, rfl⟩, fresh, q⟩
  · obtain ⟨its, rv, p, _⟩ := I1.tuple hq
    refine wpAny_pyIter_tuple (show s1.heap.IsTuple a its.toArray from p) ⟨s1.heap.objs.size, _, _, _, H1, rfl, I1.kept (t' := s1.toks) fun b o z => Heap.get?_push_of_some _ z, turn_tuple a _, ⟨_, Heap.get?_push_size _ rfl, rfl, rfl⟩, fresh, q⟩

section
variable {G : Gd} {Hv1 : Hp} {a b : Addr} {vs ws : List V} {l m : List D}
theorem sL {H : Hp} (e : Hv1 a = some (.lst vs)) (s : Same Hv1 H) : SqL G.K H a vs := SqL.of (s _ _ e)
theorem sT {H : Hp} (e : Hv1 a = some (.tup vs)) (s : Same Hv1 H) : SqT G.K H a vs := SqT.of (s _ _ e)
theorem walkD_list (e : Hv1 a = some (.lst vs)) (r : RepL G.K G.ad Hv1 vs l) (hz : l.length ≤ sizeLine) : WalkD G (Itl G.K a) l Hv1 where
  goes i H hi s := by rw [← r.length] at hi; exact walk_list.goes i H hi (sL e s)
  stops H s := by rw [← r.length]; exact walk_list.stops H (sL e s)
  yields i H x H' d hd s y := by
    obtain ⟨h1, h2⟩ := y
    obtain ⟨v, h3, h4⟩ := r.get hd
    have h5 := h2 vs (sL e s)
    rw [h3] at h5
    cases h5
    exact .inl ⟨h1, h4⟩
  len := hz
theorem walkD_tup (e : Hv1 a = some (.tup vs)) (r : RepL G.K G.ad Hv1 vs l) (hz : l.length ≤ sizeLine) : WalkD G (Itt G.K a) l Hv1 where
  goes i H hi s := by rw [← r.length] at hi; exact walk_tup.goes i H hi (sT e s)
  stops H s := by rw [← r.length]; exact walk_tup.stops H (sT e s)
  yields i H x H' d hd s y := by
    obtain ⟨h1, h2⟩ := y
    obtain ⟨v, h3, h4⟩ := r.get hd
    have h5 := h2 vs (sT e s)
    rw [h3] at h5
    cases h5
    exact .inl ⟨h1, h4⟩
  len := hz
theorem enumD_len : ∀ (n : Nat) (l : List D), (enumD n l).length = l.length
  | _, [] => rfl
  | n, _ :: l => congrArg Nat.succ (enumD_len (n + 1) l)
theorem enumD_get : ∀ (n : Nat) (l : List D) (i : Nat) (d : D), (enumD n l)[i]? = some d → ∃ x, l[i]? = some x ∧ d = .tup [.int ((n + i : Nat) : Int), x]
  | _, [], _, _, h => by simp [enumD] at h
  | n, x :: l, 0, d, h => by
    have h' : some (D.tup [.int (n : Nat), x]) = some d := h
    cases h'
    exact ⟨x, rfl, rfl⟩
  | n, _ :: l, i + 1, d, h => by
    obtain ⟨x, h1, h2⟩ := enumD_get (n + 1) l i d h
    refine ⟨x, h1, ?_⟩
    rw [h2]
    have : n + 1 + i = n + (i + 1) := by omega
    rw [this]
theorem walkD_enumL (e : Hv1 a = some (.lst vs)) (r : RepL G.K G.ad Hv1 vs l) (hz : l.length ≤ sizeLine) : WalkD G (Ite G.K a) (enumD 0 l) Hv1 where
  goes i H hi s := by rw [enumD_len, ← r.length] at hi; exact walk_enum.goes i H hi (sL e s)
  stops H s := by rw [enumD_len, ← r.length]; exact walk_enum.stops H (sL e s)
  yields i H x H' d hd s y := by
    obtain ⟨T, u, h1, h2, h3, h4⟩ := y
    obtain ⟨dx, h5, h6⟩ := enumD_get 0 l i d hd
    obtain ⟨v, h7, h8⟩ := r.get h5
    have h9 := h4 vs (sL e s)
    rw [h7] at h9
    cases h9
    rw [Nat.zero_add] at h6
    exact .inr ⟨T, _, _, _, _, h1, h2, h3, h6, .int _, h8⟩
  len := by rw [enumD_len]; exact hz
theorem walkD_enumT (e : Hv1 a = some (.tup vs)) (r : RepL G.K G.ad Hv1 vs l) (hz : l.length ≤ sizeLine) : WalkD G (IteT G.K a) (enumD 0 l) Hv1 where
  goes i H hi s := by
    rw [enumD_len, ← r.length] at hi
    exact ⟨vs, vs[i], sT e s, by simp [hi]⟩
  stops H s := by rw [enumD_len, ← r.length]; exact ⟨vs, sT e s, rfl⟩
  yields i H x H' d hd s y := by
    obtain ⟨T, u, h1, h2, h3, h4⟩ := y
    obtain ⟨dx, h5, h6⟩ := enumD_get 0 l i d hd
    obtain ⟨v, h7, h8⟩ := r.get h5
    have h9 := h4 vs (sT e s)
    rw [h7] at h9
    cases h9
    rw [Nat.zero_add] at h6
    exact .inr ⟨T, _, _, _, _, h1, h2, h3, h6, .int _, h8⟩
  len := by rw [enumD_len]; exact hz
theorem zipD_len : ∀ (l m : List D), (zipD l m).length = min l.length m.length
  | [], _ => by simp [zipD]
  | _ :: _, [] => by simp [zipD]
  | _ :: l, _ :: m => by
    show (zipD l m).length + 1 = _
    rw [zipD_len l m]
    simp only [List.length_cons]
    omega
theorem zipD_get : ∀ (l m : List D) (i : Nat) (d : D), (zipD l m)[i]? = some d → ∃ x y, l[i]? = some x ∧ m[i]? = some y ∧ d = .tup [x, y]
  | [], m, _, _, h => by simp [zipD] at h
  | _ :: _, [], _, _, h => by simp [zipD] at h
  | x :: l, y :: m, 0, d, h => by
    have h' : some (D.tup [x, y]) = some d := h
    cases h'
    exact ⟨x, y, rfl, rfl, rfl⟩
  | _ :: l, _ :: m, i + 1, d, h => zipD_get l m i d h
theorem walkD_zipL (e : Hv1 a = some (.lst vs)) (r : RepL G.K G.ad Hv1 vs l) (e2 : Hv1 b = some (.lst ws)) (r2 : RepL G.K G.ad Hv1 ws m) (hz : l.length ≤ sizeLine) : WalkD G (Itz G.K a b) (zipD l m) Hv1 where
  goes i H hi s := by rw [zipD_len, ← r.length, ← r2.length] at hi; exact (walk_zip (K := G.K) (a := a) (b := b) (xs := vs) (ys := ws) rfl).goes i H hi ⟨sL e s, sL e2 s⟩
  stops H s := by rw [zipD_len, ← r.length, ← r2.length]; exact (walk_zip (K := G.K) (a := a) (b := b) (xs := vs) (ys := ws) rfl).stops H ⟨sL e s, sL e2 s⟩
  yields i H x H' d hd s y := by
    obtain ⟨T, u, u2, h1, h2, h3, h4, h4'⟩ := y
    obtain ⟨dx, dy, h5, h5', h6⟩ := zipD_get l m i d hd
    obtain ⟨v, h7, h8⟩ := r.get h5
    obtain ⟨v2, h7', h8'⟩ := r2.get h5'
    have h9 := h4 vs (sL e s)
    have h9' := h4' ws (sL e2 s)
    rw [h7] at h9
    rw [h7'] at h9'
    cases h9
    cases h9'
    exact .inr ⟨T, _, _, _, _, h1, h2, h3, h6, h8, h8'⟩
  len := by rw [zipD_len]; exact Nat.le_trans (Nat.min_le_left _ _) hz
theorem walkD_zipT (e : Hv1 a = some (.tup vs)) (r : RepL G.K G.ad Hv1 vs l) (e2 : Hv1 b = some (.tup ws)) (r2 : RepL G.K G.ad Hv1 ws m) (hz : l.length ≤ sizeLine) : WalkD G (RZ.ItzT G.K a b) (zipD l m) Hv1 where
  goes i H hi s := by
    rw [zipD_len, ← r.length, ← r2.length] at hi
    have h1 : i < vs.length := by omega
    have h2 : i < ws.length := by omega
    exact ⟨vs, ws, vs[i], ws[i], sT e s, sT e2 s, by simp [h1], by simp [h2]⟩
  stops H s := by rw [zipD_len, ← r.length, ← r2.length]; exact ⟨vs, ws, sT e s, sT e2 s, by omega⟩
  yields i H x H' d hd s y := by
    obtain ⟨T, u, u2, h1, h2, h3, h4, h4'⟩ := y
    obtain ⟨dx, dy, h5, h5', h6⟩ := zipD_get l m i d hd
    obtain ⟨v, h7, h8⟩ := r.get h5
    obtain ⟨v2, h7', h8'⟩ := r2.get h5'
    have h9 := h4 vs (sT e s)
    have h9' := h4' ws (sT e2 s)
    rw [h7] at h9
    rw [h7'] at h9'
    cases h9
    cases h9'
    exact .inr ⟨T, _, _, _, _, h1, h2, h3, h6, h8, h8'⟩
  len := by rw [zipD_len]; exact Nat.le_trans (Nat.min_le_left _ _) hz
theorem walkD_zipF {p q : Bool} (e : ∀ H, Same Hv1 H → SqB G.K H p a vs) (r : RepL G.K G.ad Hv1 vs l) (e2 : ∀ H, Same Hv1 H → SqB G.K H q b ws) (r2 : RepL G.K G.ad Hv1 ws m) (hz : l.length ≤ sizeLine) : WalkD G (Itf G.K p q a b) (zipD l m) Hv1 where
  goes i H hi s := by
    rw [zipD_len, ← r.length, ← r2.length] at hi
    have h1 : i < vs.length := by omega
    have h2 : i < ws.length := by omega
    exact ⟨vs, ws, vs[i], ws[i], e H s, e2 H s, by simp [h1], by simp [h2]⟩
  stops H s := by rw [zipD_len, ← r.length, ← r2.length]; exact ⟨vs, ws, e H s, e2 H s, by omega⟩
  yields i H x H' d hd s y := by
    obtain ⟨T, u, u2, h1, h2, h3, h4, h4'⟩ := y
    obtain ⟨dx, dy, h5, h5', h6⟩ := zipD_get l m i d hd
    obtain ⟨v, h7, h8⟩ := r.get h5
    obtain ⟨v2, h7', h8'⟩ := r2.get h5'
    have h9 := h4 vs (e H s)
    have h9' := h4' ws (e2 H s)
    rw [h7] at h9
    rw [h7'] at h9'
    cases h9
    cases h9'
    exact .inr ⟨T, _, _, _, _, h1, h2, h3, h6, h8, h8'⟩
  len := by rw [zipD_len]; exact Nat.le_trans (Nat.min_le_left _ _) hz
theorem walkD_rev (e : Hv1 a = some (.lst vs)) (r : RepL G.K G.ad Hv1 vs l) (hz : l.length ≤ sizeLine) : WalkD G (Itv G.K a vs.length) l.reverse Hv1 where
  goes i H hi s := by rw [List.length_reverse, ← r.length] at hi; exact walk_rev.goes i H hi (sL e s)
  stops H s := by rw [List.length_reverse, ← r.length]; exact walk_rev.stops H (sL e s)
  yields i H x H' d hd s y := by
    have hi : i < l.length := by
      have := (List.getElem?_eq_some_iff.mp hd).1
      rwa [List.length_reverse] at this
    obtain ⟨h1, h2⟩ := walk_rev.yields i H x H' (by rw [r.length]; exact hi) (sL e s) y
    rw [List.getElem?_reverse hi] at hd
    obtain ⟨v, h3, h4⟩ := r.get hd
    rw [r.length] at h2
    rw [h3] at h2
    cases h2
    exact .inl ⟨h1, h4⟩
  len := by rw [List.length_reverse]; exact hz
theorem walkD_rng {lo : Int} {n : Nat} (hz : n ≤ sizeLine) : WalkD G (Itr lo n) ((List.range n).map fun (k : Nat) => D.int (lo + k)) Hv1 where
  goes i H hi s := by rw [List.length_map, List.length_range] at hi; exact hi
  stops H s := by rw [List.length_map, List.length_range]; exact Nat.le_refl _
  yields i H x H' d hd s y := by
    obtain ⟨h1, h2⟩ := y
    rw [List.getElem?_map] at hd
    cases h : (List.range n)[i]? with
    | none => rw [h] at hd; cases hd
    | some j =>
      rw [h] at hd
      have hj : j = i := by
        obtain ⟨hl, e⟩ := List.getElem?_eq_some_iff.mp h
        rw [List.getElem_range] at e
        exact e.symm
      subst hj
      cases hd
      rw [h2]
      exact .inl ⟨h1, .int _⟩
  len := by rw [List.length_map, List.length_range]; exact hz
theorem walkD_rngC {lo c : Int} {n : Nat} (hz : n ≤ sizeLine) : WalkD G (Itc lo c n) ((List.range n).map fun (k : Nat) => D.int (lo + k * c)) Hv1 where
  goes i H hi s := by rw [List.length_map, List.length_range] at hi; exact hi
  stops H s := by rw [List.length_map, List.length_range]; exact Nat.le_refl _
  yields i H x H' d hd s y := by
    obtain ⟨h1, h2⟩ := y
    rw [List.getElem?_map] at hd
    cases h : (List.range n)[i]? with
    | none => rw [h] at hd; cases hd
    | some j =>
      rw [h] at hd
      have hj : j = i := by
        obtain ⟨hl, e⟩ := List.getElem?_eq_some_iff.mp h
        rw [List.getElem_range] at e
        exact e.symm
      subst hj
      cases hd
      rw [h2]
      exact .inl ⟨h1, .int _⟩
  len := by rw [List.length_map, List.length_range]; exact hz
end

section
variable {X : Cx} {Γ : Gam} {e a b c tg : Expr} {x xa xb xc : E} {pos p : Pos}
theorem line_le {n : Int} (h : n ≤ 16777216) : n.toNat ≤ sizeLine := by
  have : (sizeLine : Nat) = 16777216 := by decide
  rw [this]
  omega
theorem lt62 {n : Int} (h : n ≤ 16777216) : n < 2 ^ 62 := Int.lt_of_le_of_lt h (by decide)
theorem si_rg1 (hΓ : GamOk Γ) (hg : Gl X "range") (hm : X.mg "range" = none) (hs : NotStar a) (ha : SE X Γ a xa) : PI X tg (.Call (.Name "range" p) [a] [] pos) (iI X.K (wI Γ (.rg1 xa))) := by
  refine PI.of (pi_range1 hg hm (pa_cons ha.ev pa_nil (star_cons hs)) (star_cons hs)) fun σ H R q => ?_
  obtain ⟨G, env, Hv, F, hK, RR, q⟩ := q
  refine ⟨G, env, Hv, F, hK, RR, (w_mo hΓ xa).1 _ _ _ (fun c env1 ⟨n, h1, h2, k⟩ v H1 Hv1 F1 R1 r1 s1 => ?_) q⟩
  have pv := r1.pk R1
  rw [h1] at pv
  refine ⟨n, by rw [pv.int], h2.1, lt62 h2.2, n.toNat, .inr (.inr (line_le h2.2)), fun hz => k _ _ Hv1 F1 R1 s1 ?_⟩
  have z := walkD_rng (G := G) (Hv1 := Hv1) (lo := 0) (line_le h2.2)
  simp only [Int.zero_add] at z
  exact z
theorem si_rg2 (hΓ : GamOk Γ) (hg : Gl X "range") (hm : X.mg "range" = none) (hs : NotStar a) (hs2 : NotStar b) (ha : SE X Γ a xa) (hb : SE X Γ b xb) : PI X tg (.Call (.Name "range" p) [a, b] [] pos) (iI X.K (wI Γ (.rg2 xa xb))) := by
  refine PI.of (pi_range2 hg hm (pa_cons ha.ev (pa_cons hb.ev pa_nil (star_cons hs2)) (star_cons hs)) (by rw [star_cons hs, star_cons hs2]; rfl) (star_cons hs2)) fun σ H R q => ?_
  obtain ⟨G, env, Hv, F, hK, RR, q⟩ := q
  refine ⟨G, env, Hv, F, hK, RR, (w_mo hΓ xa).1 _ _ _ (fun c env1 q1 v H1 Hv1 F1 R1 r1 s1 => ?_) q⟩
  obtain ⟨Hw1, R1, p1, t1⟩ := Res.freeze R1 r1
  refine ⟨G, env1, Hw1, F1, hK, R1, (w_mo hΓ xb).1 _ _ _ (fun c2 env2 ⟨n, m, h1, h2, h3, k⟩ v2 H2 Hv2 F2 R2 r2 s2 => ?_) q1⟩
  rw [h1] at p1
  cases p1
  have pv := r2.pk R2
  rw [h2] at pv
  refine ⟨n, m, by rw [pv.int], ⟨h3.1, h3.2.1, h3.2.2.1, h3.2.2.2.1⟩, (m - n).toNat, .inr (.inr h3.2.2.2.2), fun hz => k _ _ Hv2 F2 R2 ((s1.trans t1).trans s2) (walkD_rng hz)⟩
theorem si_rg3 (hΓ : GamOk Γ) (hg : Gl X "range") (hm : X.mg "range" = none) (hs : NotStar a) (hs2 : NotStar b) (hs3 : NotStar c) (ha : SE X Γ a xa) (hb : SE X Γ b xb) (hc : SE X Γ c xc) : PI X tg (.Call (.Name "range" p) [a, b, c] [] pos) (iI X.K (wI Γ (.rg3 xa xb xc))) := by
  refine PI.of (pi_range3 hg hm (pa_cons ha.ev (pa_cons hb.ev (pa_cons hc.ev pa_nil (star_cons hs3)) (star_cons hs2)) (star_cons hs)) (star_cons hs) (by rw [star_cons hs2, star_cons hs3]; rfl)) fun σ H R q => ?_
  obtain ⟨G, env, Hv, F, hK, RR, q⟩ := q
  refine ⟨G, env, Hv, F, hK, RR, (w_mo hΓ xa).1 _ _ _ (fun c env1 q1 v H1 Hv1 F1 R1 r1 s1 => ?_) q⟩
  obtain ⟨Hw1, R1, p1, t1⟩ := Res.freeze R1 r1
  refine ⟨G, env1, Hw1, F1, hK, R1, (w_mo hΓ xb).1 _ _ _ (fun c2 env2 q2 v2 H2 Hv2 F2 R2 r2 s2 => ?_) q1⟩
  obtain ⟨Hw2, R2, p2, t2⟩ := Res.freeze R2 r2
  refine ⟨G, env2, Hw2, F2, hK, R2, (w_mo hΓ xc).1 _ _ _ (fun c3 env3 ⟨x, y, z, n, h1, h2, h3, hr, hn, k⟩ v3 H3 Hv3 F3 R3 r3 s3 => ?_) q2⟩
  rw [h1] at p1
  rw [h2] at p2
  cases p1
  cases p2
  have pv := r3.pk R3
  rw [h3] at pv
  refine ⟨x, y, z, n, by rw [pv.int], hr, n, .inr (.inr hn), fun hz => k _ _ Hv3 F3 R3 (((s1.trans t1).trans (s2.trans t2)).trans s3) (walkD_rngC hz)⟩
theorem si_sq (hΓ : GamOk Γ) (ha : SE X Γ a xa) : PI X tg a (iI X.K (wI Γ (.sq xa))) := by
  refine PI.of (pi_seq ha.ev) fun σ H R q => ?_
  obtain ⟨G, env, Hv, F, hK, RR, q⟩ := q
  refine ⟨G, env, Hv, F, hK, RR, (w_mo hΓ xa).1 _ _ _ (fun c env1 ⟨l, h1, k⟩ v H1 Hv1 F1 R1 r1 s1 => ?_) q⟩
  obtain ⟨Hw1, R1, p1, t1⟩ := Res.freeze R1 r1
  rcases h1 with h1 | h1
  · rw [h1] at p1
    cases p1 with
    | lst e r =>
      refine ⟨_, rfl, .inl ⟨⟨_, SqL.of (R1.hs.sub _ _ e)⟩, l.length, .inl ⟨_, _, SqL.of (R1.hs.sub _ _ e), r.length⟩, fun hz => ?_⟩⟩
      rw [← hK]
      exact k _ _ Hw1 F1 R1 (s1.trans t1) (walkD_list e r hz)
  · rw [h1] at p1
    cases p1 with
    | tup e r =>
      refine ⟨_, rfl, .inr ⟨⟨_, SqT.of (R1.hs.sub _ _ e)⟩, l.length, .inr (.inl ⟨_, _, SqT.of (R1.hs.sub _ _ e), r.length⟩), fun hz => ?_⟩⟩
      rw [← hK]
      exact k _ _ Hw1 F1 R1 (s1.trans t1) (walkD_tup e r hz)
theorem si_en {elts : List Expr} {kk : Nat} {tp : Pos} (hΓ : GamOk Γ) (hg : Gl X "enumerate") (hm : X.mg "enumerate" = none) (hs : NotStar a) (ha : SE X Γ a xa) : PI X (.Tuple elts kk tp) (.Call (.Name "enumerate" p) [a] [] pos) (iI X.K (wI Γ (.en xa))) := by
  refine PI.of (pi_enumT hg hm (pa_cons ha.ev pa_nil (star_cons hs)) (star_cons hs)) fun σ H R q => ?_
  obtain ⟨G, env, Hv, F, hK, RR, q⟩ := q
  refine ⟨G, env, Hv, F, hK, RR, (w_mo hΓ xa).1 _ _ _ (fun c env1 ⟨l, h1, k⟩ v H1 Hv1 F1 R1 r1 s1 => ?_) q⟩
  obtain ⟨Hw1, R1, p1, t1⟩ := Res.freeze R1 r1
  rcases h1 with h1 | h1
  · rw [h1] at p1
    cases p1 with
    | lst e r =>
      refine ⟨_, _, rfl, .inl ⟨SqL.of (R1.hs.sub _ _ e), l.length, .inl ⟨_, _, SqL.of (R1.hs.sub _ _ e), r.length⟩, fun hz => ?_⟩⟩
      rw [← hK]
      exact k _ _ Hw1 F1 R1 (s1.trans t1) (walkD_enumL e r hz)
  · rw [h1] at p1
    cases p1 with
    | tup e r =>
      refine ⟨_, _, rfl, .inr ⟨SqT.of (R1.hs.sub _ _ e), l.length, .inr (.inl ⟨_, _, SqT.of (R1.hs.sub _ _ e), r.length⟩), fun hz => ?_⟩⟩
      rw [← hK]
      exact k _ _ Hw1 F1 R1 (s1.trans t1) (walkD_enumT e r hz)
theorem si_zp {elts : List Expr} {kk : Nat} {tp : Pos} (hΓ : GamOk Γ) (hg : Gl X "zip") (hm : X.mg "zip" = none) (hs : NotStar a) (hs2 : NotStar b) (ha : SE X Γ a xa) (hb : SE X Γ b xb) : PI X (.Tuple elts kk tp) (.Call (.Name "zip" p) [a, b] [] pos) (iI X.K (wI Γ (.zp xa xb))) := by
  refine PI.of (pi_feeds hg hm (pa_cons ha.ev (pa_cons hb.ev pa_nil (star_cons hs2)) (star_cons hs)) (star_cons hs) (by rw [star_cons hs2]; rfl)) fun σ H R q => ?_
  obtain ⟨G, env, Hv, F, hK, RR, q⟩ := q
  refine ⟨G, env, Hv, F, hK, RR, (w_mo hΓ xa).1 _ _ _ (fun c env1 q1 v H1 Hv1 F1 R1 r1 s1 => ?_) q⟩
  obtain ⟨Hw1, R1, p1, t1⟩ := Res.freeze R1 r1
  refine ⟨G, env1, Hw1, F1, hK, R1, (w_mo hΓ xb).1 _ _ _ (fun c2 env2 ⟨l, m, h1, k⟩ v2 H2 Hv2 F2 R2 r2 s2 => ?_) q1⟩
  obtain ⟨Hw2, R2, p2, t2⟩ := Res.freeze R2 r2
  have p1 := p1.mono (s2.trans t2)
  have st := (s1.trans t1).trans (s2.trans t2)
  have sq : ∀ {v : V} {d : D} {l : List D}, Rep G.K G.ad Hw2 v d → (d = .lst l ∨ d = .tup l) → ∃ (p : Bool) (a : Addr) (vs : List V), v = .ref a ∧ (∀ H, Same Hw2 H → SqB G.K H p a vs) ∧ RepL G.K G.ad Hw2 vs l := by
    intro v d l p h
    rcases h with rfl | rfl
    · cases p with
      | lst e r => exact ⟨false, _, _, rfl, fun H s => sL e s, r⟩
    · cases p with
      | tup e r => exact ⟨true, _, _, rfl, fun H s => sT e s, r⟩
  obtain ⟨pa, aa, vs, ea, ka, ra⟩ := sq (l := l) p1 (by rcases h1 with h | h | h | h; exact .inl h.1; exact .inr h.1; exact .inr h.1; exact .inl h.1)
  obtain ⟨pb, ab, ws, eb, kb, rb⟩ := sq (l := m) p2 (by rcases h1 with h | h | h | h; exact .inl h.2; exact .inr h.2; exact .inl h.2; exact .inr h.2)
  have fa := ka _ (R2.hs.sub)
  have fb := kb _ (R2.hs.sub)
  rw [hK] at fa fb
  refine ⟨pa, pb, aa, ab, vs, ws, by rw [ea, eb], fa, fb, l.length, ?_, fun hz => ?_⟩
  · cases pa with
    | false => exact .inl ⟨_, _, fa, ra.length⟩
    | true => exact .inr (.inl ⟨_, _, fa, ra.length⟩)
  · rw [← hK]
    exact k _ _ Hw2 F2 R2 st (walkD_zipF ka ra kb rb hz)
theorem si_rev (hΓ : GamOk Γ) (hg : Gl X "reversed") (hm : X.mg "reversed" = none) (hs : NotStar a) (ha : SE X Γ a xa) : PI X tg (.Call (.Name "reversed" p) [a] [] pos) (iI X.K (wI Γ (.rev xa))) := by
  refine PI.of (pi_reversed hg hm (pa_cons ha.ev pa_nil (star_cons hs)) (star_cons hs)) fun σ H R q => ?_
  obtain ⟨G, env, Hv, F, hK, RR, q⟩ := q
  refine ⟨G, env, Hv, F, hK, RR, (w_mo hΓ xa).1 _ _ _ (fun c env1 ⟨l, h1, k⟩ v H1 Hv1 F1 R1 r1 s1 => ?_) q⟩
  obtain ⟨Hw1, R1, p1, t1⟩ := Res.freeze R1 r1
  rw [h1] at p1
  cases p1 with
  | lst e r =>
    refine ⟨_, _, rfl, SqL.of (R1.hs.sub _ _ e), l.length, .inl ⟨_, _, SqL.of (R1.hs.sub _ _ e), r.length⟩, fun hz => ?_⟩
    rw [← hK]
    exact k _ _ Hw1 F1 R1 (s1.trans t1) (walkD_rev e r hz)
end
end B

namespace B
open PySem PySem.Spec L2

section
variable {G : Gd} {env env' : En} {σ : St} {H Hv H' Hv' : Hp} {F F' : Addr → Prop} {v : V} {c : C} {p : Addr} {o o' : HO}
theorem Rel.aside (R : Rel G env σ H Hv F) (hp : H p = none) : Rel (G.aside p o) env σ (upd H p o) Hv F where
  len := R.len
  hs := ⟨same_upd R.hs.sub (R.hs.hv_none hp), R.hs.old, fun b u e => by
    have e' : upd G.T p o b = some u := e
    by_cases hb : b = p
    · subst hb
      rw [upd_same] at e'
      cases e'
      exact ⟨upd_same, R.hs.hv_none hp, R.hs.notF hp⟩
    · rw [upd_ne hb] at e'
      obtain ⟨h1, h2, h3⟩ := R.hs.tmp b u e'
      exact ⟨by rw [upd_ne hb]; exact h1, h2, h3⟩, (R.hs.new (o := o) hp).dk, (R.hs.new (o := o) hp).dkv⟩
  sl := fun i c e => by
    obtain ⟨v, h1, h2⟩ := R.sl i c e
    refine ⟨v, h1, ?_⟩
    cases c with
    | sh d => exact h2
    | ow d =>
      obtain ⟨a, rfl, ⟨n1, n2, n3⟩, o1⟩ := h2
      have hne : a ≠ p := fun z => R.apart_new hp i d e (by rw [← z]; exact h1)
      exact ⟨a, rfl, ⟨n1, n2, by show upd G.T p o a = none; rw [upd_ne hne]; exact n3⟩, o1.mono rfl rfl (upd_ne hne) (Same.refl _)⟩
  ap := R.ap
theorem Rel.from (R : Rel G env σ H Hv F) : Rel (G.from_ Hv) env σ H Hv F where
  len := R.len
  hs := ⟨R.hs.sub, Same.refl _, R.hs.tmp, R.hs.dk, R.hs.dkv⟩
  sl := fun i c e => by
    obtain ⟨v, h1, h2⟩ := R.sl i c e
    exact ⟨v, h1, by cases c <;> exact h2⟩
  ap := R.ap
/-- the object set aside is another one now -/
theorem Rel.reside (R : Rel (G.aside p o) env σ H Hv F) : Rel (G.aside p o') env σ (upd H p o') Hv F := by
  obtain ⟨hpo, hpv, hpF⟩ := R.hs.tmp p o upd_same
  refine ⟨⟨same_upd R.hs.sub hpv, R.hs.old, fun b u e => ?_, Dk_loc R.hs.dk fun b hb => upd_ne fun z => hpF (z ▸ hb), fun b hb => ?_⟩, R.len, fun i c e => ?_, R.ap⟩
  · have e' : upd G.T p o' b = some u := e
    by_cases hb : b = p
    · subst hb
      rw [upd_same] at e'
      cases e'
      exact ⟨upd_same, hpv, hpF⟩
    · rw [upd_ne hb] at e'
      obtain ⟨h1, h2, h3⟩ := R.hs.tmp b u (by show upd G.T p o b = some u; rw [upd_ne hb]; exact e')
      exact ⟨by rw [upd_ne hb]; exact h1, h2, h3⟩
  · obtain ⟨h1, u, h2⟩ := R.hs.dkv b hb
    exact ⟨h1, u, by rw [upd_ne (show b ≠ p from fun z => hpF (z ▸ hb))]; exact h2⟩
  · obtain ⟨v, h1, h2⟩ := R.sl i c e
    refine ⟨v, h1, ?_⟩
    cases c with
    | sh d => exact h2
    | ow d =>
      obtain ⟨a, rfl, ⟨n1, n2, n3⟩, o1⟩ := h2
      have n3' : upd G.T p o a = none := n3
      have hne : a ≠ p := fun z => by rw [z, upd_same] at n3'; cases n3'
      rw [upd_ne hne] at n3'
      exact ⟨a, rfl, ⟨n1, n2, by show upd G.T p o' a = none; rw [upd_ne hne]; exact n3'⟩, o1.mono rfl rfl (upd_ne hne) (Same.refl _)⟩
theorem wipeE_len (env : En) : ∀ own : List Nat, (wipeE env own).length = env.length
  | [] => rfl
  | i :: is => by unfold wipeE; rw [List.length_set, wipeE_len env is]
theorem wipeE_out {env : En} {i : Nat} : ∀ {own : List Nat}, i ∉ own → (wipeE env own)[i]? = env[i]?
  | [], _ => rfl
  | j :: own, h => by
    unfold wipeE
    rw [List.getElem?_set_ne fun z => h (by rw [z]; exact List.mem_cons_self)]
    exact wipeE_out fun z => h (List.mem_cons_of_mem _ z)
theorem wipeE_in {env : En} {i : Nat} {c : C} : ∀ {own : List Nat}, (wipeE env own)[i]? = some (some c) → i ∉ own
  | [], _ => List.not_mem_nil
  | j :: own, h => by
    unfold wipeE at h
    by_cases hj : j = i
    · subst hj
      by_cases hl : j < (wipeE env own).length
      · rw [List.getElem?_set_self hl] at h; cases h
      · rw [List.getElem?_eq_none (by rw [List.length_set]; omega)] at h; cases h
    · rw [List.getElem?_set_ne hj] at h
      have := wipeE_in h
      exact fun z => (List.mem_cons.mp z).elim (fun e => hj e.symm) this
theorem wipe_out' {σ : St} {i : Nat} : ∀ {vs : List Nat}, i ∉ vs → (wipe σ vs)[i]? = σ[i]?
  | [], _ => rfl
  | j :: vs, h => by
    unfold wipe
    rw [List.getElem?_set_ne fun z => h (by rw [z]; exact List.mem_cons_self)]
    exact wipe_out' fun z => h (List.mem_cons_of_mem _ z)
theorem wipe_wipe (σ : St) (own : List Nat) : wipe (wipe σ own) own = wipe σ own := by
  apply List.ext_getElem?
  intro i
  by_cases hi : i ∈ own
  · have key : ∀ (own : List Nat) (τ : St), i ∈ own → (wipe τ own)[i]? = if i < τ.length then some none else none := by
      intro own
      induction own with
      | nil => intro τ h; cases h
      | cons j own ih =>
        intro τ h
        unfold wipe
        by_cases hj : j = i
        · subst hj
          by_cases hl : j < τ.length
          · rw [List.getElem?_set_self (by rw [wipe_length]; exact hl), if_pos hl]
          · rw [List.getElem?_eq_none (by rw [List.length_set, wipe_length]; omega), if_neg hl]
        · rw [List.getElem?_set_ne hj]
          exact ih τ ((List.mem_cons.mp h).resolve_left fun z => hj z.symm)
    rw [key own _ hi, key own _ hi, wipe_length]
  · rw [wipe_out' hi]
theorem Rel.wipe (R : Rel G env σ H Hv F) (own : List Nat) : Rel G (wipeE env own) (L2.wipe σ own) H Hv F where
  len := by rw [wipeE_len, wipe_length]; exact R.len
  hs := R.hs
  sl := fun i c e => by
    have hi := wipeE_in e
    rw [wipeE_out hi] at e
    rw [wipe_out' hi]
    exact R.sl i c e
  ap := fun i j d e v hne ei ej si sj => by
    have hi := wipeE_in ei
    have hj := wipeE_in ej
    rw [wipeE_out hi] at ei
    rw [wipeE_out hj] at ej
    rw [wipe_out' hi] at si
    rw [wipe_out' hj] at sj
    exact R.ap i j d e v hne ei ej si sj
theorem giveE_len (env : En) : ∀ own : List Nat, (giveE env own).length = env.length
  | [] => rfl
  | i :: is => by
    unfold giveE
    split
    · rw [List.length_set, giveE_len env is]
    · exact giveE_len env is
theorem Rel.give (R : Rel G env σ H Hv F) : ∀ own : List Nat, ∃ Hv', Rel G (giveE env own) σ H Hv' F ∧ Same Hv Hv'
  | [] => ⟨Hv, R, Same.refl _⟩
  | i :: is => by
    obtain ⟨Hv1, R1, s1⟩ := Rel.give R is
    unfold giveE
    split
    · rename_i c hc
      obtain ⟨u, h1, _⟩ := R1.sl i c hc
      obtain ⟨Hv2, R2, _, s2⟩ := R1.freeze hc h1
      exact ⟨Hv2, R2, s1.trans s2⟩
    · exact ⟨Hv1, R1, s1⟩
theorem giveE_sh {env : En} {i : Nat} {d : D} : ∀ {own : List Nat}, i ∈ own → (giveE env own)[i]? ≠ some (some (.ow d))
  | j :: own, h => by
    unfold giveE
    split
    · rename_i c hc
      by_cases hj : j = i
      · subst hj
        rw [set_self hc]
        intro z
        cases z
      · rw [List.getElem?_set_ne hj]
        exact giveE_sh ((List.mem_cons.mp h).resolve_left fun z => hj z.symm)
    · rename_i hn
      by_cases hj : j = i
      · subst hj
        intro z
        exact hn _ z
      · exact giveE_sh ((List.mem_cons.mp h).resolve_left fun z => hj z.symm)
theorem backE_len (env env' : En) : ∀ own : List Nat, (backE env env' own).length = env'.length
  | [] => rfl
  | i :: is => by
    unfold backE
    split
    · rw [List.length_set, backE_len env env' is]
    · exact backE_len env env' is
theorem backE_out {env env' : En} {i : Nat} : ∀ {own : List Nat}, i ∉ own → (backE env env' own)[i]? = env'[i]?
  | [], _ => rfl
  | j :: own, h => by
    have h1 : j ≠ i := fun z => h (by rw [z]; exact List.mem_cons_self)
    have h2 : i ∉ own := fun z => h (List.mem_cons_of_mem _ z)
    unfold backE
    split
    · rw [List.getElem?_set_ne h1]; exact backE_out h2
    · exact backE_out h2
theorem backE_in {env env' : En} (hl : env.length = env'.length) {i : Nat} : ∀ {own : List Nat}, i ∈ own → (backE env env' own)[i]? = env[i]?
  | j :: own, h => by
    unfold backE
    split
    · rename_i c hc
      by_cases hj : j = i
      · subst hj
        rw [List.getElem?_set_self (by rw [backE_len, ← hl]; exact (List.getElem?_eq_some_iff.mp hc).1), hc]
      · rw [List.getElem?_set_ne hj]
        exact backE_in hl ((List.mem_cons.mp h).resolve_left fun z => hj z.symm)
    · rename_i hc
      by_cases hj : j = i
      · subst hj
        have : env[j]? = none := hc
        rw [this]
        rw [List.getElem?_eq_none_iff] at this ⊢
        rw [backE_len, ← hl]
        exact this
      · exact backE_in hl ((List.mem_cons.mp h).resolve_left fun z => hj z.symm)
/-- behind a block: the own slots are what they were -/
theorem Rel.back {Hv0 : Hp} {H0 : Hp} {F0 : Addr → Prop} {own : List Nat} (R0 : Rel G env σ H0 Hv0 F0) (hsh : ∀ i d, i ∈ own → env[i]? ≠ some (some (.ow d))) (hTp : G.T p = none) (R : Rel ((G.from_ Hv0).aside p o) (wipeE env' own) (L2.wipe σ own) H Hv F) : Rel G (backE env env' own) σ H Hv F := by
  have hl : env.length = env'.length := by
    have h1 := R.len
    rw [wipeE_len, wipe_length] at h1
    rw [h1]
    exact R0.len
  refine ⟨⟨R.hs.sub, R0.hs.old.trans R.hs.old, fun b u e => ?_, R.hs.dk, R.hs.dkv⟩, by rw [backE_len, ← hl]; exact R0.len, fun i c e => ?_, fun i j d e v hne ei ej si sj => ?_⟩
  · exact R.hs.tmp b u (by
      show upd G.T p o b = some u
      rw [upd_ne (fun z => by rw [z, hTp] at e; cases e)]
      exact e)
  · by_cases hi : i ∈ own
    · rw [backE_in hl hi] at e
      obtain ⟨v, h1, h2⟩ := R0.sl i c e
      refine ⟨v, h1, ?_⟩
      cases c with
      | sh d => exact Rep.mono R.hs.old h2
      | ow d => exact absurd e (hsh i d hi)
    · rw [backE_out hi] at e
      obtain ⟨v, h1, h2⟩ := R.sl i c (by rw [wipeE_out hi]; exact e)
      rw [wipe_out' hi] at h1
      refine ⟨v, h1, ?_⟩
      cases c with
      | sh d => exact h2
      | ow d =>
        obtain ⟨a, rfl, ⟨n1, n2, n3⟩, o1⟩ := h2
        have n3' : upd G.T p o a = none := n3
        have hne : a ≠ p := fun z => by rw [z, upd_same] at n3'; cases n3'
        rw [upd_ne hne] at n3'
        exact ⟨a, rfl, ⟨n1, n2, n3'⟩, o1.mono rfl rfl rfl (Same.refl _)⟩
  · have hi : i ∉ own := fun h => hsh i d h (by rw [← backE_in hl h]; exact ei)
    have hj : j ∉ own := fun h => hsh j e h (by rw [← backE_in hl h]; exact ej)
    rw [backE_out hi] at ei
    rw [backE_out hj] at ej
    exact R.ap i j d e v hne (by rw [wipeE_out hi]; exact ei) (by rw [wipeE_out hj]; exact ej) (by rw [wipe_out' hi]; exact si) (by rw [wipe_out' hj]; exact sj)
end

/-! ### tests of a comprehension -/
theorem PTs.of {X : Cx} {ifs : List Expr} {t t' : TT} (h : PTs X ifs t') (i : ∀ σ H Q, t σ H Q → t' σ H Q) : PTs X ifs t := ⟨fun pins s σ H Q I q => h.run pins s σ H Q I (i σ H Q q)⟩
section
variable {X : Cx} {Γ : Gam} {e a : Expr} {xa : E}
theorem sc_no : PTs X [] (tT X.K (wC Γ .no)) := PTs.of pts_nil fun σ H Q q => by
  obtain ⟨G, env, Hv, F, hK, R, q⟩ := q
  exact q H Hv F R (Same.refl _)
theorem sc_so (ha : SE X Γ a xa) : PTs X [a] (tT X.K (wC Γ (.so xa))) := pts_one ha.te

/-! ### comprehensions -/
theorem lc_val {σ : St} {H : Hp} {Q : VK} {own : List Nat} {t : T} {it : It} {cnd : Oe} {elt : E} (hΓ : GamOk Γ) (hown : own ≠ []) (hv : ∀ i ∈ t.vars, i ∈ own) (hok : t.ok = true)
    (q : tE X.K (w Γ (.comp own t it cnd elt)).ev σ H Q) : tLc (iI X.K (wI Γ it)) (gOf X.K t) (tT X.K (wC Γ cnd)) (tE X.K (w Γ elt).ev) own σ H Q := by
  obtain ⟨G, env, Hv, F, hK, R, q⟩ := q
  have q' : wI Γ it env fun ds env1 => lcGo (fun d => wTg t (.sh d)) (wC Γ cnd) (w Γ elt).ev own ds (giveE env1 own) [] fun acc env2 => Kont G (backE (giveE env1 own) env2 own) σ Hv Q (.ow (.lst acc)) := q
  refine ⟨G, env, Hv, F, hK, R, wI_mo hΓ it _ _ _ (fun ds env1 z J H1 Hv1 F1 R1 s1 wd D hD => ?_) q'⟩
  obtain ⟨Hv0, R0, s0⟩ := R1.give own
  have hTD : G.T D = none := R0.hs.notT hD
  -- the state at a turn
  refine ⟨fun i m H2 => m = ds.length - i ∧ i ≤ ds.length ∧ ∃ env2 Hv2 F2 vs acc, Rel ((G.from_ Hv0).aside D (.lst vs)) (wipeE env2 own) (L2.wipe σ own) H2 Hv2 F2 ∧ RepL G.K G.ad Hv2 vs acc ∧ acc.length ≤ i ∧
      lcGo (fun d => wTg t (.sh d)) (wC Γ cnd) (w Γ elt).ev own (ds.drop i) env2 acc fun acc env2 => Kont G (backE (giveE env1 own) env2 own) σ Hv Q (.ow (.lst acc)), ⟨_, rfl, Nat.zero_le _, giveE env1 own, Hv0, F1, [], [], (R0.from.aside hD).wipe own, .nil, Nat.le_refl _, z⟩, ?_⟩
  rintro i m H2 ⟨rfl, hi, env2, Hv2, F2, vs, acc, R2, rv, hl, z⟩
  have sub2 : Same Hv1 H2 := (s0.trans R2.hs.old).trans R2.hs.sub
  obtain ⟨hD2, hDv2, hDF2⟩ := R2.hs.tmp D _ upd_same
  by_cases hlt : i < ds.length
  · refine .inr ⟨wd.goes i H2 hlt sub2, _, fun H3 n3 => ⟨ds.length - (i + 1), by omega, n3⟩, fun x H3 y => ?_⟩
    have hdrop : ds.drop i = ds[i] :: ds.drop (i + 1) := List.drop_eq_getElem_cons hlt
    rw [hdrop] at z
    have z' : wTg t (.sh ds[i]) (wipeE env2 own) fun env3 => wC Γ cnd env3 fun b env4 => if b = true then (w Γ elt).ev env4 fun c env5 => lcGo (fun d => wTg t (.sh d)) (wC Γ cnd) (w Γ elt).ev own (ds.drop (i + 1)) env5 (acc ++ [c.d]) fun acc env2 => Kont G (backE (giveE env1 own) env2 own) σ Hv Q (.ow (.lst acc))
      else lcGo (fun d => wTg t (.sh d)) (wC Γ cnd) (w Γ elt).ev own (ds.drop (i + 1)) env4 acc fun acc env2 => Kont G (backE (giveE env1 own) env2 own) σ Hv Q (.ow (.lst acc)) := z
    -- the item, in sight
    have item : ∃ Hv3, Rel ((G.from_ Hv0).aside D (.lst vs)) (wipeE env2 own) (L2.wipe σ own) H3 Hv3 F2 ∧ Rep G.K G.ad Hv3 x ds[i] ∧ Same Hv2 Hv3 := by
      rcases wd.yields i H2 x H3 ds[i] (List.getElem?_eq_getElem hlt) sub2 y with ⟨rfl, h1⟩ | ⟨T, u, v, a, b, rfl, h1, rfl, h2, h3, h4⟩
      · exact ⟨Hv2, R2, h1.mono (s0.trans R2.hs.old), Same.refl _⟩
      · have hs := same_self_upd (o := .tup [u, v]) (R2.hs.hv_none h1)
        refine ⟨upd Hv2 T (.tup [u, v]), R2.news h1, ?_, hs⟩
        rw [h2]
        exact .tup upd_same (.cons (h3.mono ((s0.trans R2.hs.old).trans hs)) (.cons (h4.mono ((s0.trans R2.hs.old).trans hs)) .nil))
    obtain ⟨Hv3, R3, rx, s3⟩ := item
    rw [← hK]
    refine gOf_ok (G := (G.from_ Hv0).aside D (.lst vs)) t (own := own) R3 (Res.sh rx) z' (fun j hj => .inl (hv j hj)) (fun env3 σ3 R4 z4 w4 => ?_) hok
    have hw : L2.wipe σ3 own = L2.wipe σ own := (w4 hown).trans (wipe_wipe σ own)
    refine ⟨hw, ?_⟩
    refine ⟨(G.from_ Hv0).aside D (.lst vs), env3, Hv3, F2, rfl, R4, wC_mo hΓ cnd _ _ _ (fun b env4 z5 H5 Hv5 F5 R5 s5 => ?_) z4⟩
    cases b with
    | false =>
      rw [if_neg Bool.false_ne_true] at z5 ⊢
      exact ⟨rfl, hlt, env4, Hv5, F5, vs, acc, by rw [← hw]; exact R5.wipe own, rv.mono (s3.trans s5), by omega, z5⟩
    | true =>
      rw [if_pos rfl] at z5 ⊢
      refine ⟨(G.from_ Hv0).aside D (.lst vs), env4, Hv5, F5, rfl, R5, (w_mo hΓ elt).1 _ _ _ (fun c env5 z6 y6 H6 Hv6 F6 R6 r6 s6 => ?_) z5⟩
      obtain ⟨Hv7, R7, r7, s7⟩ := Res.freeze R6 r6
      obtain ⟨hD7, _, _⟩ := R7.hs.tmp D _ upd_same
      refine ⟨vs, hD7, ?_, rfl, hlt, env5, Hv7, F6, vs ++ [y6], acc ++ [c.d], ?_, ?_, ?_, z6⟩
      · rw [rv.length]
        exact Nat.lt_of_lt_of_le (Nat.lt_of_le_of_lt hl hlt) wd.len
      · rw [← hw]
        exact (Rel.reside R7).wipe own
      · exact (rv.mono ((s3.trans s5).trans (s6.trans s7))).append (.cons r7 .nil)
      · rw [List.length_append, List.length_singleton]
        omega
  · have e : i = ds.length := by omega
    subst e
    refine .inl ⟨wd.stops H2 sub2, ?_⟩
    rw [List.drop_length] at z
    have z' : Kont G (backE (giveE env1 own) env2 own) σ Hv Q (.ow (.lst acc)) := z
    have RB := Rel.back R0 (fun i d hi => giveE_sh hi) hTD R2
    refine z' _ _ Hv2 F2 RB ⟨⟨D, rfl, ⟨hDv2, hDF2, hTD⟩, vs, hD2, rv⟩, fun d _ j e' hj hσ => ?_⟩ ((s1.trans s0).trans R2.hs.old)
    obtain ⟨v, h1, h2⟩ := RB.sl j _ hj
    have hjn : j ∉ own := fun h => by
      have hl : (giveE env1 own).length = env2.length := by
        have h1 := R2.len
        rw [wipeE_len, wipe_length] at h1
        rw [h1]
        exact R0.len
      rw [backE_in hl h] at hj
      exact giveE_sh h hj
    rw [backE_out hjn] at hj
    obtain ⟨v2, h3, h4⟩ := R2.sl j _ (by rw [wipeE_out hjn]; exact hj)
    rw [wipe_out' hjn, hσ] at h3
    cases h3
    obtain ⟨a, ea, ⟨_, _, n3⟩, _⟩ := h4
    cases ea
    have n3' : upd G.T D (.lst vs) D = none := n3
    rw [upd_same] at n3'
    cases n3'
end
end B

namespace B
open PySem PySem.Spec L2

/-! ### statements by value -/
structure Link (G : Gd) (Hv : Hp) (Xd : Ed) (D : Ends) : Prop where
  nx : ∀ env' σ' H' Hv' F', Xd.nx env' → Rel G env' σ' H' Hv' F' → Same Hv Hv' → D.nx σ' H'
  rt : ∀ c env' σ' v H' Hv' F', Xd.rt c → Rel G env' σ' H' Hv' F' → Res G env' σ' H' Hv' F' v c → Same Hv Hv' → D.rt v H'
  bk : ∀ env' σ' H' Hv' F', Xd.bk env' → Rel G env' σ' H' Hv' F' → Same Hv Hv' → D.bk σ' H'
  ct : ∀ env' σ' H' Hv' F', Xd.ct env' → Rel G env' σ' H' Hv' F' → Same Hv Hv' → D.ct σ' H'
def tS (K : PySem.W.Frag) (ws : WS) : TS := fun D σ H => ∃ G env Hv F Xd, G.K = K ∧ Rel G env σ H Hv F ∧ ws Xd env ∧ Link G Hv Xd D
theorem Link.later {G : Gd} {Hv Hv' : Hp} {Xd : Ed} {D : Ends} (L : Link G Hv Xd D) (s : Same Hv Hv') : Link G Hv' Xd D :=
  ⟨fun e σ H V F x R s' => L.nx e σ H V F x R (s.trans s'), fun c e σ v H V F x R r s' => L.rt c e σ v H V F x R r (s.trans s'), fun e σ H V F x R s' => L.bk e σ H V F x R (s.trans s'), fun e σ H V F x R s' => L.ct e σ H V F x R (s.trans s')⟩
theorem PS.of {X : Cx} {st : Stmt} {t t' : TS} (h : PS X st t') (i : ∀ D σ H, t D σ H → t' D σ H) : PS X st t := ⟨fun pins s σ H D I q => h.run pins s σ H D I (i D σ H q)⟩
theorem PSs.of {X : Cx} {st : List Stmt} {t t' : TS} (h : PSs X st t') (i : ∀ D σ H, t D σ H → t' D σ H) : PSs X st t := ⟨fun pins s σ H D I q => h.run pins s σ H D I (i D σ H q)⟩

section
variable {G : Gd} {env : En} {σ : St} {H Hv Hv0 : Hp} {F : Addr → Prop} {v : V} {c : C} {a p : Addr} {o : HO}
theorem Rel.unfrom (R : Rel (G.from_ Hv0) env σ H Hv F) (s : Same G.V0 Hv0) : Rel G env σ H Hv F where
  len := R.len
  hs := ⟨R.hs.sub, s.trans R.hs.old, R.hs.tmp, R.hs.dk, R.hs.dkv⟩
  sl := fun i c e => by
    obtain ⟨v, h1, h2⟩ := R.sl i c e
    exact ⟨v, h1, by cases c <;> exact h2⟩
  ap := R.ap
theorem Res.unfrom (r : Res (G.from_ Hv0) env σ H Hv F v c) : Res G env σ H Hv F v c := ⟨by cases c <;> exact r.1, r.2⟩
theorem Rel.forget (R : Rel G env σ H Hv F) (i : Nat) : Rel G (env.set i none) σ H Hv F where
  len := by rw [List.length_set]; exact R.len
  hs := R.hs
  sl := fun j c e => R.sl j c (by
    by_cases h : i = j
    · subst h
      by_cases hl : i < env.length
      · rw [List.getElem?_set_self hl] at e; cases e
      · rw [List.getElem?_eq_none (by rw [List.length_set]; omega)] at e; cases e
    · rw [get_set_ne h] at e; exact e)
  ap := fun j k d e v hne ej ek sj sk => by
    have key : ∀ {j : Nat} {d : D}, (env.set i none)[j]? = some (some (.ow d)) → env[j]? = some (some (.ow d)) := by
      intro j d e
      by_cases h : i = j
      · subst h
        by_cases hl : i < env.length
        · rw [List.getElem?_set_self hl] at e; cases e
        · rw [List.getElem?_eq_none (by rw [List.length_set]; omega)] at e; cases e
      · rw [get_set_ne h] at e; exact e
    exact R.ap j k d e v hne (key ej) (key ek) sj sk
/-- a name's content leaves with what it owns -/
theorem Rel.leave (R : Rel G env σ H Hv F) {i : Nat} (e : env[i]? = some (some c)) (e2 : σ[i]? = some (some v)) : Res G (env.set i none) σ H Hv F v c := by
  refine ⟨R.get e e2, fun d ed j d2 ej sj => ?_⟩
  subst ed
  by_cases h : i = j
  · subst h
    by_cases hl : i < env.length
    · rw [List.getElem?_set_self hl] at ej; cases ej
    · rw [List.getElem?_eq_none (by rw [List.length_set]; omega)] at ej; cases ej
  · rw [get_set_ne h] at ej
    exact R.ap i j d d2 v h e ej e2 sj
/-- what was set aside is one's own again -/
theorem Rel.unaside (R : Rel (G.aside p o) env σ H Hv F) (hT : G.T p = none) : Rel G env σ H Hv F where
  len := R.len
  hs := ⟨R.hs.sub, R.hs.old, fun b u e => R.hs.tmp b u (by
    show upd G.T p o b = some u
    rw [upd_ne (fun z => by rw [z, hT] at e; cases e)]
    exact e), R.hs.dk, R.hs.dkv⟩
  sl := fun i c e => by
    obtain ⟨v, h1, h2⟩ := R.sl i c e
    refine ⟨v, h1, ?_⟩
    cases c with
    | sh d => exact h2
    | ow d =>
      obtain ⟨a, rfl, ⟨n1, n2, n3⟩, o1⟩ := h2
      have n3' : upd G.T p o a = none := n3
      have hne : a ≠ p := fun z => by rw [z, upd_same] at n3'; cases n3'
      rw [upd_ne hne] at n3'
      exact ⟨a, rfl, ⟨n1, n2, n3'⟩, o1.mono rfl rfl rfl (Same.refl _)⟩
  ap := R.ap
/-- an own value is set aside -/
theorem Rel.keep {d : D} (R : Rel G env σ H Hv F) (r : Res G env σ H Hv F (.ref p) (.ow d)) (e : H p = some o) : Rel (G.aside p o) env σ H Hv F := by
  obtain ⟨⟨a, ea, ⟨n1, n2, n3⟩, o1⟩, ap⟩ := r
  cases ea
  refine ⟨⟨R.hs.sub, R.hs.old, fun b u eb => ?_, R.hs.dk, R.hs.dkv⟩, R.len, fun i c ei => ?_, R.ap⟩
  · have eb' : upd G.T p o b = some u := eb
    by_cases hb : b = p
    · subst hb
      rw [upd_same] at eb'
      cases eb'
      exact ⟨e, n1, n2⟩
    · rw [upd_ne hb] at eb'
      exact R.hs.tmp b u eb'
  · obtain ⟨v, h1, h2⟩ := R.sl i c ei
    refine ⟨v, h1, ?_⟩
    cases c with
    | sh d => exact h2
    | ow d2 =>
      obtain ⟨a, rfl, ⟨m1, m2, m3⟩, o2⟩ := h2
      have hne : a ≠ p := fun z => ap d rfl i d2 ei (by rw [← z]; exact h1)
      exact ⟨a, rfl, ⟨m1, m2, by show upd G.T p o a = none; rw [upd_ne hne]; exact m3⟩, o2.mono rfl rfl rfl (Same.refl _)⟩
end

/-- values in a row, each with what it owns -/
def ResL (G : Gd) (env : En) (σ : St) (H Hv : Hp) (F : Addr → Prop) : List V → List C → Prop
  | [], [] => True
  | v :: vs, c :: cs => Res G env σ H Hv F v c ∧ (∀ d, c = .ow d → ∀ (j : Nat) (e : D), cs[j]? = some (.ow e) → vs[j]? ≠ some v) ∧ ResL G env σ H Hv F vs cs
  | _, _ => False
def tCs (K : PySem.W.Frag) (wa : En → (List C → En → Prop) → Prop) : TA := fun σ H Q => ∃ G env Hv F, G.K = K ∧ Rel G env σ H Hv F ∧ wa env fun cs env' => ∀ vs H' Hv' F', Rel G env' σ H' Hv' F' → ResL G env' σ H' Hv' F' vs cs → Same Hv Hv' → Q vs H'
theorem wCs_mo {Γ : Gam} (hΓ : GamOk Γ) : ∀ (es : Es) (env : En) (Q Q' : List C → En → Prop), (∀ cs env', Q cs env' → Q' cs env') → wCs Γ es env Q → wCs Γ es env Q'
  | .nil, env, Q, Q', h, q => h _ _ q
  | .cons e r, env, Q, Q', h, q => (w_mo hΓ e).1 _ _ _ (fun c env1 z => wCs_mo hΓ r _ _ _ (fun cs env2 z2 => h _ _ z2) z) q
section
variable {G : Gd} {env : En} {σ : St} {H Hv : Hp} {F : Addr → Prop} {p : Addr} {o : HO}
theorem ResL.unaside (hT : G.T p = none) : ∀ {vs : List V} {cs : List C}, ResL (G.aside p o) env σ H Hv F vs cs → ResL G env σ H Hv F vs cs ∧ ∀ (j : Nat) (e : D), cs[j]? = some (.ow e) → vs[j]? ≠ some (V.ref p)
  | [], [], _ => ⟨trivial, fun j e h => by simp at h⟩
  | v :: vs, c :: cs, ⟨⟨h1, h2⟩, h3, h4⟩ => by
    obtain ⟨h5, h6⟩ := ResL.unaside hT h4
    have key : RC G H Hv F v c ∧ ∀ d, c = .ow d → v ≠ V.ref p := by
      cases c with
      | sh d => exact ⟨h1, fun d z => nomatch z⟩
      | ow d =>
        obtain ⟨a, rfl, ⟨n1, n2, n3⟩, o1⟩ := h1
        have n3' : upd G.T p o a = none := n3
        have hne : a ≠ p := fun z => by rw [z, upd_same] at n3'; cases n3'
        rw [upd_ne hne] at n3'
        exact ⟨⟨a, rfl, ⟨n1, n2, n3'⟩, o1.mono rfl rfl rfl (Same.refl _)⟩, fun _ _ z => hne (V.ref.inj z)⟩
    refine ⟨⟨⟨key.1, h2⟩, h3, h5⟩, fun j e hj => ?_⟩
    cases j with
    | zero =>
      have e1 : c = .ow e := Option.some.inj hj
      intro z
      exact key.2 e e1 (Option.some.inj z)
    | succ j => exact h6 j e hj
  | [], _ :: _, h => h.elim
  | _ :: _, [], h => h.elim
theorem resl_set {i : Nat} {c : C} {v : V} (hl : env.length = σ.length) : ∀ {vs : List V} {cs : List C}, (∀ d, c = .ow d → ∀ (j : Nat) (e : D), cs[j]? = some (.ow e) → vs[j]? ≠ some v) → ResL G env σ H Hv F vs cs → ResL G (env.set i (some c)) (σ.set i (some v)) H Hv F vs cs := by
  intro vs
  induction vs with
  | nil => intro cs _ h; cases cs with
    | nil => trivial
    | cons _ _ => exact h.elim
  | cons u vs ih =>
    intro cs hd h
    cases cs with
    | nil => exact h.elim
    | cons c2 cs =>
      obtain ⟨⟨q1, q2⟩, q3, q4⟩ := h
      refine ⟨⟨q1, fun d2 e2 j e ej sj => ?_⟩, q3, ih (fun d e1 j e hj => hd d e1 (j + 1) e hj) q4⟩
      by_cases hj : i = j
      · subst hj
        by_cases hl2 : i < env.length
        · rw [List.getElem?_set_self hl2] at ej
          rw [List.getElem?_set_self (by rw [← hl]; exact hl2)] at sj
          cases ej
          cases sj
          exact hd e rfl 0 d2 (by rw [e2]; rfl) rfl
        · rw [List.getElem?_eq_none (by rw [List.length_set]; omega)] at ej; cases ej
      · rw [get_set_ne hj] at ej
        rw [List.getElem?_set_ne hj] at sj
        exact q2 d2 e2 j e ej sj
theorem setAll_ok {is : List Nat} : ∀ {cs : List C} {vs : List V} {env : En} {σ : St}, Rel G env σ H Hv F → ResL G env σ H Hv F vs cs → cs.length = is.length →
    ∃ σ', Rel G (setAll is cs env) σ' H Hv F ∧ σ' = (is.zip vs).foldl (fun s p => s.set p.1 (some p.2)) σ := by
  induction is with
  | nil =>
    intro cs vs env σ R h hl
    cases cs with
    | nil => cases vs with
      | nil => exact ⟨σ, R, rfl⟩
      | cons _ _ => exact h.elim
    | cons _ _ => cases hl
  | cons i is ih =>
    intro cs vs env σ R h hl
    cases cs with
    | nil => cases hl
    | cons c cs => cases vs with
      | nil => exact h.elim
      | cons v vs =>
        obtain ⟨h1, h2, h3⟩ := h
        exact ih (R.asg (i := i) h1) (resl_set R.len h2 h3) (Nat.succ.inj hl)
end
section
variable {X : Cx} {Γ : Gam} {e a : Expr} {xa : E} {pos : Pos}
theorem sc_nil : PA X [] (tCs X.K (wCs Γ .nil)) := PA.of pa_nil fun σ H Q q => by
  obtain ⟨G, env, Hv, F, hK, R, q⟩ := q
  exact q [] H Hv F R trivial (Same.refl _)
theorem sc_cons {es : List Expr} {xs : Es} (hΓ : GamOk Γ) (ha : SE X Γ a xa) (hr : PA X es (tCs X.K (wCs Γ xs))) (hs : NotStar a) : PA X (a :: es) (tCs X.K (wCs Γ (.cons xa xs))) := PA.of (pa_cons ha.ev hr (star_cons hs)) fun σ H Q q => by
  obtain ⟨G, env, Hv, F, hK, R, q⟩ := q
  refine ⟨G, env, Hv, F, hK, R, (w_mo hΓ xa).1 _ _ _ (fun c env1 z v H1 Hv1 F1 R1 r1 s1 => ?_) q⟩
  cases c with
  | sh d =>
    refine ⟨G, env1, Hv1, F1, hK, R1, wCs_mo hΓ xs _ _ _ (fun cs env2 z2 vs H2 Hv2 F2 R2 r2 s2 => ?_) z⟩
    exact z2 (v :: vs) H2 Hv2 F2 R2 ⟨Res.sh (Rep.mono s2 r1.1), fun _ e => (nomatch e), r2⟩ (s1.trans s2)
  | ow d =>
    have r1' := r1
    obtain ⟨⟨a, rfl, ⟨n1, n2, n3⟩, o1⟩, ap⟩ := r1'
    obtain ⟨o, eo⟩ := o1.obj
    refine ⟨G.aside a o, env1, Hv1, F1, hK, R1.keep r1 eo, wCs_mo hΓ xs _ _ _ (fun cs env2 z2 vs H2 Hv2 F2 R2 r2 s2 => ?_) z⟩
    obtain ⟨e2, m1, m2⟩ := R2.hs.tmp a o upd_same
    obtain ⟨r3, r4⟩ := r2.unaside n3
    refine z2 (.ref a :: vs) H2 Hv2 F2 (R2.unaside n3) ⟨⟨⟨a, rfl, ⟨m1, m2, n3⟩, o1.mono rfl rfl (by rw [e2, eo]) s2⟩, fun d1 _ i d2 ei si => ?_⟩, fun _ _ j e hj => r4 j e hj, r3⟩ (s1.trans s2)
    obtain ⟨u, h1, h2⟩ := R2.sl i _ ei
    rw [si] at h1
    cases h1
    obtain ⟨b, eb, ⟨_, _, k3⟩, _⟩ := h2
    cases eb
    have k3' : upd G.T a o a = none := k3
    rw [upd_same] at k3'
    cases k3'

/-! ### small statements -/
theorem s_nil : PSs X [] (tS X.K (wSs Γ .nil)) := PSs.of pss_nil fun D σ H q => by
  obtain ⟨G, env, Hv, F, Xd, hK, R, q, L⟩ := q
  exact L.nx _ _ _ _ _ q R (Same.refl _)
theorem s_cons {st : Stmt} {rest : List Stmt} {x : S} {xs : Ss} (h1 : PS X st (tS X.K (wS Γ x))) (h2 : PSs X rest (tS X.K (wSs Γ xs))) : PSs X (st :: rest) (tS X.K (wSs Γ (.cons x xs))) := PSs.of (pss_cons h1 h2) fun D σ H q => by
  obtain ⟨G, env, Hv, F, Xd, hK, R, q, L⟩ := q
  exact ⟨G, env, Hv, F, { Xd with nx := fun env1 => wSs Γ xs Xd env1 }, hK, R, q, ⟨fun e σ1 H1 V1 F1 z R1 s1 => ⟨G, e, V1, F1, Xd, hK, R1, z, L.later s1⟩, L.rt, L.bk, L.ct⟩⟩
theorem s_pass : PS X (.Pass pos) (tS X.K (wS Γ .pass)) := PS.of ps_pass fun D σ H q => by
  obtain ⟨G, env, Hv, F, Xd, hK, R, q, L⟩ := q
  exact L.nx _ _ _ _ _ q R (Same.refl _)
theorem s_doc {t : Str} {j : Nat} {p p' : Pos} : PS X (.Expr (.Constant (.str t) j p) p') (tS X.K (wS Γ .pass)) := PS.of ps_doc fun D σ H q => by
  obtain ⟨G, env, Hv, F, Xd, hK, R, q, L⟩ := q
  exact L.nx _ _ _ _ _ q R (Same.refl _)
theorem s_brk : PS X (.Break pos) (tS X.K (wS Γ .brk)) := PS.of ps_break fun D σ H q => by
  obtain ⟨G, env, Hv, F, Xd, hK, R, q, L⟩ := q
  exact L.bk _ _ _ _ _ q R (Same.refl _)
theorem s_cont : PS X (.Continue pos) (tS X.K (wS Γ .cont)) := PS.of ps_continue fun D σ H q => by
  obtain ⟨G, env, Hv, F, Xd, hK, R, q, L⟩ := q
  exact L.ct _ _ _ _ _ q R (Same.refl _)
theorem s_never {st : Stmt} : PS X st (tS X.K (wS Γ .never)) := PS.of ps_never fun D σ H q => by
  obtain ⟨G, env, Hv, F, Xd, hK, R, q, L⟩ := q
  exact q
theorem s_retN : PS X (.Return none pos) (tS X.K (wS Γ (.ret (.cst .non)))) := PS.of ps_retN fun D σ H q => by
  obtain ⟨G, env, Hv, F, Xd, hK, R, q, L⟩ := q
  exact L.rt (.sh .non) env σ _ _ _ _ q R (Res.sh .non) (Same.refl _)
theorem s_ret (hΓ : GamOk Γ) (hx : NotVar xa) (ha : SE X Γ a xa) : PS X (.Return (some a) pos) (tS X.K (wS Γ (.ret xa))) := PS.of (ps_ret ha.ev) fun D σ H q => by
  obtain ⟨G, env, Hv, F, Xd, hK, R, q, L⟩ := q
  have q' : (w Γ xa).ev env fun c _ => Xd.rt c := by
    cases xa <;> first | exact hx.elim | exact q
  exact ⟨G, env, Hv, F, hK, R, (w_mo hΓ xa).1 _ _ _ (fun c env1 z v H1 Hv1 F1 R1 r1 s1 => L.rt c env1 σ v _ _ _ z R1 r1 s1) q'⟩
theorem s_retV {i : Nat} {nm : Str} {p : Pos} (pv : PE X (.Name nm p) (tVar i)) : PS X (.Return (some (.Name nm p)) pos) (tS X.K (wS Γ (.ret (.var i)))) := PS.of (ps_ret pv) fun D σ H q => by
  obtain ⟨G, env, Hv, F, Xd, hK, R, ⟨c, e, q⟩, L⟩ := q
  obtain ⟨v, h1, _⟩ := R.sl i c e
  exact ⟨v, h1, L.rt c (env.set i none) σ v _ _ _ q (R.forget i) (R.leave e h1) (Same.refl _)⟩
theorem s_expr (hΓ : GamOk Γ) (ha : SE X Γ a xa) (hs : swapsWith a none pos.line X.env = pure false) : PS X (.Expr a pos) (tS X.K (wS Γ (.expr xa))) := PS.of (ps_expr ha.ev hs) fun D σ H q => by
  obtain ⟨G, env, Hv, F, Xd, hK, R, q, L⟩ := q
  exact ⟨G, env, Hv, F, hK, R, (w_mo hΓ xa).1 _ _ _ (fun c env1 z v H1 Hv1 F1 R1 r1 s1 => L.nx env1 σ _ _ _ z R1 s1) q⟩
theorem s_iff {p q : List Stmt} {xp xq : Ss} (hΓ : GamOk Γ) (ha : SE X Γ a xa) (hp : PSs X p (tS X.K (wSs Γ xp))) (hq : PSs X q (tS X.K (wSs Γ xq))) : PS X (.If a p q pos) (tS X.K (wS Γ (.iff xa xp xq))) := PS.of (ps_if ha.te hp hq) fun D σ H q => by
  obtain ⟨G, env, Hv, F, Xd, hK, R, q, L⟩ := q
  refine ⟨G, env, Hv, F, hK, R, (w_mo hΓ xa).2 _ _ _ (fun b env1 z H1 Hv1 F1 R1 s1 => ?_) q⟩
  cases b with
  | true => exact ⟨G, env1, Hv1, F1, Xd, hK, R1, z, L.later s1⟩
  | false => exact ⟨G, env1, Hv1, F1, Xd, hK, R1, z, L.later s1⟩

/-! ### stores -/
theorem s_asg {tg : Expr} {t : T} (hΓ : GamOk Γ) (ha : SE X Γ a xa) (hg : PG X tg (gOf X.K t)) (hok : t.ok = true) (hs : swapsWithSole [tg] a pos.line X.env = pure false) (hw : swappedStores [tg] a X.env = pure none)
    (h1 : (assignEach [tg] X.env).map (·.2) = [assign tg X.env]) : PS X (.Assign [tg] a pos) (tS X.K (wS Γ (.asg t xa))) := PS.of (ps_asg ha.ev hg hs hw h1) fun D σ H q => by
  obtain ⟨G, env, Hv, F, Xd, hK, R, q, L⟩ := q
  refine ⟨G, env, Hv, F, hK, R, (w_mo hΓ xa).1 _ _ _ (fun c env1 z v H1 Hv1 F1 R1 r1 s1 => ?_) q⟩
  rw [← hK]
  exact gOf_ok t (own := []) R1 r1 z (fun _ _ => .inr rfl) (fun env2 σ2 R2 z2 _ => L.nx _ _ _ _ _ z2 R2 s1) hok
theorem s_par2 {i j : Nat} {x y : Str} {a b : Expr} {xs : Es} {px py pt : Pos} {kt : Nat} {k2 : Nat} {pt2 : Pos} (hΓ : GamOk Γ) (hc : X.calm = true) (hN : X.N.Nodup) (hi : X.N[i]? = some x) (hj : X.N[j]? = some y) (hij : i ≠ j)
    (hx : X.env.scope.names.lookup x = some .local) (hy : X.env.scope.names.lookup y = some .local) (ha : PA X [a, b] (tCs X.K (wCs Γ xs))) (hl : ∀ env Q, wCs Γ xs env Q → wCs Γ xs env fun cs env' => cs.length = 2 ∧ Q cs env')
    (hw : swappedStores [.Tuple [.Name x px, .Name y py] kt pt] (.Tuple [a, b] k2 pt2) X.env = pure (some [x, y]))
    (hs : swapsWithSole [.Tuple [.Name x px, .Name y py] kt pt] (.Tuple [a, b] k2 pt2) pos.line X.env = pure false) :
    PS X (.Assign [.Tuple [.Name x px, .Name y py] kt pt] (.Tuple [a, b] k2 pt2) pos) (tS X.K (wS Γ (.par [i, j] xs))) := PS.of (ps_par hc hN hi hj hij hx hy ha hw hs) fun D σ H q => by
  obtain ⟨G, env, Hv, F, Xd, hK, R, q, L⟩ := q
  refine ⟨G, env, Hv, F, hK, R, wCs_mo hΓ xs _ _ _ (fun cs env1 ⟨hl, z⟩ vs H1 Hv1 F1 R1 r1 s1 => ?_) (hl _ _ q)⟩
  obtain ⟨σ', R', e'⟩ := setAll_ok (is := [i, j]) R1 r1 hl
  obtain ⟨c1, c2, rfl⟩ : ∃ c1 c2, cs = [c1, c2] := by
    match cs, hl with
    | [c1, c2], _ => exact ⟨_, _, rfl⟩
  obtain ⟨v1, v2, rfl⟩ : ∃ v1 v2, vs = [v1, v2] := by
    match vs, r1 with
    | [v1, v2], _ => exact ⟨_, _, rfl⟩
    | [], h => exact (show False from h).elim
    | [_], h => exact (show False from h.2.2).elim
    | _ :: _ :: _ :: _, h => exact (show False from h.2.2.2.2).elim
  exact ⟨v1, v2, rfl, L.nx _ _ _ _ _ z (by rw [e'] at R'; exact R') s1⟩
theorem s_par3 {i j l : Nat} {x y z : Str} {a b c : Expr} {xs : Es} {px py pz pt : Pos} {kt : Nat} {k2 : Nat} {pt2 : Pos} (hΓ : GamOk Γ) (hc : X.calm = true) (hN : X.N.Nodup) (hi : X.N[i]? = some x) (hj : X.N[j]? = some y) (hl2 : X.N[l]? = some z) (hij : i ≠ j) (hil : i ≠ l) (hjl : j ≠ l)
    (hx : X.env.scope.names.lookup x = some .local) (hy : X.env.scope.names.lookup y = some .local) (hz : X.env.scope.names.lookup z = some .local) (ha : PA X [a, b, c] (tCs X.K (wCs Γ xs))) (hl : ∀ env Q, wCs Γ xs env Q → wCs Γ xs env fun cs env' => cs.length = 3 ∧ Q cs env')
    (hw : swappedStores [.Tuple [.Name x px, .Name y py, .Name z pz] kt pt] (.Tuple [a, b, c] k2 pt2) X.env = pure (some [x, y, z]))
    (hs : swapsWithSole [.Tuple [.Name x px, .Name y py, .Name z pz] kt pt] (.Tuple [a, b, c] k2 pt2) pos.line X.env = pure false) :
    PS X (.Assign [.Tuple [.Name x px, .Name y py, .Name z pz] kt pt] (.Tuple [a, b, c] k2 pt2) pos) (tS X.K (wS Γ (.par [i, j, l] xs))) := PS.of (ps_par3 hc hN hi hj hl2 hij hil hjl hx hy hz ha hw hs) fun D σ H q => by
  obtain ⟨G, env, Hv, F, Xd, hK, R, q, L⟩ := q
  refine ⟨G, env, Hv, F, hK, R, wCs_mo hΓ xs _ _ _ (fun cs env1 ⟨hl, z⟩ vs H1 Hv1 F1 R1 r1 s1 => ?_) (hl _ _ q)⟩
  obtain ⟨σ', R', e'⟩ := setAll_ok (is := [i, j, l]) R1 r1 hl
  obtain ⟨c1, c2, c3, rfl⟩ : ∃ c1 c2 c3, cs = [c1, c2, c3] := by
    match cs, hl with
    | [c1, c2, c3], _ => exact ⟨_, _, _, rfl⟩
  obtain ⟨v1, v2, v3, rfl⟩ : ∃ v1 v2 v3, vs = [v1, v2, v3] := by
    match vs, r1 with
    | [v1, v2, v3], _ => exact ⟨_, _, _, rfl⟩
    | [], h => exact (show False from h).elim
    | [_], h => exact (show False from h.2.2).elim
    | [_, _], h => exact (show False from h.2.2.2.2).elim
    | _ :: _ :: _ :: _ :: _, h => exact (show False from h.2.2.2.2.2.2).elim
  exact ⟨v1, v2, v3, rfl, L.nx _ _ _ _ _ z (by rw [e'] at R'; exact R') s1⟩
/-- the pair is made, then taken apart -/
theorem s_parG {tg : List Expr} {es : List Expr} {is : List Nat} {xs : Es} {kt k2 : Nat} {pt pt2 : Pos} (hΓ : GamOk Γ) (hc : X.calm = true) (hg : PG X (.Tuple tg kt pt) (gTup X.K is.length (is.foldr (fun i u => gCons (gName i) u) gNil)))
    (ha : PA X es (tCs X.K (wCs Γ xs))) (hl : ∀ env Q, wCs Γ xs env Q → wCs Γ xs env fun cs env' => cs.length = is.length ∧ Q cs env') (hz : is.length ≤ sizeLine)
    (hw : swappedStores [.Tuple tg kt pt] (.Tuple es k2 pt2) X.env = pure none)
    (hs : swapsWithSole [.Tuple tg kt pt] (.Tuple es k2 pt2) pos.line X.env = pure false) (h1 : (assignEach [.Tuple tg kt pt] X.env).map (·.2) = [assign (.Tuple tg kt pt) X.env]) :
    PS X (.Assign [.Tuple tg kt pt] (.Tuple es k2 pt2) pos) (tS X.K (wS Γ (.par is xs))) := PS.of (ps_asg (pe_tup ha) hg hs hw h1) fun D σ H q => by
  obtain ⟨G, env, Hv, F, Xd, hK, R, q, L⟩ := q
  refine ⟨G, env, Hv, F, hK, R, wCs_mo hΓ xs _ _ _ (fun cs env1 ⟨hl, z⟩ vs H1 Hv1 F1 R1 r1 s1 => ?_) (hl _ _ q)⟩
  have hvl : vs.length = cs.length := by
    have go : ∀ {vs : List V} {cs : List C}, ResL G env1 σ H1 Hv1 F1 vs cs → vs.length = cs.length := by
      intro vs
      induction vs with
      | nil => intro cs h; cases cs with
        | nil => rfl
        | cons _ _ => exact h.elim
      | cons v vs ih => intro cs h; cases cs with
        | nil => exact h.elim
        | cons c cs => exact congrArg Nat.succ (ih h.2.2)
    exact go r1
  refine ⟨by rw [hvl, hl]; exact hz, fun p hp => ⟨p, vs, rfl, SqT.of upd_same, by rw [hvl, hl], ?_⟩⟩
  obtain ⟨σ', R', e'⟩ := setAll_ok R1 r1 hl
  have R2 := R'.new (o := .tup vs) hp
  have fin : D.nx σ' (upd H1 p (.tup vs)) := L.nx _ _ _ _ _ z R2 s1
  have hlen : vs.length = is.length := by rw [hvl, hl]
  rw [e'] at fin
  clear e' R2 R' z r1 hvl hl ha hg hw hs q
  have go : ∀ (is : List Nat) (vs : List V) (σ : St) (Hx : Hp), vs.length = is.length → D.nx ((is.zip vs).foldl (fun s p => s.set p.1 (some p.2)) σ) Hx → is.foldr (fun i u => gCons (gName i) u) gNil vs σ Hx D.nx := by
    intro is
    induction is with
    | nil => intro vs σ Hx hl f; cases vs with
      | nil => exact ⟨rfl, f⟩
      | cons _ _ => cases hl
    | cons i is ih => intro vs σ Hx hl f; cases vs with
      | nil => cases hl
      | cons v vs => exact ⟨v, vs, rfl, ih vs _ Hx (Nat.succ.inj hl) f⟩
  exact go is vs σ _ hlen fin
theorem s_seti {i : Nat} {nm : Str} {ix : Expr} {xi : E} {p p' : Pos} (hΓ : GamOk Γ) (pv : PE X (.Name nm p) (tVar i)) (hi : SE X Γ ix xi) (ha : SE X Γ a xa) (hs : swapsWithSole [.Subscript (.Name nm p) ix p'] a pos.line X.env = pure false) (hw : swappedStores [.Subscript (.Name nm p) ix p'] a X.env = pure none)
    (hsub : ∀ v, assign (.Subscript (.Name nm p) ix p') X.env v = (do
      let ov ← holding [v] (eval (.Name nm p) X.env)
      let iv ← holding [v, ov] (eval ix X.env)
      standAt p'
      holding [v, ov, iv] (setItem ov iv v)
      release [v, ov, iv] [])) : PS X (.Assign [.Subscript (.Name nm p) ix p'] a pos) (tS X.K (wS Γ (.seti i xi xa))) := PS.of (ps_asg ha.ev (pg_sub pv hi.ev set_list hsub) hs hw rfl) fun D σ H q => by
  obtain ⟨G, env, Hv, F, Xd, hK, R, q, L⟩ := q
  refine ⟨G, env, Hv, F, hK, R, (w_mo hΓ xa).1 _ _ _ (fun c env1 z v H1 Hv1 F1 R1 r1 s1 => ?_) q⟩
  obtain ⟨Hv2, R2, r2, s2⟩ := Res.freeze R1 r1
  obtain ⟨⟨l0, e0⟩, z⟩ := z
  obtain ⟨u, hu, _⟩ := R2.sl i _ e0
  refine ⟨u, hu, G, env1, Hv2, F1, hK, R2, (w_mo hΓ xi).1 _ _ _ (fun ci env2 ⟨l, k, j, e1, e2, e3, z3⟩ iv H3 Hv3 F3 R3 r3 s3 => ?_) z⟩
  obtain ⟨q1, vs, hq1, hq, r, mk⟩ := R3.mut (m := l.set j c.d) e2
  rw [hu] at hq1
  cases hq1
  have pi := r3.pk R3
  rw [e1] at pi
  exact ⟨q1, vs, k, j, rfl, pi.int, hq, by rw [r.length]; exact e3, L.nx _ _ _ _ _ z3 (mk _ (r.set (Rep.mono s3 r2) j)) ((s1.trans s2).trans s3)⟩
end
end B

namespace B
open PySem PySem.Spec L2
section
variable {X : Cx} {Γ : Gam} {e a b : Expr} {xa xb : E} {pos : Pos}

/-! ### xs.append(e), xs.extend(e), xs.insert(i, e) -/
theorem swaps_call {f : Expr} {es : List Expr} {ks : List Keyword} {p : Pos} {t : Option Expr} {l : Nat} {env : Env} : swapsWith (.Call f es ks p) t l env = pure false := rfl
theorem s_app {i : Nat} {nm : Str} {p ap cp : Pos} (hΓ : GamOk Γ) (pv : PE X (.Name nm p) (tVar i)) (hl : (ap.endLine == cp.line) = true) (hs : NotStar a) (ha : SE X Γ a xa) :
    PS X (.Expr (.Call (.Attribute (.Name nm p) "append" ap) [a] [] cp) pos) (tS X.K (wS Γ (.app i xa))) := by
  have hst := star_cons (env := X.env) (es := []) hs
  refine PS.of (ps_expr (pe_bm PySem.F.plainAttrs_list PySem.F.slot_list_append PySem.F.type_list_append mt_append pv (pa_cons ha.ev pa_nil hst) rfl (by rw [hst]; rfl) hl hst rfl) swaps_call) fun D σ H q => ?_
  obtain ⟨G, env, Hv, F, Xd, hK, R, ⟨⟨l0, e0⟩, q⟩, L⟩ := q
  obtain ⟨p0, vs0, s0, hp0, _, _⟩ := R.mut (m := l0) e0
  refine ⟨_, s0, tyV_list hp0, G, env, Hv, F, hK, R, (w_mo hΓ xa).1 _ _ _ (fun c env1 ⟨l, e1, h3, z⟩ v H1 Hv1 F1 R1 r1 s1 => ?_) q⟩
  obtain ⟨Hv2, R2, r2, s2⟩ := Res.freeze R1 r1
  obtain ⟨q1, vs, s3, hq, r, mk⟩ := R2.mut (m := l ++ [c.d]) e1
  rw [s0] at s3
  cases s3
  exact ⟨_, vs, v, rfl, rfl, hq, by rw [r.length]; exact h3, L.nx _ _ _ _ _ z (mk _ (r.append (.cons r2 .nil))) (s1.trans s2)⟩
theorem s_ext {i : Nat} {nm : Str} {p ap cp : Pos} (hΓ : GamOk Γ) (pv : PE X (.Name nm p) (tVar i)) (hl : (ap.endLine == cp.line) = true) (hs : NotStar a) (ha : SE X Γ a xa) :
    PS X (.Expr (.Call (.Attribute (.Name nm p) "extend" ap) [a] [] cp) pos) (tS X.K (wS Γ (.ext i xa))) := by
  have hst := star_cons (env := X.env) (es := []) hs
  refine PS.of (ps_expr (pe_bm PySem.F.plainAttrs_list PySem.F.slot_list_extend PySem.F.type_list_extend mt_extend pv (pa_cons ha.ev pa_nil hst) rfl (by rw [hst]; rfl) hl hst rfl) swaps_call) fun D σ H q => ?_
  obtain ⟨G, env, Hv, F, Xd, hK, R, ⟨⟨l0, e0⟩, q⟩, L⟩ := q
  obtain ⟨p0, vs0, s0, hp0, _, _⟩ := R.mut (m := l0) e0
  refine ⟨_, s0, tyV_list hp0, G, env, Hv, F, hK, R, (w_mo hΓ xa).1 _ _ _ (fun c env1 ⟨l, m, e1, e2, h3, z⟩ v H1 Hv1 F1 R1 r1 s1 => ?_) q⟩
  obtain ⟨Hv2, R2, r2, s2⟩ := Res.freeze R1 r1
  obtain ⟨q1, vs, s3, hq, r, mk⟩ := R2.mut (m := l ++ m) e1
  rw [s0] at s3
  cases s3
  have pv := r1.pk R1
  rw [e2] at pv r2
  obtain ⟨b, ws, rfl, hb, _⟩ := pv.lst
  have hb2 : ∃ ws', Hv2 b = some (.lst ws') ∧ RepL G.K G.ad Hv2 ws' m := by
    cases r2 with
    | lst h1 h2 => exact ⟨_, h1, h2⟩
  obtain ⟨ws', hb3, r3⟩ := hb2
  have hb4 := R2.hs.sub _ _ hb3
  exact ⟨_, b, vs, ws', rfl, rfl, hq, hb4, by rw [r.length, r3.length]; exact h3, L.nx _ _ _ _ _ z (mk _ (r.append r3)) (s1.trans s2)⟩
theorem s_ins {i : Nat} {nm : Str} {p ap cp : Pos} (hΓ : GamOk Γ) (pv : PE X (.Name nm p) (tVar i)) (hl : (ap.endLine == cp.line) = true) (hs : NotStar a) (hs2 : NotStar b) (ha : SE X Γ a xa) (hb : SE X Γ b xb) :
    PS X (.Expr (.Call (.Attribute (.Name nm p) "insert" ap) [a, b] [] cp) pos) (tS X.K (wS Γ (.ins i xa xb))) := by
  have hst := star_cons (env := X.env) (es := [b]) hs
  have hst2 := star_cons (env := X.env) (es := []) hs2
  refine PS.of (ps_expr (pe_bm PySem.F.plainAttrs_list PySem.F.slot_list_insert PySem.F.type_list_insert mt_insert pv (pa_cons ha.ev (pa_cons hb.ev pa_nil hst2) hst) rfl (by rw [hst, hst2]; rfl) hl hst (by rw [hst2]; rfl)) swaps_call) fun D σ H q => ?_
  obtain ⟨G, env, Hv, F, Xd, hK, R, ⟨⟨l0, e0⟩, q⟩, L⟩ := q
  obtain ⟨p0, vs0, s0, hp0, _, _⟩ := R.mut (m := l0) e0
  refine ⟨_, s0, tyV_list hp0, G, env, Hv, F, hK, R, (w_mo hΓ xa).1 _ _ _ (fun cp env1 z1 v H1 Hv1 F1 R1 r1 s1 => ?_) q⟩
  obtain ⟨Hv2, R2, r2, s2⟩ := Res.freeze R1 r1
  refine ⟨G, env1, Hv2, F1, hK, R2, (w_mo hΓ xb).1 _ _ _ (fun c env2 ⟨l, k, e0, e1, ⟨h1, h2⟩, h3, z⟩ u H3 Hv3 F3 R3 r3 s3 => ?_) z1⟩
  obtain ⟨Hv4, R4, r4, s4⟩ := Res.freeze R3 r3
  obtain ⟨q1, vs, s5, hq, r, mk⟩ := R4.mut (m := l.take k.toNat ++ c.d :: l.drop k.toNat) e1
  rw [s0] at s5
  cases s5
  rw [e0] at r2
  have hv : v = .int k := by cases r2; rfl
  refine ⟨_, vs, k, u, rfl, by rw [hv], hq, by rw [r.length]; exact h3, h1, h2, L.nx _ _ _ _ _ z (mk _ ?_) (((s1.trans s2).trans s3).trans s4)⟩
  rw [List.append_assoc]
  exact (r.take _).append (.cons r4 (r.drop _))

/-! ### for, while -/
theorem s_for {tg iter : Expr} {t : T} {it : It} {body : List Stmt} {xb : Ss} (hΓ : GamOk Γ) (hp : PassesOwn (model X.prog X.w) X.A X.env X.xe) (hc : X.calm = true) (hi : PI X tg iter (iI X.K (wI Γ it))) (hg : PG X tg (gOf X.K t)) (hok : t.ok = true) (hb : PSs X body (tS X.K (wSs Γ xb)))
    (hs : ∀ x, foldedSetIterable iter X.env x = pure x) : PS X (.For tg iter body [] pos) (tS X.K (wS Γ (.forr t it xb))) := PS.of (ps_for hp hc hi hg hb hs) fun D σ H q => by
  obtain ⟨G, env, Hv, F, Xd, hK, R, q, L⟩ := q
  have q : wI Γ it env fun ds env1 => forGo (fun d => wTg t (.sh d)) (wSs Γ xb) ds Xd env1 := q
  refine ⟨G, env, Hv, F, hK, R, wI_mo hΓ it _ _ _ (fun ds env1 z J H1 Hv1 F1 R1 s1 wd => ?_) q⟩
  have old := R1.hs.old
  refine ⟨fun i m σ H => m = ds.length - i ∧ i ≤ ds.length ∧ ∃ env2 Hv2 F2, Rel (G.from_ Hv1) env2 σ H Hv2 F2 ∧ forGo (fun d => wTg t (.sh d)) (wSs Γ xb) (ds.drop i) Xd env2, ⟨_, rfl, Nat.zero_le _, env1, Hv1, F1, R1.from, z⟩, ?_⟩
  rintro i m σ2 H2 ⟨rfl, hi, env2, Hv2, F2, R2, z⟩
  have sub : Same Hv1 H2 := Same.trans R2.hs.old R2.hs.sub
  have s2 : Same Hv1 Hv2 := R2.hs.old
  by_cases hlt : i < ds.length
  · refine .inr ⟨wd.goes i H2 hlt sub, _, fun σ3 H3 n3 => ⟨ds.length - (i + 1), by omega, n3⟩, fun x H3 y => ?_⟩
    rw [List.drop_eq_getElem_cons hlt] at z
    have z' : wTg t (.sh ds[i]) env2 fun env3 => wSs Γ xb { nx := forGo (fun d => wTg t (.sh d)) (wSs Γ xb) (ds.drop (i + 1)) Xd, rt := Xd.rt, bk := Xd.nx, ct := forGo (fun d => wTg t (.sh d)) (wSs Γ xb) (ds.drop (i + 1)) Xd } env3 := z
    have item : ∃ Hv3, Rel (G.from_ Hv1) env2 σ2 H3 Hv3 F2 ∧ Rep G.K G.ad Hv3 x ds[i] ∧ Same Hv2 Hv3 := by
      rcases wd.yields i H2 x H3 ds[i] (List.getElem?_eq_getElem hlt) sub y with ⟨rfl, h1⟩ | ⟨T, u, v, a, b, rfl, h1, rfl, h2, h3, h4⟩
      · exact ⟨Hv2, R2, h1.mono s2, Same.refl _⟩
      · have hs := same_self_upd (o := .tup [u, v]) (R2.hs.hv_none h1)
        refine ⟨upd Hv2 T (.tup [u, v]), R2.news h1, ?_, hs⟩
        rw [h2]
        exact .tup upd_same (.cons (h3.mono (s2.trans hs)) (.cons (h4.mono (s2.trans hs)) .nil))
    obtain ⟨Hv3, R3, rx, s3⟩ := item
    rw [← hK]
    refine gOf_ok (G := G.from_ Hv1) t (own := []) R3 (Res.sh rx) z' (fun _ _ => .inr rfl) (fun env3 σ3 R4 z4 _ => ?_) hok
    refine ⟨G.from_ Hv1, env3, Hv3, F2, _, rfl, R4, z4, ⟨fun e σ5 H5 V5 F5 z5 R5 s5 => ⟨rfl, hlt, e, V5, F5, R5, z5⟩, fun c e σ5 v H5 V5 F5 z5 R5 r5 s5 => ?_, fun e σ5 H5 V5 F5 z5 R5 s5 => ?_, fun e σ5 H5 V5 F5 z5 R5 s5 => ⟨rfl, hlt, e, V5, F5, R5, z5⟩⟩⟩
    · exact L.rt c e σ5 v H5 V5 F5 z5 (R5.unfrom old) r5.unfrom (((s1.trans s2).trans s3).trans s5)
    · exact L.nx e σ5 H5 V5 F5 z5 (R5.unfrom old) (((s1.trans s2).trans s3).trans s5)
  · have e : i = ds.length := by omega
    subst e
    refine .inl ⟨wd.stops H2 sub, ?_⟩
    rw [List.drop_length] at z
    exact L.nx _ _ _ _ _ z (R2.unfrom old) (s1.trans s2)
theorem s_whl {body : List Stmt} {xb : Ss} (hΓ : GamOk Γ) (hp : PassesOwn (model X.prog X.w) X.A X.env X.xe) (ha : SE X Γ a xa) (hb : PSs X body (tS X.K (wSs Γ xb))) : PS X (.While a body [] pos) (tS X.K (wS Γ (.whl xa xb))) := PS.of (ps_while hp ha.te hb) fun D σ H q => by
  obtain ⟨G, env, Hv, F, Xd, hK, R, ⟨n, q⟩, L⟩ := q
  have old := R.hs.old
  refine ⟨fun m σ H => ∃ env2 Hv2 F2, Rel (G.from_ Hv) env2 σ H Hv2 F2 ∧ whlGo (w Γ xa).te (wSs Γ xb) m Xd env2, ⟨n, env, Hv, F, R.from, q⟩, ?_⟩
  rintro m σ2 H2 ⟨env2, Hv2, F2, R2, z⟩
  have s2 : Same Hv Hv2 := R2.hs.old
  cases m with
  | zero => exact (show False from z).elim
  | succ m =>
    have z' : (w Γ xa).te env2 fun k env1 => if k = true then wSs Γ xb { nx := whlGo (w Γ xa).te (wSs Γ xb) m Xd, rt := Xd.rt, bk := Xd.nx, ct := whlGo (w Γ xa).te (wSs Γ xb) m Xd } env1 else Xd.nx env1 := z
    refine ⟨G.from_ Hv, env2, Hv2, F2, hK, R2, (w_mo hΓ xa).2 _ _ _ (fun k env3 z3 H3 Hv3 F3 R3 s3 => ?_) z'⟩
    cases k with
    | true =>
      rw [if_pos rfl] at z3 ⊢
      refine ⟨_, fun σ4 H4 n4 => ⟨m, Nat.lt_succ_self m, n4⟩, G.from_ Hv, env3, Hv3, F3, _, hK, R3, z3, ⟨fun e σ5 H5 V5 F5 z5 R5 s5 => ⟨e, V5, F5, R5, z5⟩, fun c e σ5 v H5 V5 F5 z5 R5 r5 s5 => ?_, fun e σ5 H5 V5 F5 z5 R5 s5 => ?_, fun e σ5 H5 V5 F5 z5 R5 s5 => ⟨e, V5, F5, R5, z5⟩⟩⟩
      · exact L.rt c e σ5 v H5 V5 F5 z5 (R5.unfrom old) r5.unfrom ((s2.trans s3).trans s5)
      · exact L.nx e σ5 H5 V5 F5 z5 (R5.unfrom old) ((s2.trans s3).trans s5)
    | false =>
      rw [if_neg Bool.false_ne_true] at z3 ⊢
      exact L.nx _ _ _ _ _ z3 (R3.unfrom old) (s2.trans s3)

/-! ### comprehensions -/
theorem se_comp {elt tg iter : Expr} {ifs : List Expr} {scope : Scope} {own : List (Str × Nat)} {t : T} {it : It} {cnd : Oe} {xe : E} (hΓ : GamOk Γ) (hc : X.calm = true) (hN : X.N.Nodup) (hi : PI X tg iter (iI X.K (wI Γ it))) (ok : BlkOk X.N X.env.scope scope own) (hown : own ≠ []) (hv : ∀ i ∈ t.vars, i ∈ own.map (·.2)) (hok : t.ok = true)
    (hg : ∀ (s : Shared) (H : Hp) (C : Addr) (cl : List (Str × Addr)) (fp : List Addr), PG (X.blk s H scope (compEnvC scope cl C X.env) fp) tg (gOf X.K t)) (ht : ∀ (s : Shared) (H : Hp) (C : Addr) (cl : List (Str × Addr)) (fp : List Addr), PTs (X.blk s H scope (compEnvC scope cl C X.env) fp) ifs (tT X.K (wC Γ cnd)))
    (he : ∀ (s : Shared) (H : Hp) (C : Addr) (cl : List (Str × Addr)) (fp : List Addr), PE (X.blk s H scope (compEnvC scope cl C X.env) fp) elt (tE X.K (w Γ xe).ev)) (hs : ∀ x, foldedSetIterable iter X.env x = pure x) :
    SE X Γ (.ListComp elt [⟨tg, iter, ifs, 0⟩] scope pos) (.comp (own.map (·.2)) t it cnd xe) :=
  se_of_ev hΓ trivial rfl (fun _ _ => rfl) (PE.of (pe_lc hc hN hi ok hg ht he hs) fun σ H Q q => lc_val hΓ (by simpa using hown) hv hok q)
theorem s_setLc {i : Nat} {y : Str} {py : Pos} {elt tg iter : Expr} {ifs : List Expr} {scope : Scope} {own : List (Str × Nat)} {cpos : Pos} {t : T} {it : It} {cnd : Oe} {xe : E} (hΓ : GamOk Γ) (hc : X.calm = true) (hN : X.N.Nodup) (hy : X.N[i]? = some y) (hyl : X.env.scope.names.lookup y = some .local)
    (hsw : swapsWith (.ListComp elt [⟨tg, iter, ifs, 0⟩] scope cpos) (some (.Name y py)) pos.line X.env = pure true) (hi : PI X tg iter (iI X.K (wI Γ it))) (ok : BlkOk X.N X.env.scope scope own) (hown : own ≠ []) (hv : ∀ i ∈ t.vars, i ∈ own.map (·.2)) (hok : t.ok = true)
    (hg : ∀ (s : Shared) (H : Hp) (C : Addr) (cl : List (Str × Addr)) (fp : List Addr), PG (X.blk s H scope (compEnvC scope cl C X.env) fp) tg (gOf X.K t)) (ht : ∀ (s : Shared) (H : Hp) (C : Addr) (cl : List (Str × Addr)) (fp : List Addr), PTs (X.blk s H scope (compEnvC scope cl C X.env) fp) ifs (tT X.K (wC Γ cnd)))
    (he : ∀ (s : Shared) (H : Hp) (C : Addr) (cl : List (Str × Addr)) (fp : List Addr), PE (X.blk s H scope (compEnvC scope cl C X.env) fp) elt (tE X.K (w Γ xe).ev)) (hs : ∀ x, foldedSetIterable iter X.env x = pure x) :
    PS X (.Assign [.Name y py] (.ListComp elt [⟨tg, iter, ifs, 0⟩] scope cpos) pos) (tS X.K (wS Γ (.asg (.nm i) (.comp (own.map (·.2)) t it cnd xe)))) := PS.of (ps_setLc hc hN hy hyl hsw hi ok hg ht he hs) fun D σ H q => by
  obtain ⟨G, env, Hv, F, Xd, hK, R, q, L⟩ := q
  refine lc_val hΓ (by simpa using hown) hv hok ⟨G, env, Hv, F, hK, R, (w_mo hΓ _).1 _ _ _ (fun c env1 z v H1 Hv1 F1 R1 r1 s1 => ?_) q⟩
  exact L.nx _ _ _ _ _ z (R1.asg r1) s1
end
/-! ### dicts -/
theorem putK_keys (k : Key) (v : V) (kvs : List (Key × V)) : (putK kvs k v).map (·.1) = dK (kvs.map (·.1)) k := by
  have hm : (kvs.any fun kv => decide (kv.1 = k)) = true ↔ k ∈ kvs.map (·.1) := by
    rw [List.any_eq_true, List.mem_map]
    constructor
    · rintro ⟨x, h1, h2⟩; exact ⟨x, h1, of_decide_eq_true h2⟩
    · rintro ⟨x, h1, h2⟩; exact ⟨x, h1, decide_eq_true h2⟩
  unfold putK dK
  by_cases h : k ∈ kvs.map (·.1)
  · rw [if_pos h, if_pos (hm.2 h), List.map_map]
    refine List.map_congr_left fun x _ => ?_
    show (if x.1 = k then (x.1, v) else x).1 = x.1
    split <;> rfl
  · rw [if_neg h, if_neg (fun z => h (hm.1 z)), List.map_append]
    rfl
theorem put_zip {K : PySem.W.Frag} {ad : Nat → Addr} {H : Hp} {k : Key} {v : V} {y : D} (hv : Rep K ad H v y) : ∀ {kvs : List (Key × V)} {ds : List D}, RepL K ad H (kvs.map (·.2)) ds →
    RepL K ad H ((kvs.map fun kv => if kv.1 = k then (kv.1, v) else kv).map (·.2)) (List.zipWith (fun j d => if j = k then y else d) (kvs.map (·.1)) ds)
  | [], _, .nil => .nil
  | (j, x) :: r, _, .cons h t => by
    refine .cons ?_ (put_zip hv t)
    by_cases e : j = k
    · show Rep K ad H (if j = k then (j, v) else (j, x)).2 (if j = k then y else _)
      rw [if_pos e, if_pos e]; exact hv
    · show Rep K ad H (if j = k then (j, v) else (j, x)).2 (if j = k then y else _)
      rw [if_neg e, if_neg e]; exact h
theorem putK_vals {K : PySem.W.Frag} {ad : Nat → Addr} {H : Hp} {k : Key} {v : V} {y : D} {kvs : List (Key × V)} {ds : List D} (hv : Rep K ad H v y) (r : RepL K ad H (kvs.map (·.2)) ds) : RepL K ad H ((putK kvs k v).map (·.2)) (dV (kvs.map (·.1)) ds k y) := by
  have hm : (kvs.any fun kv => decide (kv.1 = k)) = true ↔ k ∈ kvs.map (·.1) := by
    rw [List.any_eq_true, List.mem_map]
    constructor
    · rintro ⟨x, h1, h2⟩; exact ⟨x, h1, of_decide_eq_true h2⟩
    · rintro ⟨x, h1, h2⟩; exact ⟨x, h1, decide_eq_true h2⟩
  unfold putK dV
  by_cases h : k ∈ kvs.map (·.1)
  · rw [if_pos h, if_pos (hm.2 h)]
    exact put_zip hv r
  · rw [if_neg h, if_neg (fun z => h (hm.1 z)), List.map_append]
    exact r.append (.cons hv .nil)
section
variable {G : Gd} {env : En} {σ : St} {H Hv : Hp} {F : Addr → Prop} {i : Nat} {d d' : D} {p : Addr} {o : HO}
/-- a thing of one's own is another one now -/
theorem Rel.mutG (R : Rel G env σ H Hv F) (e : env[i]? = some (some (.ow d))) (h1 : σ[i]? = some (some (.ref p))) (n : Hv p = none ∧ ¬ F p ∧ G.T p = none) (hO : OwnIn G (upd H p o) Hv p d') : Rel G (env.set i (some (.ow d'))) σ (upd H p o) Hv F := by
  obtain ⟨n1, n2, n3⟩ := n
  have hi := set_self (c' := some (C.ow d')) e
  refine ⟨R.hs.put n1 n2 n3, by rw [List.length_set]; exact R.len, fun j c ej => ?_, fun j k d1 d2 u hne ej ek sj sk => ?_⟩
  · by_cases hj : i = j
    · subst hj
      rw [hi] at ej
      cases ej
      exact ⟨_, h1, p, rfl, ⟨n1, n2, n3⟩, hO⟩
    · rw [get_set_ne hj] at ej
      obtain ⟨u, h3, h4⟩ := R.sl j c ej
      refine ⟨u, h3, ?_⟩
      cases c with
      | sh d => exact h4
      | ow d =>
        obtain ⟨q, rfl, n, o2⟩ := h4
        have hne : q ≠ p := fun z => R.ap i j _ d (.ref p) hj e ej h1 (by rw [← z]; exact h3)
        exact ⟨q, rfl, n, o2.mono rfl rfl (upd_ne hne) (Same.refl _)⟩
  · by_cases hj : i = j
    · subst hj
      have hk : i ≠ k := hne
      rw [get_set_ne hk] at ek
      exact R.ap i k _ d2 u hne e ek sj sk
    · rw [get_set_ne hj] at ej
      by_cases hk : i = k
      · subst hk
        exact R.ap j i d1 _ u hne ej e sj sk
      · rw [get_set_ne hk] at ek
        exact R.ap j k d1 d2 u hne ej ek sj sk
/-- what a forgotten name holds is learnt -/
theorem Rel.learn (R : Rel G (env.set i none) σ H Hv F) {v : V} (hi : i < env.length) (h1 : σ[i]? = some (some v)) (h : Rep G.K G.ad Hv v d) : Rel G (env.set i (some (.sh d))) σ H Hv F := by
  have hi2 : (env.set i (some (C.sh d)))[i]? = some (some (.sh d)) := List.getElem?_set_self hi
  refine ⟨R.hs, by have := R.len; rw [List.length_set] at this ⊢; exact this, fun j c ej => ?_, fun j k d1 d2 u hne ej ek sj sk => ?_⟩
  · by_cases hj : i = j
    · subst hj
      rw [hi2] at ej
      cases ej
      exact ⟨_, h1, h⟩
    · rw [get_set_ne hj] at ej
      exact R.sl j c (by rw [get_set_ne hj]; exact ej)
  · have hj : i ≠ j := fun z => by subst z; rw [hi2] at ej; cases ej
    have hk : i ≠ k := fun z => by subst z; rw [hi2] at ek; cases ek
    rw [get_set_ne hj] at ej
    rw [get_set_ne hk] at ek
    exact R.ap j k d1 d2 u hne (by rw [get_set_ne hj]; exact ej) (by rw [get_set_ne hk]; exact ek) sj sk
/-- a dict of one's own is locked for ever, and seen by all -/
theorem Rel.lock {ks : List Key} {ds : List D} {kvs : List (Key × V)} (R : Rel G env σ H Hv F) (e : env[i]? = some (some (.ow (.dic ks ds)))) (h1 : σ[i]? = some (some (.ref p))) (ek : kvs.map (·.1) = ks) (hp : H p = some (.dK kvs)) (r : RepL G.K G.ad Hv (kvs.map (·.2)) ds) (od : Obj) :
    Rel G (env.set i (some (.sh (.dic ks ds)))) σ (upd H p (.frz od (.dK kvs))) (upd Hv p (.frz od (.dK kvs))) F ∧ Same Hv (upd Hv p (.frz od (.dK kvs))) := by
  obtain ⟨v, h2, p', rfl, ⟨n1, n2, n3⟩, _⟩ := R.sl i _ e
  rw [h1] at h2
  cases h2
  have hi : i < env.length := (List.getElem?_eq_some_iff.mp e).1
  have R0 := R.forget i
  have hA : Apart (env.set i none) σ (.ref p) := fun j d2 ej sj => by
    have hj : i ≠ j := fun z => by subst z; rw [List.getElem?_set_self hi] at ej; cases ej
    rw [get_set_ne hj] at ej
    exact R.ap i j _ d2 _ hj e ej h1 sj
  have R1 := (R0.put (o := .frz od (.dK kvs)) n1 n2 n3 hA).show n1 n2 n3 upd_same hA
  have hs := same_self_upd (o := .frz od (.dK kvs)) n1
  refine ⟨R1.learn hi h1 ?_, hs⟩
  rw [← ek]
  exact .dic (.inr ⟨od, upd_same⟩) (r.mono hs)
end
section
variable {X : Cx} {Γ : Gam} {e a b : Expr} {xa xb : E} {pos : Pos}
theorem se_dnil (hΓ : GamOk Γ) : SE X Γ (.Dict [] [] pos) .dnil := by
  refine se_of_ev hΓ trivial rfl (fun _ _ => rfl) (PE.of pe_dnewK fun σ H Q q => ?_)
  obtain ⟨G, env, Hv, F, hK, R, q⟩ := q
  exact fun p hp => (show Kont G env σ Hv Q _ from q).newD R (kvs := []) rfl .nil hp
def flat : List (V × V) → List V
  | [] => []
  | (x, y) :: r => x :: y :: flat r
theorem pd_nil : ∃ trs, PPs X pos [] [] trs ∧ ∀ σ H Q, tA X.K 0 (wEs Γ .nil) σ H Q → tPairs trs σ H fun ps H' => Q (flat ps) H' := ⟨[], pps_nil, fun σ H Q q => by
  obtain ⟨G, env, Hv, F, hK, R, q⟩ := q
  exact q [] H Hv F rfl R .nil (Same.refl _)⟩
theorem pd_cons {n : Nat} {keys : List (Option Expr)} {values : List Expr} {xs : Es} (hΓ : GamOk Γ) (ha : SE X Γ a xa) (hb : SE X Γ b xb) (hr : ∃ trs, PPs X pos keys values trs ∧ ∀ σ H Q, tA X.K n (wEs Γ xs) σ H Q → tPairs trs σ H fun ps H' => Q (flat ps) H') :
    ∃ trs, PPs X pos (some a :: keys) (b :: values) trs ∧ ∀ σ H Q, tA X.K (n + 2) (wEs Γ (.cons xa (.cons xb xs))) σ H Q → tPairs trs σ H fun ps H' => Q (flat ps) H' := by
  obtain ⟨trs, h1, h2⟩ := hr
  refine ⟨_, pps_cons ha.ev hb.ev h1, fun σ H Q q => ?_⟩
  obtain ⟨G, env, Hv, F, hK, R, q⟩ := q
  refine ⟨G, env, Hv, F, hK, R, (w_mo hΓ xa).1 _ _ _ (fun c env1 q1 v H1 Hv1 F1 R1 r1 s1 => ?_) q⟩
  obtain ⟨Hw1, R1, p1, t1⟩ := Res.freeze R1 r1
  refine ⟨G, env1, Hw1, F1, hK, R1, (w_mo hΓ xb).1 _ _ _ (fun c2 env2 q2 v2 H2 Hv2 F2 R2 r2 s2 => ?_) q1⟩
  obtain ⟨Hw2, R2, p2, t2⟩ := Res.freeze R2 r2
  refine h2 σ H2 (fun us H' => Q (v :: v2 :: us) H') ⟨G, env2, Hw2, F2, hK, R2, wEs_mo hΓ xs _ _ _ (fun ds env3 q3 vs H3 Hv3 F3 hn R3 r3 s3 => ?_) q2⟩
  exact q3 (v :: v2 :: vs) H3 Hv3 F3 (by rw [List.length_cons, List.length_cons, hn]) R3 (.cons (p1.mono ((s2.trans t2).trans s3)) (.cons (p2.mono s3) r3)) (((s1.trans t1).trans (s2.trans t2)).trans s3)
def unflat : List V → List (V × V)
  | x :: y :: r => (x, y) :: unflat r
  | _ => []
theorem unflat_flat : ∀ ps : List (V × V), unflat (flat ps) = ps
  | [] => rfl
  | (x, y) :: r => congrArg ((x, y) :: ·) (unflat_flat r)
theorem unpair {K : PySem.W.Frag} {ad : Nat → Addr} {H : Hp} : ∀ {ds : List D} {vs : List V} {ps : List (Key × D)}, RepL K ad H vs ds → pairsI ds = some ps →
    ∃ kvs : List (Key × V), unflat vs = kvs.map (fun kv => (kV kv.1, kv.2)) ∧ kvs.map (·.1) = ps.map (·.1) ∧ RepL K ad H (kvs.map (·.2)) (ps.map (·.2))
  | [], _, _, .nil, e => by cases e; exact ⟨[], rfl, rfl, .nil⟩
  | .int k :: y :: r, _, ps, .cons h1 (.cons h2 t), e => by
    unfold pairsI at e
    cases e1 : pairsI r with
    | none => rw [e1] at e; cases e
    | some qs =>
      rw [e1] at e
      cases e
      obtain ⟨kvs, g1, g2, g3⟩ := unpair t e1
      cases h1
      exact ⟨(.inl k, _) :: kvs, congrArg ((V.int k, _) :: ·) g1, congrArg (Sum.inl k :: ·) g2, .cons h2 g3⟩
theorem merge_rep {K : PySem.W.Frag} {ad : Nat → Addr} {H : Hp} : ∀ {ps : List (Key × D)} {kvs kvs0 : List (Key × V)} {ds : List D}, kvs.map (·.1) = ps.map (·.1) → RepL K ad H (kvs.map (·.2)) (ps.map (·.2)) → RepL K ad H (kvs0.map (·.2)) ds →
    ∃ ds', putAll ps (kvs0.map (·.1)) ds = .dic ((mergeK kvs0 kvs).map (·.1)) ds' ∧ RepL K ad H ((mergeK kvs0 kvs).map (·.2)) ds'
  | [], [], kvs0, ds, _, _, r0 => ⟨ds, rfl, r0⟩
  | (k, y) :: ps, (j, v) :: kvs, kvs0, ds, e, .cons h t, r0 => by
    obtain rfl : j = k := (List.cons.inj e).1
    obtain ⟨ds', g1, g2⟩ := merge_rep (kvs0 := putK kvs0 j v) (List.cons.inj e).2 t (putK_vals h r0)
    refine ⟨ds', ?_, g2⟩
    rw [putK_keys] at g1
    exact g1
  | [], _ :: _, _, _, e, _, _ => nomatch e
  | _ :: _, [], _, _, e, _, _ => nomatch e
theorem se_dsp {n : Nat} {keys : List (Option Expr)} {values : List Expr} {xs : Es} (hΓ : GamOk Γ) (hr : ∃ trs, PPs X pos keys values trs ∧ ∀ σ H Q, tA X.K n (wEs Γ xs) σ H Q → tPairs trs σ H fun ps H' => Q (flat ps) H')
    (hall : keys.all (·.isSome) = true) (hl : keys.length = values.length) (h0 : keys ≠ []) (h15 : keys.length ≤ 15) : SE X Γ (.Dict keys values pos) (.dsp xs) := by
  obtain ⟨trs, h1, h2⟩ := hr
  refine se_of_ev hΓ trivial rfl (fun _ _ => rfl) (PE.of (pe_disp h1 hall hl h0 h15) fun σ H Q q => ?_)
  obtain ⟨G, env, Hv, F, hK, R, q⟩ := q
  intro p hp
  have hT := R.hs.notT hp
  have q : wEs Γ xs env fun ds env1 => sDsp ds fun c => Kont G env1 σ Hv Q c := q
  have key := h2 σ (upd H p (.dK [])) (fun vs H2 => H2 p = some (.dK []) ∧ ∃ kvs : List (Key × V), unflat vs = kvs.map (fun kv => (kV kv.1, kv.2)) ∧ kvs.length ≤ 15 ∧ Q (.ref p) (upd H2 p (.dK (mergeK [] kvs))))
    ⟨G.aside p (.dK []), env, Hv, F, hK, R.aside hp, wEs_mo hΓ xs _ _ _ (fun ds env1 z vs H2 Hv2 F2 _ R2 r2 s2 => ?_) q⟩
  · simp only [unflat_flat] at key
    exact key
  · obtain ⟨hp2, hv2, hF2⟩ := R2.hs.tmp p _ upd_same
    refine ⟨hp2, ?_⟩
    unfold sDsp at z
    cases e : pairsI ds with
    | none => rw [e] at z; exact z.elim
    | some ps =>
      rw [e] at z
      obtain ⟨kvs, g1, g2, g3⟩ := unpair r2 e
      obtain ⟨ds', g4, g5⟩ := merge_rep (kvs0 := []) g2 g3 .nil
      have z2 : Kont G env1 σ Hv Q (.ow (putAll ps [] [])) := z.2
      have g4 : putAll ps [] [] = .dic ((mergeK [] kvs).map (·.1)) ds' := g4
      rw [g4] at z2
      refine ⟨kvs, g1, ?_, z2 (.ref p) _ Hv2 F2 ((Rel.reside R2).unaside hT) ⟨⟨p, rfl, ⟨hv2, hF2, hT⟩, _, upd_same, rfl, g5⟩, fun d _ j e' hj hσ => ?_⟩ s2⟩
      · have := congrArg List.length g2
        rw [List.length_map, List.length_map] at this
        rw [this]
        exact z.1
      · obtain ⟨v, h3, h4⟩ := R2.sl j _ hj
        rw [hσ] at h3
        cases h3
        obtain ⟨a', ea, ⟨_, _, n3⟩, _⟩ := h4
        cases ea
        have n3' : upd G.T p (.dK []) p = none := n3
        rw [upd_same] at n3'
        cases n3'
end
section
variable {X : Cx} {Γ : Gam} {nm : Str} {p p' pos : Pos} {i : Nat} {ix a : Expr} {xi xa : E}
theorem s_setk (hΓ : GamOk Γ) (hu : X.A.units + 1 < cLine) (pv : PE X (.Name nm p) (tVar i)) (hi : SE X Γ ix xi) (ha : SE X Γ a xa) (hs : swapsWithSole [.Subscript (.Name nm p) ix p'] a pos.line X.env = pure false) (hw : swappedStores [.Subscript (.Name nm p) ix p'] a X.env = pure none)
    (hsub : ∀ v, assign (.Subscript (.Name nm p) ix p') X.env v = (do
      let ov ← holding [v] (eval (.Name nm p) X.env)
      let iv ← holding [v, ov] (eval ix X.env)
      standAt p'
      holding [v, ov, iv] (setItem ov iv v)
      release [v, ov, iv] [])) : PS X (.Assign [.Subscript (.Name nm p) ix p'] a pos) (tS X.K (wS Γ (.setk i xi xa))) := PS.of (ps_asg ha.ev (pg_sub pv hi.ev (set_dict hu) hsub) hs hw rfl) fun D σ H q => by
  obtain ⟨G, env, Hv, F, Xd, hK, R, q, L⟩ := q
  refine ⟨G, env, Hv, F, hK, R, (w_mo hΓ xa).1 _ _ _ (fun c env1 z v H1 Hv1 F1 R1 r1 s1 => ?_) q⟩
  obtain ⟨Hv2, R2, r2, s2⟩ := Res.freeze R1 r1
  obtain ⟨⟨d0, e0⟩, z⟩ := z
  obtain ⟨u, hu', _⟩ := R2.sl i _ e0
  refine ⟨u, hu', G, env1, Hv2, F1, hK, R2, (w_mo hΓ xi).1 _ _ _ (fun ci env2 ⟨k, d, e1, e2, z3⟩ iv H3 Hv3 F3 R3 r3 s3 => ?_) z⟩
  cases d <;> first | exact z3.elim | skip
  case dic ks l =>
  obtain ⟨e3, z3⟩ := z3
  obtain ⟨v1, hq1, q1, rfl, n, kvs, hq, ek, r⟩ := R3.sl i _ e2
  rw [hu'] at hq1
  cases hq1
  have pi := r3.pk R3
  rw [e1] at pi
  have hl : kvs.length = ks.length := by rw [← ek, List.length_map]
  refine ⟨q1, _, rfl, by rw [pi.int]; exact DPut.k (k := .inl k) (v := v) hq (by rw [hl]; exact e3), ?_⟩
  refine L.nx _ _ _ _ _ z3 (R3.mutG e2 hu' n ⟨_, upd_same, ?_, ?_⟩) ((s1.trans s2).trans s3)
  · rw [putK_keys, ek]
  · rw [← ek]
    exact putK_vals (Rep.mono s3 r2) r
theorem PI.lock {tg : Expr} {e : Expr} {wi : TI} (h : PI X tg e wi) : PI X tg e (fun σ H R => ∃ d u, H d = some u ∧ Mut (some u) ∧ ∀ od, wi σ (upd H d (.frz od u)) R) := by
  refine ⟨fun pins s σ H R I q => ?_⟩
  obtain ⟨d, u, hd, mu, q⟩ := q
  obtain ⟨od, I1⟩ := I.lock hd mu
  exact h.run pins s σ _ R I1 (q od)
theorem walkD_keys {G : Gd} {Hv1 : Hp} {a : Addr} {o : Obj} {kvs : List (Key × V)} (e : Hv1 a = some (.frz o (.dK kvs))) (hz : kvs.length ≤ sizeLine) : WalkD G (Itk a o kvs) ((kvs.map (·.1)).map kD) Hv1 where
  goes i H hi s := ⟨s _ _ e, by rw [List.length_map, List.length_map] at hi; exact hi⟩
  stops H s := ⟨s _ _ e, by rw [List.length_map, List.length_map]; exact Nat.le_refl _⟩
  yields i H x H' d hd s y := by
    obtain ⟨h1, k, v, h2, rfl⟩ := y
    rw [List.getElem?_map, List.getElem?_map, h2] at hd
    cases hd
    refine .inl ⟨h1, ?_⟩
    cases k with
    | inl i => exact .int i
    | inr s => exact .str s
  len := by rw [List.length_map, List.length_map]; exact hz
theorem si_dk {tg : Expr} (pv : PE X (.Name nm p) (tVar i)) : PI X tg (.Name nm p) (iI X.K (wI Γ (.dk i))) := by
  refine ⟨fun pins s σ H R I q => ?_⟩
  obtain ⟨G, env, Hv, F, hK, RR, d, e, k⟩ := q
  cases d <;> first | exact k.elim | skip
  case dic ks ds =>
  obtain ⟨v, h1, q, rfl, n, kvs, hq, ek, r⟩ := RR.sl i _ e
  have hz := (dk_of I.hok hq).1
  refine (PI.lock (pi_keys pv)).run pins s σ H R I ⟨q, .dK kvs, hq, trivial, fun od => ?_⟩
  obtain ⟨R1, s1⟩ := RR.lock e h1 ek hq r od
  refine ⟨_, h1, q, od, rfl, .inl ⟨kvs, upd_same, ?_⟩⟩
  refine k _ _ _ F R1 s1 ?_
  rw [← ek]
  exact walkD_keys upd_same hz
end
end B

namespace B
open PySem PySem.Spec L2

/-! ## the text is read: what it says by value, with the proof that it says so -/
structure Ct where
  sc : Scope
  N : List Str
  fnl : List Str := []
  fs : List ((Str × Nat × List Str) × Nat) := []
  cs : List (Str × D) := []
  gcd : Bool := false
  dig : Bool := false
  dn : List Str := []
  mp : Bool := false
def blts : List Str := ["len", "abs", "int", "bool", "str", "repr", "sum", "max", "min", "list", "tuple", "sorted", "all", "any", "range", "enumerate", "zip", "reversed", "isinstance", "dict", "set"]
structure CtOk (X : Cx) (Γ : Gam) (ct : Ct) : Prop where
  mo : GamOk Γ
  sc : X.env.scope = ct.sc
  kd : ct.sc.kind = .function
  N : X.N = ct.N
  nd : ct.N.Nodup
  fn : ∀ x ∈ ct.fnl, X.fn x = true
  calm : X.calm = true
  gd : X.A.guards = some []
  un : X.A.units + 64 < cLine
  blt : ∀ nm ∈ blts, X.mg nm = none
  gc : ct.gcd = true → X.mg "gcd" = some (.builtin "math.gcd")
  dg : ct.dig = true → digB X.K = true
  fs : ∀ p ∈ ct.fs, Fact X.prog X.w X.K X.mg X.base X.A p.1.1 p.1.2.1 p.1.2.2 (Γ p.2)
  cs : ∀ p ∈ ct.cs, ∃ v u, X.mg p.1 = some u ∧ RelV v u ∧ (p.1 == ("__debug__" : Str)) = false ∧ ∀ K ad H, Rep K ad H v p.2

instance : DecidablePred NotStar := fun e => by cases e <;> first | exact isTrue trivial | exact isFalse id
instance : DecidablePred NotSet := fun e => by cases e <;> first | exact isTrue trivial | exact isFalse id
instance : DecidablePred NotSlice := fun e => by cases e <;> first | exact isTrue trivial | exact isFalse id
instance : DecidablePred NotVar := fun e => by cases e <;> first | exact isTrue trivial | exact isFalse id
def NotComp : Expr → Prop
  | .ListComp .. => False
  | .SetComp .. => False
  | .DictComp .. => False
  | _ => True
instance : DecidablePred NotComp := fun e => by cases e <;> first | exact isTrue trivial | exact isFalse id
def NotTup : Expr → Prop
  | .Tuple .. => False
  | .List .. => False
  | _ => True
instance : DecidablePred NotTup := fun e => by cases e <;> first | exact isTrue trivial | exact isFalse id
instance (es : List Expr) : Decidable (NoStars es) := List.decidableBAll (p := NotStar) es
theorem swaps_not {a : Expr} (h : NotComp a) {t : Option Expr} {l : Nat} {env : Env} : swapsWith a t l env = pure false := by
  cases a <;> first | rfl | exact h.elim
theorem stores_not {tg a : Expr} (h : NotTup tg ∨ NotTup a) {env : Env} : swappedStores [tg] a env = pure none := by
  rcases h with h | h
  · cases tg <;> first | rfl | exact h.elim
  · cases a <;> first | (exact h.elim) | (cases tg <;> rfl)
theorem folded_not {e : Expr} (h : NotSet e) {env : Env} (x : Value) : foldedSetIterable e env x = pure x := by
  cases e <;> first | rfl | exact h.elim
theorem each_cons {e : Expr} {es : List Expr} (h : NotStar e) {env : Env} : assignEach (e :: es) env = (false, assign e env) :: assignEach es env := by
  cases e <;> first | rfl | exact h.elim

abbrev RE (ct : Ct) (e : Expr) := Option { x : E // ∀ X Γ, CtOk X Γ ct → SE X Γ e x }
abbrev RI (ct : Ct) (tg e : Expr) := Option { x : It // ∀ X Γ, CtOk X Γ ct → PI X tg e (iI X.K (wI Γ x)) }
abbrev RO (ct : Ct) (e : Option Expr) := Option { x : Oe // ∀ X Γ, CtOk X Γ ct → PO X e (tOi X.K (wO Γ x)) }
abbrev REs (ct : Ct) (es : List Expr) := Option { x : Es // (∀ X Γ, CtOk X Γ ct → PA X es (tA X.K es.length (wEs Γ x))) ∧ (es = [] → x = .nil) }
abbrev RPs (ct : Ct) (es : List Expr) := Option { x : Es // ∀ X Γ, CtOk X Γ ct → PA X es (tPs X.K (wPs Γ x)) }
def Es.len : Es → Nat
  | .nil => 0
  | .cons _ r => r.len + 1
abbrev RCs (ct : Ct) (es : List Expr) := Option { x : Es // (∀ X Γ, CtOk X Γ ct → PA X es (tCs X.K (wCs Γ x))) ∧ x.len = es.length }
abbrev RKs (ct : Ct) (ks : List Keyword) := Option { x : Es // ∀ X Γ, CtOk X Γ ct → PK X ks (tA X.K ks.length (wEs Γ x)) }
abbrev RG (ct : Ct) (e : Expr) := Option { t : T // t.ok = true ∧ ∀ X Γ, CtOk X Γ ct → PG X e (gOf X.K t) }
abbrev RGs (ct : Ct) (es : List Expr) := Option { t : T // (t.ok = true ∧ t.isRow = true ∧ t.len = es.length) ∧ ∀ X Γ, CtOk X Γ ct → PGs X es (gOfs X.K t) ∧ (assignEach es X.env).length = es.length ∧ (assignEach es X.env).findIdx? (·.1) = none }

theorem wCs_len {Γ : Gam} (hΓ : GamOk Γ) : ∀ (x : Es) (env : En) (Q : List C → En → Prop), wCs Γ x env Q → wCs Γ x env fun cs env' => cs.length = x.len ∧ Q cs env'
  | .nil, env, Q, q => ⟨rfl, q⟩
  | .cons e r, env, Q, q => (w_mo hΓ e).1 _ _ _ (fun c env1 z => wCs_mo hΓ r _ _ _ (fun cs env2 z2 => ⟨congrArg Nat.succ z2.1, z2.2⟩) (wCs_len hΓ r env1 _ z)) q

/-- where a name stands -/
def slotOf (N : List Str) (nm : Str) : Nat := N.idxOf nm
def isVis (sc : Scope) (nm : Str) : Bool := match sc.names.lookup nm with
  | some .local => true
  | some .cell => true
  | some .free => true
  | _ => false
theorem vis_of {sc : Scope} {nm : Str} (h : isVis sc nm = true) : Vis sc nm := by
  unfold isVis at h
  unfold Vis
  split at h <;> first | (rename_i e; rw [e]; first | exact .inl rfl | exact .inr (.inl rfl) | exact .inr (.inr rfl)) | cases h
def isGl (ct : Ct) (nm : Str) : Bool := ct.sc.names.lookup nm == some .globalImplicit
theorem gl_of {X : Cx} {Γ : Gam} {ct : Ct} {nm : Str} (ok : CtOk X Γ ct) (h : isGl ct nm = true) : Gl X nm := by
  show X.env.scope.names.lookup nm = _
  rw [ok.sc]
  exact eq_of_beq h
abbrev RV (ct : Ct) (nm : Str) := Option { i : Nat // ∀ X Γ, CtOk X Γ ct → X.N[i]? = some nm ∧ Vis X.env.scope nm ∧ (nm == ("__debug__" : Str)) = false ∧ (nm == ("__classdict__" : Str)) = false }
def cVar (ct : Ct) (nm : Str) : RV ct nm :=
  if h : isVis ct.sc nm = true ∧ ct.N[slotOf ct.N nm]? = some nm ∧ (nm == ("__debug__" : Str)) = false ∧ (nm == ("__classdict__" : Str)) = false then
    some ⟨slotOf ct.N nm, fun X Γ ok => ⟨by rw [ok.N]; exact h.2.1, by rw [ok.sc]; exact vis_of h.1, h.2.2⟩⟩
  else none
def cCst (ct : Ct) (nm : Str) {pos : Pos} : RE ct (.Name nm pos) :=
  if hg : isGl ct nm = true then
    match h : ct.cs.find? fun p => p.1 == nm with
    | some p => some ⟨.cst p.2, fun X Γ ok => by
        have hm := List.mem_of_find?_eq_some h
        have he : p.1 = nm := eq_of_beq (List.find?_some (p := fun p : Str × D => p.1 == nm) h)
        obtain ⟨v, u, h1, h2, h3, h4⟩ := ok.cs p hm
        rw [he] at h1 h3
        exact se_cst ok.mo (pe_glob (gl_of ok hg) h1 h2 h3) h4 (fun _ _ => rfl)⟩
    | none => none
  else none

section
variable (rec : ∀ (ct : Ct) (e : Expr), RE ct e) (ct : Ct)
def cEs : ∀ es : List Expr, REs ct es
  | [] => some ⟨.nil, fun X Γ ok => sa_nil, fun _ => rfl⟩
  | e :: es => if hs : NotStar e then (rec ct e).bind fun x => (cEs es).bind fun r => some ⟨.cons x.1 r.1, fun X Γ ok => sa_cons ok.mo (x.2 X Γ ok) (r.2.1 X Γ ok) hs, fun z => nomatch z⟩ else none
def cPs : ∀ es : List Expr, RPs ct es
  | [] => some ⟨.nil, fun X Γ ok => sp_nil⟩
  | e :: es => if hs : NotStar e then (rec ct e).bind fun x => (cPs es).bind fun r => some ⟨.cons x.1 r.1, fun X Γ ok => sp_cons ok.mo (x.2 X Γ ok) (r.2 X Γ ok) hs⟩ else none
def cCs : ∀ es : List Expr, RCs ct es
  | [] => some ⟨.nil, fun X Γ ok => sc_nil, rfl⟩
  | e :: es => if hs : NotStar e then (rec ct e).bind fun x => (cCs es).bind fun r => some ⟨.cons x.1 r.1, fun X Γ ok => sc_cons ok.mo (x.2 X Γ ok) (r.2.1 X Γ ok) hs, congrArg Nat.succ r.2.2⟩ else none
def cKs : ∀ ks : List Keyword, RKs ct ks
  | [] => some ⟨.nil, fun X Γ ok => sk_nil⟩
  | ⟨nm, e, kp⟩ :: ks => (rec ct e).bind fun x => (cKs ks).bind fun r => some ⟨.cons x.1 r.1, fun X Γ ok => sk_cons ok.mo (x.2 X Γ ok) (r.2 X Γ ok)⟩
def cO : ∀ e : Option Expr, RO ct e
  | none => some ⟨.no, fun X Γ ok => so_no⟩
  | some e => (rec ct e).bind fun x => some ⟨.so x.1, fun X Γ ok => so_so ok.mo (x.2 X Γ ok)⟩
end

/-! targets -/
mutual
def cG (ct : Ct) : ∀ e : Expr, RG ct e
  | .Name nm pos => if h : (ct.sc.names.lookup nm = some .local ∨ ct.sc.names.lookup nm = some .cell ∧ nm ∈ ct.fnl) ∧ ct.N[slotOf ct.N nm]? = some nm then
      some ⟨.nm (slotOf ct.N nm), rfl, fun X Γ ok => pg_name (by rw [ok.N]; exact ok.nd) (by rw [ok.N]; exact h.2) (by rw [ok.sc]; exact h.1.imp id And.left) (by
        rcases h.1 with h | h
        · exact .inr (by rw [ok.sc]; exact h)
        · exact .inl (ok.fn _ h.2))⟩
    else none
  | .Tuple es k pos => match cGs ct es with
    | some ⟨.cons t r, h, k⟩ => some ⟨.cons t r, by
        have h1 := h.1
        have h2 := h.2.1
        exact h1, fun X Γ ok => by
        obtain ⟨p, hl, hf⟩ := k X Γ ok
        have e : r.len + 1 = es.length := h.2.2
        show PG X _ (gSeq X.K (r.len + 1) (gCons (gOf X.K t) (gOfs X.K r)))
        exact pg_seq ok.calm p (by rw [hl, e]) hf⟩
    | _ => none
  | _ => none
def cGs (ct : Ct) : ∀ es : List Expr, RGs ct es
  | [] => some ⟨.nil, ⟨rfl, rfl, rfl⟩, fun X Γ ok => ⟨pgs_nil, rfl, rfl⟩⟩
  | e :: es => if hs : NotStar e then match cG ct e, cGs ct es with
      | some t, some r => some ⟨.cons t.1 r.1, ⟨by show (t.1.ok && r.1.ok && r.1.isRow) = true; rw [t.2.1, r.2.1.1, r.2.1.2.1]; rfl, r.2.1.2.1, congrArg Nat.succ r.2.1.2.2⟩, fun X Γ ok => by
          obtain ⟨p, hl, hf⟩ := r.2.2 X Γ ok
          refine ⟨pgs_cons (t.2.2 X Γ ok) p (by rw [each_cons hs]; rfl), by rw [each_cons hs]; exact congrArg Nat.succ hl, ?_⟩
          rw [each_cons hs, List.findIdx?_cons, hf]
          rfl⟩
      | _, _ => none
    else none
end
end B

namespace B
open PySem PySem.Spec L2

/-! ## expressions -/
def cellsOf (scope : Scope) : List Str := (scope.names.filter fun p => p.2 == .cell).map (·.1)
def blkCt (ct : Ct) (scope : Scope) : Ct := { ct with sc := relS scope ct.sc, fnl := scope.names.filterMap fun p => if scope.names.lookup p.1 == some .cell then some p.1 else none }
theorem CtOk.blk {X : Cx} {Γ : Gam} {ct : Ct} (ok : CtOk X Γ ct) {scope : Scope} (hk : scope.kind = .function) (s : Shared) (H : Hp) (C : Addr) (cl : List (Str × Addr)) (fp : List Addr) :
    CtOk (X.blk s H scope (compEnvC scope cl C X.env) fp) Γ (blkCt ct scope) where
  mo := ok.mo
  sc := by
    show relS scope X.env.scope = relS scope ct.sc
    rw [ok.sc]
  kd := hk
  N := ok.N
  nd := ok.nd
  fn := fun x hx => by
    obtain ⟨p, hp, e⟩ := List.mem_filterMap.mp hx
    show (scope.names.lookup x == some .cell) = true
    split at e
    · rename_i h
      cases e
      exact h
    · cases e
  calm := ok.calm
  gd := ok.gd
  un := ok.un
  blt := ok.blt
  gc := ok.gc
  dg := ok.dg
  fs := ok.fs
  cs := ok.cs
def ownOf (N : List Str) (scope : Scope) : List (Str × Nat) := scope.names.filterMap fun p => if (p.2 = .local ∨ p.2 = .cell) ∧ p.1 ∈ N then some (p.1, slotOf N p.1) else none
def BlkB (N : List Str) (sc scope : Scope) (own : List (Str × Nat)) : Prop :=
  scope.kind = .function ∧ (∀ y ∈ scope.names, scope.names.lookup y.1 = some y.2) ∧ (∀ p ∈ own, N[p.2]? = some p.1) ∧ (∀ y ∈ scope.names, y.2 = .free → sc.names.lookup y.1 = some .cell ∨ sc.names.lookup y.1 = some .free) ∧
  (∀ y ∈ scope.names, y.2 = .local ∨ y.2 = .cell → y.1 ∈ own.map (·.1) ∨ y.1 ∉ N) ∧ own ≠ []
instance (N : List Str) (sc scope : Scope) (own : List (Str × Nat)) : Decidable (BlkB N sc scope own) := by unfold BlkB; infer_instance
theorem blk_of {N : List Str} {sc scope : Scope} {own : List (Str × Nat)} (h : BlkB N sc scope own) : BlkOk N sc scope own :=
  ⟨h.1, h.2.1, h.2.2.1, h.2.2.2.1, h.2.2.2.2.1⟩

section
variable (rec : ∀ (ct : Ct) (e : Expr), RE ct e) (ct : Ct)
def cSq (tg e : Expr) : RI ct tg e := (rec ct e).bind fun x => some ⟨.sq x.1, fun X Γ ok => si_sq ok.mo (x.2 X Γ ok)⟩
/-- what is walked -/
def cI (tg : Expr) : ∀ e : Expr, RI ct tg e
  | .Call (.Name nm p) [a] [] pos =>
    if h : nm = "range" ∧ isGl ct "range" = true ∧ NotStar a then
      (rec ct a).bind fun x => some ⟨.rg1 x.1, fun X Γ ok => by rw [h.1]; exact si_rg1 ok.mo (gl_of ok h.2.1) (ok.blt _ (by decide +kernel)) h.2.2 (x.2 X Γ ok)⟩
    else if h : nm = "enumerate" ∧ isGl ct "enumerate" = true ∧ NotStar a then
      match tg with
      | .Tuple elts kk tp => (rec ct a).bind fun x => some ⟨.en x.1, fun X Γ ok => by rw [h.1]; exact si_en ok.mo (gl_of ok h.2.1) (ok.blt _ (by decide +kernel)) h.2.2 (x.2 X Γ ok)⟩
      | _ => none
    else if h : nm = "reversed" ∧ isGl ct "reversed" = true ∧ NotStar a then
      (rec ct a).bind fun x => some ⟨.rev x.1, fun X Γ ok => by rw [h.1]; exact si_rev ok.mo (gl_of ok h.2.1) (ok.blt _ (by decide +kernel)) h.2.2 (x.2 X Γ ok)⟩
    else cSq rec ct tg _
  | .Call (.Name nm p) [a, b] [] pos =>
    if h : nm = "range" ∧ isGl ct "range" = true ∧ NotStar a ∧ NotStar b then
      (rec ct a).bind fun x => (rec ct b).bind fun y => some ⟨.rg2 x.1 y.1, fun X Γ ok => by rw [h.1]; exact si_rg2 ok.mo (gl_of ok h.2.1) (ok.blt _ (by decide +kernel)) h.2.2.1 h.2.2.2 (x.2 X Γ ok) (y.2 X Γ ok)⟩
    else if h : nm = "zip" ∧ isGl ct "zip" = true ∧ NotStar a ∧ NotStar b then
      match tg with
      | .Tuple elts kk tp => (rec ct a).bind fun x => (rec ct b).bind fun y => some ⟨.zp x.1 y.1, fun X Γ ok => by rw [h.1]; exact si_zp ok.mo (gl_of ok h.2.1) (ok.blt _ (by decide +kernel)) h.2.2.1 h.2.2.2 (x.2 X Γ ok) (y.2 X Γ ok)⟩
      | _ => none
    else cSq rec ct tg _
  | .Call (.Name nm p) [a, b, c] [] pos =>
    if h : nm = "range" ∧ isGl ct "range" = true ∧ NotStar a ∧ NotStar b ∧ NotStar c then
      (rec ct a).bind fun x => (rec ct b).bind fun y => (rec ct c).bind fun z => some ⟨.rg3 x.1 y.1 z.1, fun X Γ ok => by rw [h.1]; exact si_rg3 ok.mo (gl_of ok h.2.1) (ok.blt _ (by decide +kernel)) h.2.2.1 h.2.2.2.1 h.2.2.2.2 (x.2 X Γ ok) (y.2 X Γ ok) (z.2 X Γ ok)⟩
    else cSq rec ct tg _
  | .Name nm p => if ct.dn.contains nm = true then (cVar ct nm).bind fun i => some ⟨.dk i.1, fun X Γ ok => si_dk (pe_var (i.2 X Γ ok).1 (i.2 X Γ ok).2.1 (i.2 X Γ ok).2.2.1 (i.2 X Γ ok).2.2.2)⟩ else cSq rec ct tg _
  | e => cSq rec ct tg e
/-- a display -/
abbrev RD (ct : Ct) (pos : Pos) (keys : List (Option Expr)) (values : List Expr) := Option { x : Es // ∀ X Γ, CtOk X Γ ct → ∃ trs, PPs X pos keys values trs ∧ ∀ σ H Q, tA X.K (2 * keys.length) (wEs Γ x) σ H Q → tPairs trs σ H fun ps H' => Q (flat ps) H' }
def cDs (pos : Pos) : ∀ (ks : List (Option Expr)) (vs : List Expr), RD ct pos ks vs
  | [], [] => some ⟨.nil, fun X Γ ok => pd_nil⟩
  | some a :: ks, b :: vs => (rec ct a).bind fun x => (rec ct b).bind fun y => (cDs pos ks vs).bind fun r => some ⟨.cons x.1 (.cons y.1 r.1), fun X Γ ok => pd_cons ok.mo (x.2 X Γ ok) (y.2 X Γ ok) (r.2 X Γ ok)⟩
  | _, _ => none
def cDict (pos : Pos) : ∀ (ks : List (Option Expr)) (vs : List Expr), RE ct (.Dict ks vs pos)
  | [], [] => some ⟨.dnil, fun X Γ ok => se_dnil ok.mo⟩
  | k :: ks, vs => if h : (k :: ks).all (·.isSome) = true ∧ (k :: ks).length = vs.length ∧ (k :: ks).length ≤ 15 then (cDs rec ct pos (k :: ks) vs).bind fun x => some ⟨.dsp x.1, fun X Γ ok => se_dsp ok.mo (x.2 X Γ ok) h.1 h.2.1 (fun z => nomatch z) h.2.2⟩ else none
  | _, _ => none
/-- the parts of a comprehension -/
structure CP (ct : Ct) (elt tg iter : Expr) (ifs : List Expr) (scope : Scope) where
  t : T
  it : It
  cnd : Oe
  x : E
  own : List (Str × Nat)
  ok : ∀ (X : Cx) (Γ : Gam), CtOk X Γ ct → PI X tg iter (iI X.K (wI Γ it)) ∧ BlkOk X.N X.env.scope scope own ∧ own ≠ [] ∧ (∀ i ∈ t.vars, i ∈ own.map (·.2)) ∧ t.ok = true ∧
    (∀ (s : Shared) (H : Hp) (C : Addr) (cl : List (Str × Addr)) (fp : List Addr), PG (X.blk s H scope (compEnvC scope cl C X.env) fp) tg (gOf X.K t)) ∧ (∀ (s : Shared) (H : Hp) (C : Addr) (cl : List (Str × Addr)) (fp : List Addr), PTs (X.blk s H scope (compEnvC scope cl C X.env) fp) ifs (tT X.K (wC Γ cnd))) ∧
    (∀ (s : Shared) (H : Hp) (C : Addr) (cl : List (Str × Addr)) (fp : List Addr), PE (X.blk s H scope (compEnvC scope cl C X.env) fp) elt (tE X.K (w Γ x).ev)) ∧ (∀ v, foldedSetIterable iter X.env v = pure v)
def cCnd : ∀ ifs : List Expr, Option { x : Oe // ∀ X Γ, CtOk X Γ ct → PTs X ifs (tT X.K (wC Γ x)) }
  | [] => some ⟨.no, fun X Γ ok => sc_no⟩
  | [a] => (rec ct a).bind fun x => some ⟨.so x.1, fun X Γ ok => sc_so (x.2 X Γ ok)⟩
  | _ => none
def cCP (elt tg iter : Expr) (ifs : List Expr) (scope : Scope) : Option (CP ct elt tg iter ifs scope) :=
  if hb : BlkB ct.N ct.sc scope (ownOf ct.N scope) ∧ NotSet iter then
    (cI rec ct tg iter).bind fun it => (cG (blkCt ct scope) tg).bind fun t => (cCnd rec (blkCt ct scope) ifs).bind fun cnd => (rec (blkCt ct scope) elt).bind fun x =>
      if hv : ∀ i ∈ t.1.vars, i ∈ (ownOf ct.N scope).map (·.2) then
        some ⟨t.1, it.1, cnd.1, x.1, ownOf ct.N scope, fun X Γ ok => ⟨it.2 X Γ ok, by rw [ok.N, ok.sc]; exact blk_of hb.1, hb.1.2.2.2.2.2, hv, t.2.1, fun s H C cl fp => t.2.2 _ Γ (ok.blk hb.1.1 s H C cl fp),
          fun s H C cl fp => cnd.2 _ Γ (ok.blk hb.1.1 s H C cl fp), fun s H C cl fp => (x.2 _ Γ (ok.blk hb.1.1 s H C cl fp)).ev, fun v => folded_not hb.2 v⟩⟩
      else none
  else none
/-- and, or -/
abbrev RB (k : Bool) (es : List Expr) (pos : Pos) := Option { x : E // ∀ X Γ, CtOk X Γ ct → SB X Γ (.BoolOp (opOf k) es pos) x }
def cB (k : Bool) (pos : Pos) : ∀ es : List Expr, RB ct k es pos
  | [] => none
  | [a] => (rec ct a).bind fun x => some ⟨x.1, fun X Γ ok => sb_one (x.2 X Γ ok)⟩
  | a :: b :: r => (rec ct a).bind fun x => (cB k pos (b :: r)).bind fun y => some ⟨.bop k x.1 y.1, fun X Γ ok => sb_cons ok.mo (x.2 X Γ ok) (y.2 X Γ ok)⟩
def cBop (k : Bool) (pos : Pos) : ∀ es : List Expr, RE ct (.BoolOp (opOf k) es pos)
  | a :: b :: r => (rec ct a).bind fun x => (cB rec ct k pos (b :: r)).bind fun y => some ⟨.bop k x.1 y.1, fun X Γ ok => se_bop ok.mo (sb_cons ok.mo (x.2 X Γ ok) (y.2 X Γ ok))⟩
  | _ => none
def biFor (nm : Str) (k : Nat) : Option Bi :=
  if nm = "len" then some .len else if nm = "abs" then some .abs else if nm = "int" then some .int else if nm = "bool" then some .bool else if nm = "str" then some .str else if nm = "repr" then some .repr
  else if nm = "sum" then some .sum else if nm = "max" then (if k = 1 then some .max1 else some .max2) else if nm = "min" then (if k = 1 then some .min1 else some .min2) else if nm = "list" then some .lst else if nm = "tuple" then some .tup
  else if nm = "sorted" then some .sorted else if nm = "all" then some .all_ else if nm = "any" then some .any_ else if nm = "gcd" then some .gcd else if nm = "dict" then some .dct else none
/-- a built-in called -/
def cBi (nm : Str) (p : Pos) (e : Expr) (es : List Expr) (pos : Pos) : RE ct (.Call (.Name nm p) (e :: es) [] pos) :=
  if h : ct.dig = true ∧ nm = "repr" ∧ isGl ct nm = true ∧ NoStars (e :: es) ∧ nm ∈ blts then
    (cPs rec ct (e :: es)).bind fun x => some ⟨.bi .reprB x.1, fun X Γ ok => by
      obtain ⟨h1, h2, h3, h4, h5⟩ := h
      subst h2
      exact se_reprB ok.mo ok.gd ok.un (ok.dg h1) (gl_of ok h3) (ok.blt _ h5) h4 (x.2 X Γ ok)⟩
  else
  match (if ct.mp = true ∧ nm = "min" then some .minP else biFor nm (es.length + 1)) with
  | none => none
  | some f => match hf : biOf f with
    | none => none
    | some (nm', val) =>
      if h : nm' = nm ∧ isGl ct nm = true ∧ NoStars (e :: es) ∧ (if f = .gcd then ct.gcd = true ∧ nm = "gcd" ∧ val = .builtin "math.gcd" else nm ∈ blts) then
        (cPs rec ct (e :: es)).bind fun x => some ⟨.bi f x.1, fun X Γ ok => by
          obtain ⟨h1, h2, h3, h4⟩ := h
          subst h1
          refine se_bi ok.mo ok.calm ok.gd ok.un hf (gl_of ok h2) ?_ h3 (x.2 X Γ ok)
          by_cases hg : f = .gcd
          · rw [if_pos hg] at h4 ⊢
            obtain ⟨h5, h6, h7⟩ := h4
            rw [h6, h7]
            exact ok.gc h5
          · rw [if_neg hg] at h4 ⊢
            exact ok.blt _ h4⟩
      else none
/-- a def of the text called -/
def cDef (nm : Str) (p : Pos) (es : List Expr) (kws : List Keyword) (pos : Pos) : RE ct (.Call (.Name nm p) es kws pos) :=
  match hk : kwNames kws with
  | none => none
  | some ks => match hf : ct.fs.find? fun q => q.1 == (nm, es.length, ks) with
    | none => none
    | some q => if h : isGl ct nm = true ∧ NoStars es then
        (cEs rec ct es).bind fun x => (cKs rec ct kws).bind fun y => some ⟨.call q.2 (x.1.app y.1), fun X Γ ok => by
          have hm := List.mem_of_find?_eq_some hf
          have he : q.1 = (nm, es.length, ks) := eq_of_beq (List.find?_some (p := fun q : (Str × Nat × List Str) × Nat => q.1 == (nm, es.length, ks)) hf)
          have hF := ok.fs q hm
          rw [he] at hF
          exact se_call ok.mo hF ok.gd (gl_of ok h.1) hk h.2 x.2.2 (x.2.1 X Γ ok) (y.2 X Γ ok)⟩
      else none
/-- isinstance of one built-in class -/
def cIsi (nm : Str) (p : Pos) (a : Expr) (ty : Str) (p2 pos : Pos) (t : String) (ht : t ∈ tyNames) (hb : (t : Str) ∈ blts) : RE ct (.Call (.Name nm p) [a, .Name ty p2] [] pos) :=
  if h : ty = (t : Str) ∧ nm = "isinstance" ∧ isGl ct "isinstance" = true ∧ isGl ct ty = true ∧ NotStar a then
    (rec ct a).bind fun x => some ⟨.isi x.1 t, fun X Γ ok => by
      obtain ⟨h0, h1, h2, h3, h4⟩ := h
      subst h0 h1
      exact se_isi ok.mo (gl_of ok h2) (ok.blt _ (by decide +kernel)) ht (gl_of ok h3) (ok.blt _ hb) h4 (x.2 X Γ ok)⟩
  else none
/-- a call of a name -/
def cCall (nm : Str) (p : Pos) : ∀ (es : List Expr) (kws : List Keyword) (pos : Pos), RE ct (.Call (.Name nm p) es kws pos)
  | [.Call (.Name nm2 p2) [a] [] q2], [], pos =>
    if h : nm = "list" ∧ nm2 = "range" ∧ isGl ct "list" = true ∧ isGl ct "range" = true ∧ NotStar a then
      (rec ct a).bind fun x => some ⟨.bi .lrg1 (.cons x.1 .nil), fun X Γ ok => by rw [h.1, h.2.1]; exact se_lrg1 ok.mo ok.calm (gl_of ok h.2.2.1) (ok.blt _ (by decide +kernel)) (gl_of ok h.2.2.2.1) (ok.blt _ (by decide +kernel)) h.2.2.2.2 (x.2 X Γ ok)⟩
    else if h : nm = "tuple" ∧ nm2 = "range" ∧ isGl ct "tuple" = true ∧ isGl ct "range" = true ∧ NotStar a then
      (rec ct a).bind fun x => some ⟨.bi .trg1 (.cons x.1 .nil), fun X Γ ok => by rw [h.1, h.2.1]; exact se_trg1 ok.mo ok.calm (gl_of ok h.2.2.1) (ok.blt _ (by decide +kernel)) (gl_of ok h.2.2.2.1) (ok.blt _ (by decide +kernel)) h.2.2.2.2 (x.2 X Γ ok)⟩
    else if h : nm = "sorted" ∧ nm2 = "set" ∧ isGl ct "sorted" = true ∧ isGl ct "set" = true ∧ NotStar a then
      (rec ct a).bind fun x => some ⟨.bi .sset (.cons x.1 .nil), fun X Γ ok => by rw [h.1, h.2.1]; exact se_sset ok.mo ok.calm (gl_of ok h.2.2.1) (ok.blt _ (by decide +kernel)) (gl_of ok h.2.2.2.1) (ok.blt _ (by decide +kernel)) h.2.2.2.2 (x.2 X Γ ok)⟩
    else (cDef rec ct nm p _ [] pos).orElse fun _ => cBi rec ct nm p _ [] pos
  | [.Call (.Name nm2 p2) [a, b] [] q2], [], pos =>
    if h : nm = "list" ∧ nm2 = "range" ∧ isGl ct "list" = true ∧ isGl ct "range" = true ∧ NotStar a ∧ NotStar b then
      (rec ct a).bind fun x => (rec ct b).bind fun y => some ⟨.bi .lrg2 (.cons x.1 (.cons y.1 .nil)), fun X Γ ok => by rw [h.1, h.2.1]; exact se_lrg2 ok.mo ok.calm (gl_of ok h.2.2.1) (ok.blt _ (by decide +kernel)) (gl_of ok h.2.2.2.1) (ok.blt _ (by decide +kernel)) h.2.2.2.2.1 h.2.2.2.2.2 (x.2 X Γ ok) (y.2 X Γ ok)⟩
    else if h : nm = "tuple" ∧ nm2 = "range" ∧ isGl ct "tuple" = true ∧ isGl ct "range" = true ∧ NotStar a ∧ NotStar b then
      (rec ct a).bind fun x => (rec ct b).bind fun y => some ⟨.bi .trg2 (.cons x.1 (.cons y.1 .nil)), fun X Γ ok => by rw [h.1, h.2.1]; exact se_trg2 ok.mo ok.calm (gl_of ok h.2.2.1) (ok.blt _ (by decide +kernel)) (gl_of ok h.2.2.2.1) (ok.blt _ (by decide +kernel)) h.2.2.2.2.1 h.2.2.2.2.2 (x.2 X Γ ok) (y.2 X Γ ok)⟩
    else (cDef rec ct nm p _ [] pos).orElse fun _ => cBi rec ct nm p _ [] pos
  | [a, .Name ty p2], [], pos =>
    if nm = "isinstance" then
      (cIsi rec ct nm p a ty p2 pos "int" (by decide) (by decide +kernel)).orElse fun _ => (cIsi rec ct nm p a ty p2 pos "bool" (by decide) (by decide +kernel)).orElse fun _ => (cIsi rec ct nm p a ty p2 pos "str" (by decide) (by decide +kernel)).orElse fun _ =>
      (cIsi rec ct nm p a ty p2 pos "tuple" (by decide) (by decide +kernel)).orElse fun _ => (cIsi rec ct nm p a ty p2 pos "list" (by decide) (by decide +kernel)).orElse fun _ => cIsi rec ct nm p a ty p2 pos "dict" (by decide) (by decide +kernel)
    else (cDef rec ct nm p _ [] pos).orElse fun _ => cBi rec ct nm p _ _ pos
  | e :: es, [], pos => (cDef rec ct nm p _ [] pos).orElse fun _ => cBi rec ct nm p e es pos
  | es, kws, pos => cDef rec ct nm p es kws pos
theorem pv_of {X : Cx} {i : Nat} {nm : Str} {p : Pos} (h : X.N[i]? = some nm ∧ Vis X.env.scope nm ∧ (nm == ("__debug__" : Str)) = false ∧ (nm == ("__classdict__" : Str)) = false) : PE X (.Name nm p) (tVar i) := pe_var h.1 h.2.1 h.2.2.1 h.2.2.2
def cMeth (nm : Str) (p : Pos) (at_ : Str) (ap : Pos) : ∀ (es : List Expr) (pos : Pos), RE ct (.Call (.Attribute (.Name nm p) at_ ap) es [] pos)
  | [], pos => if h : at_ = "pop" ∧ (ap.endLine == pos.line) = true then (cVar ct nm).bind fun i => some ⟨.pop i.1, fun X Γ ok => by rw [h.1]; exact se_pop ok.mo (pv_of (i.2 X Γ ok)) h.2⟩ else none
  | [a], pos => if h : at_ = "pop" ∧ (ap.endLine == pos.line) = true ∧ NotStar a then (cVar ct nm).bind fun i => (rec ct a).bind fun x => some ⟨.popA i.1 x.1, fun X Γ ok => by rw [h.1]; exact se_popA ok.mo (pv_of (i.2 X Γ ok)) h.2.1 h.2.2 (x.2 X Γ ok)⟩ else none
  | _, _ => none
def isMinusOne : ∀ e : Expr, Option { q : Nat × Pos × Pos // e = .UnaryOp .USub (.Constant (.int 1) q.1 q.2.1) q.2.2 }
  | .UnaryOp .USub (.Constant (.int i) k p1) p2 => if h : i = 1 then some ⟨(k, p1, p2), by rw [h]⟩ else none
  | _ => none
def cSub (a : Expr) (pos : Pos) : ∀ i : Expr, RE ct (.Subscript a i pos)
  | .Slice none none (some st) p3 => match isMinusOne st with
    | some q => (rec ct a).bind fun x => some ⟨.rv x.1, fun X Γ ok => by rw [q.2]; exact se_rv ok.mo (x.2 X Γ ok)⟩
    | none => none
  | .Slice lo hi none p2 => (rec ct a).bind fun x => (cO rec ct lo).bind fun l => (cO rec ct hi).bind fun h => some ⟨.sl x.1 l.1 h.1, fun X Γ ok => se_sl ok.mo (x.2 X Γ ok) (l.2 X Γ ok) (h.2 X Γ ok)⟩
  | i => if h : NotSlice i then (rec ct a).bind fun x => (rec ct i).bind fun y => some ⟨.ix x.1 y.1, fun X Γ ok => se_ix ok.mo (x.2 X Γ ok) (y.2 X Γ ok) h⟩ else none
/-- one step -/
def cStep : ∀ e : Expr, RE ct e
  | .Name nm pos => match cVar ct nm with
    | some i => some ⟨.var i.1, fun X Γ ok => se_var ok.mo (i.2 X Γ ok).1 (i.2 X Γ ok).2.1 (i.2 X Γ ok).2.2.1 (i.2 X Γ ok).2.2.2⟩
    | none => cCst ct nm
  | .Constant (.int i) k pos => some ⟨.cst (.int i), fun X Γ ok => se_cst ok.mo pe_int (fun _ _ _ => .int i) (fun _ _ => rfl)⟩
  | .Constant (.bool b) k pos => some ⟨.cst (.bl b), fun X Γ ok => se_cst ok.mo pe_bl (fun _ _ _ => .bl b) (fun _ _ => rfl)⟩
  | .Constant .none k pos => some ⟨.cst .non, fun X Γ ok => se_cst ok.mo pe_non (fun _ _ _ => .non) (fun _ _ => rfl)⟩
  | .Constant (.str s) k pos => some ⟨.cst (.str s), fun X Γ ok => se_cst ok.mo pe_str (fun _ _ _ => .str s) (fun _ _ => rfl)⟩
  | .UnaryOp .USub a pos => (rec ct a).bind fun x => some ⟨.neg x.1, fun X Γ ok => se_neg ok.mo (x.2 X Γ ok)⟩
  | .UnaryOp .Not a pos => (rec ct a).bind fun x => some ⟨.nt x.1, fun X Γ ok => se_not ok.mo (x.2 X Γ ok)⟩
  | .BinOp a op b pos => (rec ct a).bind fun x => (rec ct b).bind fun y => some ⟨.bin op x.1 y.1, fun X Γ ok => se_bin ok.mo (x.2 X Γ ok) (y.2 X Γ ok)⟩
  | .BoolOp .And es pos => cBop rec ct true pos es
  | .BoolOp .Or es pos => cBop rec ct false pos es
  | .Compare a [op] [b] pos => if h : NotSet b then (rec ct a).bind fun x => (rec ct b).bind fun y => some ⟨.cmp op x.1 y.1, fun X Γ ok => se_cmp ok.un ok.mo (x.2 X Γ ok) (y.2 X Γ ok) h⟩ else none
  | .Compare a [o1, o2] [b, c] pos => if h : NotSet c then (rec ct a).bind fun x => (rec ct b).bind fun y => (rec ct c).bind fun z => some ⟨.chn o1 o2 x.1 y.1 z.1, fun X Γ ok => se_chn ok.un ok.mo (x.2 X Γ ok) (y.2 X Γ ok) (z.2 X Γ ok) h⟩ else none
  | .IfExp c a b pos => (rec ct c).bind fun z => (rec ct a).bind fun x => (rec ct b).bind fun y => some ⟨.ife z.1 x.1 y.1, fun X Γ ok => se_ife ok.mo (z.2 X Γ ok) (x.2 X Γ ok) (y.2 X Γ ok)⟩
  | .Tuple es k pos => (cEs rec ct es).bind fun x => some ⟨.tup x.1, fun X Γ ok => se_tup ok.mo (x.2.1 X Γ ok)⟩
  | .List es pos => (cEs rec ct es).bind fun x => some ⟨.lst x.1, fun X Γ ok => se_lst ok.mo (x.2.1 X Γ ok)⟩
  | .Subscript a i pos => cSub rec ct a pos i
  | .Dict ks vs pos => cDict rec ct pos ks vs
  | .Call (.Name nm p) es kws pos => cCall rec ct nm p es kws pos
  | .Call (.Attribute (.Name nm p) at_ ap) es [] pos => cMeth rec ct nm p at_ ap es pos
  | .ListComp elt [⟨tg, iter, ifs, 0⟩] scope pos => (cCP rec ct elt tg iter ifs scope).bind fun c => some ⟨.comp (c.own.map (·.2)) c.t c.it c.cnd c.x, fun X Γ ok => by
      obtain ⟨h1, h2, h3, h4, h5, h6, h7, h8, h9⟩ := c.ok X Γ ok
      exact se_comp ok.mo ok.calm (by rw [ok.N]; exact ok.nd) h1 h2 h3 h4 h5 h6 h7 h8 h9⟩
  | _ => none
end
def cE : Nat → ∀ (ct : Ct) (e : Expr), RE ct e
  | 0 => fun _ _ => none
  | n + 1 => cStep (cE n)
end B

namespace B
open PySem PySem.Spec L2

/-! ## statements -/
abbrev Pas (X : Cx) : Prop := PassesOwn (model X.prog X.w) X.A X.env X.xe
abbrev RS (ct : Ct) (st : Stmt) := Option { x : S // ∀ X Γ, CtOk X Γ ct → Pas X → PS X st (tS X.K (wS Γ x)) }
abbrev RSs (ct : Ct) (st : List Stmt) := Option { x : Ss // ∀ X Γ, CtOk X Γ ct → Pas X → PSs X st (tS X.K (wSs Γ x)) }
def seqS (ct : Ct) (rec : ∀ st, RS ct st) : ∀ sts, RSs ct sts
  | [] => some ⟨.nil, fun X Γ ok _ => s_nil⟩
  | st :: sts => (rec st).bind fun x => (seqS ct rec sts).bind fun y => some ⟨.cons x.1 y.1, fun X Γ ok hp => s_cons (x.2 X Γ ok hp) (y.2 X Γ ok hp)⟩
/-- a local name's slot, by the name -/
def locSlot (ct : Ct) (nm : Str) : Option { i : Nat // ct.N[i]? = some nm ∧ ct.sc.names.lookup nm = some .local } :=
  if h : ct.N[slotOf ct.N nm]? = some nm ∧ ct.sc.names.lookup nm = some .local then some ⟨slotOf ct.N nm, h⟩ else none
theorem swaps_name {elt : Expr} {gs : List Comprehension} {scope : Scope} {pos py : Pos} {y : Str} {l : Nat} {env : Env} (hk : env.scope.kind = .function) (h : ¬ (env.scope.names.lookup y = some .local ∧ (py.line == pos.line) = true ∧ (scope.names.any fun (n, k) => n == y && (k == .local || k == .cell)) = false)) :
    swapsWith (.ListComp elt gs scope pos) (some (.Name y py)) l env = pure false := by
  have hb : env.blockKind = .function := by unfold Env.blockKind; rw [hk]; rfl
  unfold swapsWith
  show (pure _ : Sem Bool) = pure false
  congr 1
  show (env.blockKind == .function && env.scope.names.lookup y == some .local && py.line == pos.line && !_) = false
  rw [hb]
  cases h1 : (env.scope.names.lookup y == some NameKind.local) with
  | false => rfl
  | true => cases h2 : (py.line == pos.line) with
    | false => rfl
    | true => cases h3 : (scope.names.any fun (n, k) => n == y && (k == .local || k == .cell)) with
      | true => rfl
      | false => exact absurd ⟨eq_of_beq h1, h2, h3⟩ h
/-- two or three plain names take as many values -/
def nmOf : Expr → Option (Str × Pos)
  | .Name nm p => some (nm, p)
  | _ => none
def slots (ct : Ct) : ∀ es : List Expr, Option { is : List Nat // ∀ X Γ, CtOk X Γ ct → PGs X es (is.foldr (fun i u => gCons (gName i) u) gNil) ∧ (assignEach es X.env).length = es.length ∧ (assignEach es X.env).findIdx? (·.1) = none ∧ is.length = es.length }
  | [] => some ⟨[], fun X Γ ok => ⟨pgs_nil, rfl, rfl, rfl⟩⟩
  | .Name nm pos :: es => match cG ct (.Name nm pos), slots ct es with
    | some ⟨.nm i, _, h⟩, some r => some ⟨i :: r.1, fun X Γ ok => by
        obtain ⟨p, hl, hf, hn⟩ := r.2 X Γ ok
        refine ⟨pgs_cons (h X Γ ok) p (by rw [each_cons (show NotStar (.Name nm pos) from trivial)]; rfl), by rw [each_cons (show NotStar (.Name nm pos) from trivial)]; exact congrArg Nat.succ hl, ?_, congrArg Nat.succ hn⟩
        rw [each_cons (show NotStar (.Name nm pos) from trivial), List.findIdx?_cons, hf]
        rfl⟩
    | _, _ => none
  | _ => none
def starB : Expr → Bool
  | .Starred .. => true
  | _ => false
def locName (ct : Ct) (line : Nat) : Expr → Option Str
  | .Name id pos => if ct.sc.names.lookup id == some .local && pos.line == line then some id else none
  | _ => none
def locNames (ct : Ct) (ts : List Expr) : List Str := ts.filterMap (locName ct ((ts.head?.map (·.pos.line)).getD 0))
/-- are the stores done from the right? -/
def swNames (ct : Ct) (ts vs : List Expr) : Option (List Str) :=
  if !(ts.length == 2 || ts.length == 3) || vs.length != ts.length then none
  else if vs.any starB then none
  else if (locNames ct ts).length != ts.length || (locNames ct ts).eraseDups.length != (locNames ct ts).length then none
  else if vs.all (foldedForSure 8) then none
  else some (locNames ct ts)
theorem stores_of {ct : Ct} {env : Env} (hs : env.scope = ct.sc) (hk : ct.sc.kind = .function) {ts vs : List Expr} {k k2 : Nat} {p p2 : Pos} (hc : swNames ct ts vs = none ∨ vs.all (constantsAlone 8) = false) :
    swappedStores [.Tuple ts k p] (.Tuple vs k2 p2) env = pure (swNames ct ts vs) := by
  have hb : env.blockKind = .function := by unfold Env.blockKind; rw [hs, hk]; rfl
  have hl : ∀ id, (env.kindOf id == some NameKind.local) = (ct.sc.names.lookup id == some .local) := fun id => by show (env.scope.names.lookup id == _) = _; rw [hs]
  have kany : ∀ f : Expr → Bool, (∀ x, f x = starB x) → vs.any f = vs.any starB := fun f h => by rw [funext h]
  have kfil : ∀ f : Expr → Option Str, (∀ x, f x = locName ct ((ts.head?.map (·.pos.line)).getD 0) x) → ts.filterMap f = locNames ct ts := fun f h => by rw [funext h]; rfl
  unfold swappedStores
  simp only [hb, hl]
  rw [kany]
  rw [kfil]
  unfold swNames at hc ⊢
  by_cases h1 : (!(ts.length == 2 || ts.length == 3) || vs.length != ts.length) = true
  · rw [if_pos h1]
    have : (!(ts.length == 2 || ts.length == 3) || vs.length != ts.length || (ScopeKind.function != ScopeKind.function)) = true := by rw [h1]; rfl
    simp only [this, if_true]
  · rw [if_neg h1] at hc ⊢
    have : (!(ts.length == 2 || ts.length == 3) || vs.length != ts.length || (ScopeKind.function != ScopeKind.function)) = false := by
      rw [Bool.not_eq_true] at h1
      rw [h1]; rfl
    simp only [this, Bool.false_eq_true, if_false]
    by_cases h2 : vs.any starB = true
    · rw [if_pos h2, if_pos h2]
    · rw [if_neg h2] at hc
      rw [if_neg h2, if_neg h2]
      by_cases h3 : ((locNames ct ts).length != ts.length || (locNames ct ts).eraseDups.length != (locNames ct ts).length) = true
      · rw [if_pos h3, if_pos h3]
      · rw [if_neg h3] at hc
        rw [if_neg h3, if_neg h3]
        by_cases h4 : vs.all (foldedForSure 8) = true
        · rw [if_pos h4, if_pos h4]
        · rw [if_neg h4] at hc
          rw [if_neg h4, if_neg h4]
          rcases hc with hc | hc
          · cases hc
          · rw [hc]; rfl
  · intro x; cases x <;> rfl
  · intro x; cases x <;> rfl

theorem sole_not {tg a : Expr} (h : NotComp a) {l : Nat} {env : Env} : swapsWithSole [tg] a l env = pure false := swaps_not h (t := some tg) (l := l) (env := env)
theorem sole_tup {tg : Expr} {vs : List Expr} {k : Nat} {p : Pos} {l : Nat} {env : Env} : swapsWithSole [tg] (.Tuple vs k p) l env = pure false := rfl
section
variable (re : ∀ (ct : Ct) (e : Expr), RE ct e) (ct : Ct) (rec : ∀ st : Stmt, RS ct st)
/-- the general way: the tuple is made, then taken apart -/
def cParG (ts vs : List Expr) (kt k2 : Nat) (pt pt2 pos : Pos) : RS ct (.Assign [.Tuple ts kt pt] (.Tuple vs k2 pt2) pos) :=
  if h : swNames ct ts vs = none then
    (slots ct ts).bind fun is => (cCs re ct vs).bind fun x => if hl : x.1.len = is.1.length ∧ is.1.length ≤ sizeLine then
      some ⟨.par is.1 x.1, fun X Γ ok hp => by
        obtain ⟨p, h1, h2, h3⟩ := is.2 X Γ ok
        refine s_parG ok.mo ok.calm (pg_tup ok.calm p (by rw [h1, h3]) h2) (x.2.1 X Γ ok) (fun env Q q => by rw [← hl.1]; exact wCs_len ok.mo x.1 env Q q) hl.2 ?_ sole_tup rfl
        rw [stores_of ok.sc ok.kd (.inl h), h]⟩
    else none
  else none
def cPar : ∀ (ts vs : List Expr) (kt k2 : Nat) (pt pt2 pos : Pos), RS ct (.Assign [.Tuple ts kt pt] (.Tuple vs k2 pt2) pos)
  | [.Name x px, .Name y py], [a, b], kt, k2, pt, pt2, pos =>
    if h : swNames ct [.Name x px, .Name y py] [a, b] = some [x, y] ∧ [a, b].all (constantsAlone 8) = false then
      (locSlot ct x).bind fun i => (locSlot ct y).bind fun j => (cCs re ct [a, b]).bind fun xs => if hij : i.1 ≠ j.1 then
        some ⟨.par [i.1, j.1] xs.1, fun X Γ ok hp => s_par2 ok.mo ok.calm (by rw [ok.N]; exact ok.nd) (by rw [ok.N]; exact i.2.1) (by rw [ok.N]; exact j.2.1) hij (by rw [ok.sc]; exact i.2.2) (by rw [ok.sc]; exact j.2.2) (xs.2.1 X Γ ok)
          (fun env Q q => by have e := wCs_len ok.mo xs.1 env Q q; rw [xs.2.2] at e; exact e) (by rw [stores_of ok.sc ok.kd (.inr h.2), h.1]) sole_tup⟩
      else none
    else cParG re ct _ _ kt k2 pt pt2 pos
  | [.Name x px, .Name y py, .Name z pz], [a, b, c], kt, k2, pt, pt2, pos =>
    if h : swNames ct [.Name x px, .Name y py, .Name z pz] [a, b, c] = some [x, y, z] ∧ [a, b, c].all (constantsAlone 8) = false then
      (locSlot ct x).bind fun i => (locSlot ct y).bind fun j => (locSlot ct z).bind fun l => (cCs re ct [a, b, c]).bind fun xs => if hij : i.1 ≠ j.1 ∧ i.1 ≠ l.1 ∧ j.1 ≠ l.1 then
        some ⟨.par [i.1, j.1, l.1] xs.1, fun X Γ ok hp => s_par3 ok.mo ok.calm (by rw [ok.N]; exact ok.nd) (by rw [ok.N]; exact i.2.1) (by rw [ok.N]; exact j.2.1) (by rw [ok.N]; exact l.2.1) hij.1 hij.2.1 hij.2.2 (by rw [ok.sc]; exact i.2.2) (by rw [ok.sc]; exact j.2.2) (by rw [ok.sc]; exact l.2.2) (xs.2.1 X Γ ok)
          (fun env Q q => by have e := wCs_len ok.mo xs.1 env Q q; rw [xs.2.2] at e; exact e) (by rw [stores_of ok.sc ok.kd (.inr h.2), h.1]) sole_tup⟩
      else none
    else cParG re ct _ _ kt k2 pt pt2 pos
  | ts, vs, kt, k2, pt, pt2, pos => cParG re ct ts vs kt k2 pt pt2 pos
/-- a target takes one value -/
def cAsg (tg a : Expr) (pos : Pos) : RS ct (.Assign [tg] a pos) :=
  if h : NotComp a ∧ NotStar tg ∧ (NotTup tg ∨ NotTup a) then
    (re ct a).bind fun x => (cG ct tg).bind fun t => some ⟨.asg t.1 x.1, fun X Γ ok hp => s_asg ok.mo (x.2 X Γ ok) (t.2.2 X Γ ok) t.2.1 (swaps_not h.1) (stores_not h.2.2) (by rw [each_cons h.2.1]; rfl)⟩
  else none
theorem sub_assign {nm : Str} {p p' : Pos} {ix : Expr} {env : Env} (h : NotSlice ix) (v : Value) : assign (.Subscript (.Name nm p) ix p') env v = (do
      let ov ← holding [v] (eval (.Name nm p) env)
      let iv ← holding [v, ov] (eval ix env)
      standAt p'
      holding [v, ov, iv] (setItem ov iv v)
      release [v, ov, iv] []) := by
  cases ix <;> first | rfl | exact h.elim
def cAssign : ∀ (tg a : Expr) (pos : Pos), RS ct (.Assign [tg] a pos)
  | .Name y py, .ListComp elt [⟨tg, iter, ifs, 0⟩] scope cpos, pos =>
    if h : ct.sc.names.lookup y = some .local ∧ (py.line == cpos.line) = true ∧ (scope.names.any fun (n, k) => n == y && (k == .local || k == .cell)) = false then
      (locSlot ct y).bind fun i => (cCP re ct elt tg iter ifs scope).bind fun c => some ⟨.asg (.nm i.1) (.comp (c.own.map (·.2)) c.t c.it c.cnd c.x), fun X Γ ok hp => by
        obtain ⟨h1, h2, h3, h4, h5, h6, h7, h8, h9⟩ := c.ok X Γ ok
        exact s_setLc ok.mo ok.calm (by rw [ok.N]; exact ok.nd) (by rw [ok.N]; exact i.2.1) (by rw [ok.sc]; exact i.2.2) (sw_true (by rw [ok.sc]; exact ok.kd) (by rw [ok.sc]; exact h.1) h.2.1 h.2.2) h1 h2 h3 h4 h5 h6 h7 h8 h9⟩
    else
      (re ct (.ListComp elt [⟨tg, iter, ifs, 0⟩] scope cpos)).bind fun x => (cG ct (.Name y py)).bind fun t => some ⟨.asg t.1 x.1, fun X Γ ok hp => s_asg ok.mo (x.2 X Γ ok) (t.2.2 X Γ ok) t.2.1 (swaps_name (l := pos.line) (by rw [ok.sc]; exact ok.kd) (by rw [ok.sc]; exact h)) (stores_not (tg := .Name y py) (.inl trivial)) rfl⟩
  | .Tuple ts kt pt, .Tuple vs k2 pt2, pos => cPar re ct ts vs kt k2 pt pt2 pos
  | .Subscript (.Name nm p) ix p', a, pos =>
    if h : NotComp a ∧ NotSlice ix ∧ ct.dn.contains nm = true then
      (cVar ct nm).bind fun i => (re ct ix).bind fun y => (re ct a).bind fun x => some ⟨.setk i.1 y.1 x.1, fun X Γ ok hp => s_setk ok.mo (Nat.lt_of_le_of_lt (by omega) ok.un) (pv_of (i.2 X Γ ok)) (y.2 X Γ ok) (x.2 X Γ ok) (sole_not h.1) (stores_not (tg := .Subscript (.Name nm p) ix p') (.inl trivial)) (sub_assign h.2.1)⟩
    else if h : NotComp a ∧ NotSlice ix then
      (cVar ct nm).bind fun i => (re ct ix).bind fun y => (re ct a).bind fun x => some ⟨.seti i.1 y.1 x.1, fun X Γ ok hp => s_seti ok.mo (pv_of (i.2 X Γ ok)) (y.2 X Γ ok) (x.2 X Γ ok) (sole_not h.1) (stores_not (tg := .Subscript (.Name nm p) ix p') (.inl trivial)) (sub_assign h.2)⟩
    else none
  | tg, a, pos => cAsg re ct tg a pos
/-- an expression as a statement -/
def cExpr : ∀ (e : Expr) (pos : Pos), RS ct (.Expr e pos)
  | .Constant (.str t) j p, pos => some ⟨.pass, fun X Γ ok hp => s_doc⟩
  | .Call (.Attribute (.Name nm p) at_ ap) [a] [] cp, pos =>
    if h : at_ = "append" ∧ (ap.endLine == cp.line) = true ∧ NotStar a then
      (cVar ct nm).bind fun i => (re ct a).bind fun x => some ⟨.app i.1 x.1, fun X Γ ok hp => by rw [h.1]; exact s_app ok.mo (pv_of (i.2 X Γ ok)) h.2.1 h.2.2 (x.2 X Γ ok)⟩
    else if h : at_ = "extend" ∧ (ap.endLine == cp.line) = true ∧ NotStar a then
      (cVar ct nm).bind fun i => (re ct a).bind fun x => some ⟨.ext i.1 x.1, fun X Γ ok hp => by rw [h.1]; exact s_ext ok.mo (pv_of (i.2 X Γ ok)) h.2.1 h.2.2 (x.2 X Γ ok)⟩
    else (re ct (.Call (.Attribute (.Name nm p) at_ ap) [a] [] cp)).bind fun x => some ⟨.expr x.1, fun X Γ ok hp => s_expr ok.mo (x.2 X Γ ok) swaps_call⟩
  | .Call (.Attribute (.Name nm p) at_ ap) [a, b] [] cp, pos =>
    if h : at_ = "insert" ∧ (ap.endLine == cp.line) = true ∧ NotStar a ∧ NotStar b then
      (cVar ct nm).bind fun i => (re ct a).bind fun x => (re ct b).bind fun y => some ⟨.ins i.1 x.1 y.1, fun X Γ ok hp => by rw [h.1]; exact s_ins ok.mo (pv_of (i.2 X Γ ok)) h.2.1 h.2.2.1 h.2.2.2 (x.2 X Γ ok) (y.2 X Γ ok)⟩
    else none
  | e, pos => if h : NotComp e then (re ct e).bind fun x => some ⟨.expr x.1, fun X Γ ok hp => s_expr ok.mo (x.2 X Γ ok) (swaps_not h)⟩ else none
def cRet : ∀ (e : Expr) (pos : Pos), RS ct (.Return (some e) pos)
  | .Name nm p, pos => match cVar ct nm with
    | some i => some ⟨.ret (.var i.1), fun X Γ ok hp => s_retV (pv_of (i.2 X Γ ok))⟩
    | none => (re ct (.Name nm p)).bind fun x => if h : NotVar x.1 then some ⟨.ret x.1, fun X Γ ok hp => s_ret ok.mo h (x.2 X Γ ok)⟩ else none
  | e, pos => (re ct e).bind fun x => if h : NotVar x.1 then some ⟨.ret x.1, fun X Γ ok hp => s_ret ok.mo h (x.2 X Γ ok)⟩ else none
def sStep : ∀ st : Stmt, RS ct st
  | .Assign [tg] a pos => cAssign re ct tg a pos
  | .Expr e pos => cExpr re ct e pos
  | .Return none pos => some ⟨.ret (.cst .non), fun X Γ ok hp => s_retN⟩
  | .Return (some e) pos => cRet re ct e pos
  | .If c a b pos => (re ct c).bind fun x => (seqS ct rec a).bind fun y => (seqS ct rec b).bind fun z => some ⟨.iff x.1 y.1 z.1, fun X Γ ok hp => s_iff ok.mo (x.2 X Γ ok) (y.2 X Γ ok hp) (z.2 X Γ ok hp)⟩
  | .For tg iter body [] pos => if h : NotSet iter then
      (cI re ct tg iter).bind fun it => (cG ct tg).bind fun t => (seqS ct rec body).bind fun b => some ⟨.forr t.1 it.1 b.1, fun X Γ ok hp => s_for ok.mo hp ok.calm (it.2 X Γ ok) (t.2.2 X Γ ok) t.2.1 (b.2 X Γ ok hp) (folded_not h)⟩
    else none
  | .While c body [] pos => (re ct c).bind fun x => (seqS ct rec body).bind fun b => some ⟨.whl x.1 b.1, fun X Γ ok hp => s_whl ok.mo hp (x.2 X Γ ok) (b.2 X Γ ok hp)⟩
  | .Pass pos => some ⟨.pass, fun X Γ ok hp => s_pass⟩
  | .Break pos => some ⟨.brk, fun X Γ ok hp => s_brk⟩
  | .Continue pos => some ⟨.cont, fun X Γ ok hp => s_cont⟩
  | .Raise _ _ _ => some ⟨.never, fun X Γ ok hp => s_never⟩
  | _ => none
end
def cS : Nat → ∀ (ct : Ct) (st : Stmt), RS ct st
  | 0 => fun _ _ => none
  | n + 1 => fun ct st => sStep (cE n) ct (cS n ct) st
def cBody (n : Nat) (ct : Ct) (sts : List Stmt) : RSs ct sts := seqS ct (cS n ct) sts
theorem body_ok {n : Nat} {ct : Ct} {sts : List Stmt} {x : Ss} (h : (cBody n ct sts).map (·.1) = some x) {X : Cx} {Γ : Gam} (ok : CtOk X Γ ct) (hp : Pas X) : PSs X sts (tS X.K (wSs Γ x)) := by
  cases e : cBody n ct sts with
  | none => rw [e] at h; cases h
  | some y => rw [e] at h; cases h; exact y.2 X Γ ok hp
end B

namespace B
open PySem PySem.Spec L2

/-! ## a def by its body -/
def startE (N : List Str) (ds : List D) : En := ds.map (fun d => some (C.sh d)) ++ List.replicate (N.length - ds.length) none
theorem start_rel {G : Gd} {H Hv : Hp} {F : Addr → Prop} {N : List Str} {vs : List V} {ds : List D} (h : HS G H Hv F) (r : RepL G.K G.ad Hv vs ds) : Rel G (startE N ds) (L2.start N vs) H Hv F := by
  have hl := r.length
  have key : ∀ {i : Nat} {c : C}, (startE N ds)[i]? = some (some c) → ∃ d, ds[i]? = some d ∧ c = .sh d := by
    intro i c e
    unfold startE at e
    by_cases hi : i < ds.length
    · rw [List.getElem?_append_left (by rw [List.length_map]; exact hi), List.getElem?_map] at e
      cases ed : ds[i]? with
      | none => rw [ed] at e; cases e
      | some d => rw [ed] at e; cases e; exact ⟨d, rfl, rfl⟩
    · rw [List.getElem?_append_right (by rw [List.length_map]; omega), List.getElem?_replicate] at e
      split at e <;> cases e
  refine ⟨h, ?_, fun i c e => ?_, fun i j d e v _ ei _ _ _ => ?_⟩
  · unfold startE L2.start
    rw [List.length_append, List.length_append, List.length_map, List.length_map, List.length_replicate, List.length_replicate, hl]
  · obtain ⟨d, h1, rfl⟩ := key e
    obtain ⟨v, h2, h3⟩ := r.get h1
    refine ⟨v, ?_, h3⟩
    unfold L2.start
    have : i < vs.length := (List.getElem?_eq_some_iff.mp h2).1
    rw [List.getElem?_append_left (by rw [List.length_map]; exact this), List.getElem?_map, h2]
    rfl
  · obtain ⟨d', _, z⟩ := key ei
    cases z
/-- the way out of a def -/
theorem link_end {G : Gd} {H Hv : Hp} {F : Addr → Prop} {Q : VK} {Z : C → Prop} (h : ∀ c, Z c → ∀ v H' Hv' F', HS (G.at_ H Hv F) H' Hv' F' → RC (G.at_ H Hv F) H' Hv' F' v c → Q v H') :
    Link (G.at_ H Hv F) Hv { nx := fun _ => Z (.sh .non), rt := Z } { nx := fun _ H' => Q .non H', rt := Q } :=
  ⟨fun env' σ' H' Hv' F' z R s => h _ z .non H' Hv' F' R.hs .non, fun c env' σ' v H' Hv' F' z R r s => h c z v H' Hv' F' R.hs r.1, fun env' σ' H' Hv' F' z R s => z, fun env' σ' H' Hv' F' z R s => z⟩
section
variable {P : Program} {w : World} {K : PySem.W.Frag} {mg : Str → Option Value} {base : Heap} {x qual : Str} {params : Arguments} {body : List Stmt} {scope : Scope} {f : Addr} {fd : FuncData} {N ps : List Str} {k : Nat}
/-- the same rule as the library's, where nobody guards -/
theorem fnG_of {sp : Sp} (F : FunD K x qual params body scope [] [] f fd) (S : FnScope N ps scope) (len : ∀ vs H Q E, sp vs H Q E → vs.length = ps.length)
    (hbody : ∀ (cdv : Value) (A : Around) (outer : List Env) (s : Shared) (H : Hp) (vs : List V) (Q : VK) (E : XK), Room k (A.deeper (PyProof.Rows.envOfC qual scope s.heap.objs.size f cdv)) → (A.deeper (PyProof.Rows.envOfC qual scope s.heap.objs.size f cdv)).guards = some [] → sp vs H Q E →
      ∃ t, PSs (cxOf CX0 P w K mg base N qual scope f cdv A outer s H E) body t ∧ t { nx := fun _ H' => Q .non H', rt := Q } (L2.start N vs) H) : FnG P w K mg base (k + 1) f fd ps sp := by
  obtain ⟨oc, od, dV, kV, doc, pm, an, cdv, ct, osl, rfl, lk, hcd, _, _⟩ := F.ex
  refine ⟨len, fun A outer s H args us vs Q E hr hg e0 hb r hsp => ?_⟩
  have hl : vs.length = ps.length := len _ _ _ _ hsp
  have keepS : ∀ b o, base.get? b = some o → s.heap.get? b = some o := fun b o e => (e0.bs b o e).1
  have KX := e0.mod.kin.keeps keepS
  have lim := e0.mod.nolimit.keeps keepS
  refine codeAny_call_function hr.depth (KX _ _ lk) rfl S.co S.gen rfl (PySem.W.codeRec_of KX hcd) (hb _ _ _ _ ?_)
  refine wpAny_newFunctionEnv_cells S.kind (fun y hy => ?_) fun env he s1 ic => ?_
  · rcases S.par y.1 (List.of_mem_zip (a := y.1) (b := y.2) hy).1 with q | q
    · exact Or.inl q
    · exact Or.inr ⟨q, PySem.W.cellsFrom_some _ _ _ (Or.inl q)⟩
  · subst he
    obtain ⟨t, ht, hq⟩ := hbody cdv A outer s H vs Q E (hr.deeper _) hg hsp
    refine ⟨lim.keeps ic.toInCall.keep, codeAny_func (wpAny_mono (ht.run [] s1 (L2.start N vs) H _ (inv_start S hr.hd e0 hl r ic) hq) (fun fl s' hs => ?_) fun e s' hs => hs)⟩
    match fl, hs with
    | .ret u, ⟨v, σ', H', J, rv, q⟩ => exact ⟨v, H', J.os, J.bare, J.base, J.hok, rv, q⟩
    | .next, ⟨σ', H', J, q⟩ => exact ⟨V.non, H', J.os, J.bare, J.base, J.hok, rfl, q⟩
    | .brk, ⟨_, _, _, q⟩ => exact q.elim
    | .cont, ⟨_, _, _, q⟩ => exact q.elim
/-- what a module tells of its names, at a room -/
structure Tells (P : Program) (w : World) (K : PySem.W.Frag) (mg : Str → Option Value) (base : Heap) (k : Nat) (Γ : Gam) (ct : Ct) : Prop where
  mo : GamOk Γ
  blt : ∀ nm ∈ blts, mg nm = none
  gc : ct.gcd = true → mg "gcd" = some (.builtin "math.gcd")
  dg : ct.dig = true → digB K = true
  fs : ∀ p ∈ ct.fs, ∀ A : Around, Room k A → Fact P w K mg base A p.1.1 p.1.2.1 p.1.2.2 (Γ p.2)
  cs : ∀ p ∈ ct.cs, ∃ v u, mg p.1 = some u ∧ RelV v u ∧ (p.1 == ("__debug__" : Str)) = false ∧ ∀ K ad H, Rep K ad H v p.2
theorem Tells.ok {Γ : Gam} {ct : Ct} (T : Tells P w K mg base k Γ ct) (S : FnScope N ps scope) (hsc : ct.sc = scope) (hN : ct.N = N) {cdv : Value} {A : Around} {outer : List Env} {s : Shared} {H : Hp} {E : XK}
    (hr : Room k (A.deeper (PyProof.Rows.envOfC qual scope s.heap.objs.size f cdv))) (hg : (A.deeper (PyProof.Rows.envOfC qual scope s.heap.objs.size f cdv)).guards = some []) : CtOk (cxOf CX0 P w K mg base N qual scope f cdv A outer s H E).nox Γ ct where
  mo := T.mo
  sc := hsc.symm
  kd := by rw [hsc]; exact S.kind
  N := hN.symm
  nd := by rw [hN]; exact S.nd
  fn := fun _ _ => rfl
  calm := rfl
  gd := hg
  un := by
    have := hr.un
    show (A.deeper (PyProof.Rows.envOfC qual scope s.heap.objs.size f cdv)).units + 64 < cLine
    omega
  blt := T.blt
  gc := T.gc
  dg := T.dg
  fs := fun p hp => T.fs p hp _ hr
  cs := T.cs
/-- a def of the text, read -/
theorem FnG.of_body {Γ : Gam} {ct : Ct} {n : Nat} {b : Ss} {Sp : Spec} (F : FunD K x qual params body scope [] [] f fd) (S : FnScope N ps scope) (T : Tells P w K mg base k Γ ct) (hsc : ct.sc = scope) (hN : ct.N = N) (hc : (cBody n ct body).map (·.1) = some b)
    (hs : ∀ ds Q, Sp ds Q → ds.length = ps.length ∧ wSs Γ b { nx := fun _ => Q (.sh .non), rt := Q } (startE N ds)) : FnG P w K mg base (k + 1) f fd ps (spD K ps.length Sp) := by
  refine fnG_of F S (fun vs H Q E h => ?_) fun cdv A outer s H vs Q E hr hg h => ⟨tS K (wSs Γ b), PSs.nox (body_ok hc (T.ok S hsc hN hr hg) PassesOwn.never), ?_⟩
  · obtain ⟨G, Hv, F, ds, _, _, r, hl, _⟩ := h
    rw [r.length, hl]
  · obtain ⟨G, Hv, F, ds, hK, hS, r, hl, q⟩ := h
    exact ⟨G.at_ H Hv F, startE N ds, Hv, F, { nx := fun _ => _, rt := _ }, hK, start_rel hS.at_self r, (hs ds _ q).2, link_end fun c z => z⟩
end
end B

namespace B
open PySem PySem.Spec L2

/-! ## the law's own def, and its end -/
/-- from the script, a list of whole numbers: True -/
def spLaw (K : PySem.W.Frag) : Sp := fun vs H Q _ => ∃ (a : Addr) (ns : List Int), vs = [.ref a] ∧ SqL K H a (ns.map V.int) ∧ ns.length ≤ 63 ∧ ∀ H', Q (.bl true) H'
/-- the deck is made of the script, at an address of its own -/
def spDeck (K : PySem.W.Frag) : Sp := fun vs H Q _ => ∃ (a : Addr) (ns : List Int), vs = [.ref a] ∧ SqL K H a (ns.map V.int) ∧ ns.length ≤ 63 ∧ ∀ (p : Addr) (H' : Hp), (∃ F, Dk (fun _ => p) H' F) → Q (.ref p) H'
section
variable {P : Program} {w : World} {K : PySem.W.Frag} {mg : Str → Option Value} {base : Heap} {x qual : Str} {params : Arguments} {body : List Stmt} {scope : Scope} {f : Addr} {fd : FuncData} {N ps : List Str} {k : Nat}
def lawE (N : List Str) (j : Nat) : En := (List.replicate N.length none).set j (some (.sh (.hd 0)))
/-- deck = ..(script), then the rest -/
theorem FnG.of_law {Γ : Gam} {ct : Ct} {n j : Nat} {b : Ss} {st0 : Stmt} {rest : List Stmt} {x0 : Str} (F : FunD K x qual params body scope [] [] f fd) (S : FnScope N [x0] scope) (T : Tells P w K mg base k Γ ct) (hsc : ct.sc = scope) (hN : ct.N = N) (hb : body = st0 :: rest) (hc : (cBody n ct rest).map (·.1) = some b) (hj : 0 < j ∧ j < N.length)
    (h0 : ∀ X : Cx, X.prog = P → X.w = w → X.K = K → X.mg = mg → X.base = base → X.N = N → X.env.scope = scope → Room k X.A → (∀ y, X.fn y = true) → PS X st0 (tAsg (tCall (spDeck K) [] (fun _ _ _ => False) (tCons (tVar 0) tNil)) (gName j)))
    (hs : wSs Γ b { nx := fun _ => False, rt := fun c => c.d = .bl true } (lawE N j)) : FnG P w K mg base (k + 1) f fd [x0] (spLaw K) := by
  refine fnG_of F S (fun vs H Q E h => ?_) fun cdv A outer s H vs Q E hr hg h => ⟨tSeq (tAsg (tCall (spDeck K) [] (fun _ _ _ => False) (tCons (tVar 0) tNil)) (gName j)) (tS K (wSs Γ b)), PSs.nox ?_, ?_⟩
  · obtain ⟨a, ns, rfl, _⟩ := h
    rfl
  · rw [hb]
    exact pss_cons (h0 _ rfl rfl rfl rfl rfl rfl rfl hr (fun _ => rfl)) (body_ok hc (T.ok S hsc hN hr hg) PassesOwn.never)
  · obtain ⟨a, ns, rfl, hS, hn, q⟩ := h
    have hN1 : 0 < N.length := by
      have := congrArg List.length S.pre
      rw [List.length_take] at this
      have e : ([x0] : List Str).length = 1 := rfl
      rw [e] at this
      omega
    refine ⟨.ref a, by unfold L2.start; rfl, a, ns, rfl, hS, hn, fun p H' ⟨F', hD⟩ => ?_⟩
    let G : Gd := { K := K, ad := fun _ => p, V0 := fun _ => none, T := fun _ => none }
    have hsG : HS G H' (fun _ => none) F' := ⟨fun b o e => (nomatch e), fun b o e => (nomatch e), fun b o e => (nomatch e), hD, fun b hb => ⟨rfl, Dk_some hD b hb⟩⟩
    have hlen : ((L2.start N [V.ref a]).set j (some (.ref p))).length = N.length := by
      unfold L2.start
      rw [List.length_set, List.length_append, List.length_replicate, List.length_map]
      have e : ([V.ref a] : List V).length = 1 := rfl
      rw [e]
      omega
    refine ⟨G, lawE N j, fun _ => none, F', _, rfl, ⟨hsG, ?_, fun i c e => ?_, fun i i' d e v hne ei ej _ _ => ?_⟩, hs, ⟨fun _ _ _ _ _ z _ _ => (show False from z).elim, fun c env' σ' v H2 Hv2 F2 z R r _ => ?_, fun _ _ _ _ _ z _ _ => (show False from z).elim, fun _ _ _ _ _ z _ _ => (show False from z).elim⟩⟩
    · rw [hlen]
      unfold lawE
      rw [List.length_set, List.length_replicate]
    · have hi : i = j ∧ c = .sh (.hd 0) := by
        unfold lawE at e
        by_cases hij : j = i
        · subst hij
          rw [List.getElem?_set_self (by rw [List.length_replicate]; exact hj.2)] at e
          cases e
          exact ⟨rfl, rfl⟩
        · rw [List.getElem?_set_ne hij, List.getElem?_replicate] at e
          split at e <;> cases e
      obtain ⟨rfl, rfl⟩ := hi
      refine ⟨.ref p, List.getElem?_set_self ?_, .hd 0⟩
      rw [List.length_set] at hlen
      rw [hlen]
      exact hj.2
    · unfold lawE at ei
      by_cases hij : j = i
      · subst hij
        rw [List.getElem?_set_self (by rw [List.length_replicate]; exact hj.2)] at ei
        cases ei
      · rw [List.getElem?_set_ne hij, List.getElem?_replicate] at ei
        split at ei <;> cases ei
    · have p := r.pk R
      rw [show c.d = .bl true from z] at p
      rw [p.bl]
      exact q H2
end
open PyProof.Rows in
/-- what the caller of the law sees -/
def LawEnd (s₁ : Shared) (r : Result) (s' : Shared) : Prop := r = .ok (.ret (.bool true)) ∧ OldK s₁.heap s'.heap ∧ s'.os = s₁.os ∧ AllBare s'.gens
open PyProof.Rows in
theorem law_end {P : Program} {w : World} {K : PySem.W.Frag} {mg mb : Str → Option Value} {k : Nat} {fa a : Addr} {fd : FuncData} {x : Str} {s₁ : Shared} {vs : List Value} {ns : List Int} (kin : K.In s₁.heap) (gl : s₁.heap.Ns mainGlobals mg) (bn : s₁.heap.Ns builtinsNs mb)
    (bb : ∀ x : Str, x ≠ "__name__" → mb x = bootBuiltins x) (nl : s₁.heap.NoLimit) (ng : s₁.gens = #[]) (sc : s₁.heap.get? a = some { cls := .type "list", data := .seq vs.toArray }) (hi : IntsAre vs ns) (len : ns.length ≤ 63) (room : Room k callerA)
    (F : ∀ base : Heap, K.In base → base.Ns mainGlobals mg → FnG P w K mg base k fa fd [x] (spLaw K)) (bd : ∀ (s : Shared) (u : Value), BindsTo s fd ⟨[u], []⟩ [(x, u)]) : codeAny (model P w) callerA (.call (.ref fa) ⟨[.ref a], []⟩) (LawEnd s₁) s₁ := by
  have z63 : (63 : Nat) ≤ sizeLine := by decide
  have rv := vals_ints hi
  have vl := hi.length
  -- what is tracked: the script, where it is no object of the module's
  obtain ⟨H, hS, hok, only, free⟩ : ∃ H : Hp, SqL K H a (ns.map V.int) ∧ HOk P w H s₁.heap ∧ (∀ b u, H b = some u → b = a ∧ ∃ o xs, u = .frz o (.lst xs)) ∧ (∀ u, H a = some u → K.lookup a = none) := by
    cases hk : K.lookup a with
    | some o =>
      obtain rfl := Option.some.inj ((kin a o hk).symm.trans sc)
      exact ⟨fun _ => none, .inr ⟨_, vs.toArray, _, hk, rfl, rfl, rfl, by rw [List.size_toArray, vl]; omega, by simpa using rv⟩, fun _ _ z => (nomatch z), fun _ _ z => (nomatch z), fun _ z => (nomatch z)⟩
    | none =>
      have at_a : ∀ {b : Addr} {u : HO}, (fun b => if b = a then some (HO.frz { cls := .type "list", data := .seq vs.toArray } (.lst (ns.map V.int))) else none) b = some u → b = a ∧ u = HO.frz { cls := .type "list", data := .seq vs.toArray } (.lst (ns.map V.int)) := by
        intro b u z
        by_cases hb : b = a
        · exact ⟨hb, (Option.some.inj ((if_pos hb).symm.trans z)).symm⟩
        · exact nomatch (if_neg hb).symm.trans z
      refine ⟨fun b => if b = a then some (.frz { cls := .type "list", data := .seq vs.toArray } (.lst (ns.map V.int))) else none, .inl (.inr ⟨_, if_pos rfl⟩), fun b u z => ?_, fun b u z => ⟨(at_a z).1, _, _, (at_a z).2⟩, fun _ _ => rfl⟩
      obtain ⟨rfl, rfl⟩ := at_a z
      exact ⟨sc, by rw [List.length_map]; omega, vs, _, rv, sc⟩
  have away : ∀ {b : Addr} {o : Obj}, s₁.heap.get? b = some o → (b = a → K.lookup a ≠ none ∨ o.data ≠ .seq vs.toArray 0) → H b = none := by
    intro b o e hb
    cases hH : H b with
    | none => rfl
    | some u =>
      obtain ⟨rfl, _⟩ := only b u hH
      rcases hb rfl with h | h
      · exact absurd (free u hH) h
      · rw [sc] at e
        cases e
        exact absurd rfl h
  have kb : K.In (hidT s₁.heap H) := fun b o e => hidT_get (kin b o e) (away (kin b o e) fun z => .inl (by rw [← z, e]; exact fun q => nomatch q))
  have ns_ : ∀ {b : Addr} {m : Str → Option Value}, s₁.heap.Ns b m → (hidT s₁.heap H).Ns b m := by
    rintro b m ⟨o, es, ep, e, d, r⟩
    exact ⟨o, es, ep, hidT_get e (away e fun _ => .inr (by rw [d]; exact fun q => nomatch q)), d, r⟩
  have md : Mod K mg (hidT s₁.heap H) := ⟨kb, ns_ gl, ⟨mb, ns_ bn, bb⟩, by obtain ⟨mc, h1, h2⟩ := nl; exact ⟨mc, ns_ h1, h2⟩⟩
  have en : Env0 P w K mg (hidT s₁.heap H) callerA [] s₁ H := ⟨rfl, md, fun b o e => of_hidT e, Nat.le_of_eq (hidT_size _ _), trivial, fun b hb => (nomatch hb), hok, .of_eq ng⟩
  refine codeAny_mono ((F _ kb (ns_ gl)).run callerA [] s₁ H ⟨[.ref a], []⟩ [.ref a] [.ref a] (fun v _ => v = .bl true) (fun _ _ _ => False) room rfl en (bd s₁ (.ref a)) (.cons rfl .nil) ⟨a, ns, rfl, hS, len, fun _ => rfl⟩) fun r s' h => ?_
  match r, h with
  | .ok (.ret u), ⟨v, H', os, bare, un, hok', r', q⟩ =>
    obtain rfl : v = .bl true := q
    obtain rfl : u = Value.bool true := r'
    refine ⟨rfl, OldK.of_keep fun b o e => ?_, os, bare⟩
    cases hb : H b with
    | none => exact un.keep b o e hb (fun z => nomatch z) (fun z => nomatch z)
    | some t =>
      obtain ⟨_, ob, xs, rfl⟩ := only b t hb
      have z2 := un.frzs b ob _ hb
      obtain ⟨e1, _⟩ := hok b _ hb
      obtain ⟨e2, _⟩ := hok' b _ z2
      rw [e] at e1
      cases e1
      exact e2
open PyProof.Rows in
/-- the case that the head leaves -/
theorem walk_end {l : PySem.W.OpenLaw} {k : Nat} {q : Program} {loose : List Str} {XP : (Str → Option Value) → Heap → Prop} {YP : World → Heap → Prop} {d : DefRec} {x : Str} (hn : l.most = some 63) (hdf : d.params.defaults = []) (hr : Room k callerA)
    (F : ∀ (w : World) (mg : Str → Option Value) (fa : Addr) (h : Heap), YP w h → h.Ns mainGlobals mg → mg d.name = some (.ref fa) →
      ∃ (K : PySem.W.Frag) (fd : FuncData), K.In h ∧ (∀ (s : Shared) (u : Value), BindsTo s fd ⟨[u], []⟩ [(x, u)]) ∧ ∀ base : Heap, K.In base → base.Ns mainGlobals mg → FnG l.prog w K mg base k fa fd [x] (spLaw K)) :
    PySem.W.WalkO q loose XP YP l.row.toRowW d [] (fun f vs => PySem.call f vs) := by
  refine Att.attach_callB hn hdf fun w s₀ s₁ mg mb fa o pm cd doc a vs ns G Y ho hd hcd hmg hobj hints hlen _ hg => ?_
  obtain ⟨K, fd, kin, hb, hF⟩ := F w mg fa _ Y G.T.g hmg
  exact law_end kin G.T.g G.T.b G.T.builtins G.T.nolimit hg hobj hints hlen hr hF hb
end B

namespace B
open PySem PySem.Spec L2

/-! ## names that are called -/
section
variable {P : Program} {w : World} {K : PySem.W.Frag} {mg : Str → Option Value} {base : Heap} {x qual : Str} {params : Arguments} {body : List Stmt} {scope : Scope} {f : Addr} {fd : FuncData} {N ps : List Str} {k j : Nat} {sp : Sp}
theorem FnG.up (F : FnG P w K mg base j f fd ps sp) (h : j ≤ k) : FnG P w K mg base k f fd ps sp := ⟨F.len, fun A outer s H args us vs Q E hr => F.run A outer s H args us vs Q E (hr.mono h)⟩
theorem bind_of (F : FunD K x qual params body scope [] [] f fd) {np : Nat} {ks : List Str} {p : List Nat}
    (h : ∀ (kV doc pm : Value) (an : Option Addr) (cdv ct : Value) (us ws : List Value), us.length = np → ws.length = ks.length → bindArgs (PySem.W.fnOf x qual params body scope .none kV doc pm an cdv ct) ⟨us, ks.zip ws⟩ = pure (ps.zip (perm p (us ++ ws)))) (s : Shared) (us ws : List Value) (hu : us.length = np) (hw : ws.length = ks.length) : BindsTo s fd ⟨us, ks.zip ws⟩ (ps.zip (perm p (us ++ ws))) := by
  obtain ⟨oc, od, dV, kV, doc, pm, an, cdv, ct, osl, rfl, lk, hcd, hD, hK⟩ := F.ex
  rcases hD with ⟨_, rfl⟩ | ⟨e, _⟩
  · exact .of_eq (h kV doc pm an cdv ct us ws hu hw)
  · exact absurd rfl e
/-- a call of the def by the values in the order p -/
theorem Fact.of {S S' : Spec} {n : Nat} (F : FnG P w K mg base j f fd ps (spD K n S)) (FD : FunD K x qual params body scope [] [] f fd) (hm : mg x = some (.ref f)) (hdb : (x == ("__debug__" : Str)) = false) {np : Nat} {ks : List Str} {p : List Nat}
    (h : ∀ (kV doc pm : Value) (an : Option Addr) (cdv ct : Value) (us ws : List Value), us.length = np → ws.length = ks.length → bindArgs (PySem.W.fnOf x qual params body scope .none kV doc pm an cdv ct) ⟨us, ks.zip ws⟩ = pure (ps.zip (perm p (us ++ ws))))
    (hj : j ≤ k) (hp : ∀ (ds : List D) (Q : C → Prop), S' ds Q → (perm p ds).length = n ∧ S (perm p ds) Q) (A : Around) (hr : Room k A) : Fact P w K mg base A x np ks S' :=
  ⟨⟨j, f, fd, ps, n, p, S, F, hr.mono hj, hm, FD.kp, fun s us ws _ => bind_of FD h s us ws, hp⟩, hdb⟩
end

/-! ## a module that has gcd from math -/
def gcdB (K : PySem.W.Frag) : Bool := match PySem.W.nsIn K mainGlobals "gcd" with
  | some (some (.builtin id)) => decide (id = "math.gcd")
  | _ => false
def obsQ (fa : List He.Fa) (fn : List He.DefD) (K : PySem.W.Frag) : He.AlD := ((He.obsD fa fn K).1 && gcdB K, (He.obsD fa fn K).2)
def SaysQ (fa : List He.Fa) (fn : List He.DefD) (K : PySem.W.Frag) : Prop := obsQ fa fn K = He.valD fn
def obsQG (n : Nat) (fa : List He.Fa) (fn : List He.DefD) (g : Addr → Option Obj) : He.AlD := obsQ fa fn (He.frG g (He.asD g n))
def hookQ (n : Nat) (fa : List He.Fa) (fn : List He.DefD) : PySem.W.Hook where
  α := He.AlD
  obs := fun t => obsQG n fa fn t.heap.get?
  val := fun _ => He.valD fn
  says := fun _ m => ∃ K : PySem.W.Frag, K.In m ∧ SaysQ fa fn K
  of := fun _ _ z => ⟨_, He.frG_in, z⟩
  keeps := fun _ _ _ ⟨K, i, z⟩ k => ⟨K, PySem.W.Frag.In.keeps i k, z⟩
theorem obsQG_eq {n : Nat} {fa : List He.Fa} {fn : List He.DefD} {g : Addr → Option Obj} {t : Shared} (h : ∀ a, g a = t.heap.get? a) : obsQG n fa fn g = (hookQ n fa fn).obs t := by
  obtain rfl : g = t.heap.get? := funext h
  rfl
theorem SaysQ.d {fa : List He.Fa} {fn : List He.DefD} {K : PySem.W.Frag} (c : SaysQ fa fn K) : He.SaysD fa fn K := by
  have h1 : ((He.obsD fa fn K).1 && gcdB K) = true := congrArg (fun z : He.AlD => z.1) (show obsQ fa fn K = He.valD fn from c)
  have h2 : (obsQ fa fn K).2 = (He.valD fn).2 := congrArg (fun z : He.AlD => z.2) c
  exact (Prod.ext (He.ba h1).1 h2 : He.obsD fa fn K = He.valD fn)
theorem SaysQ.gcd {fa : List He.Fa} {fn : List He.DefD} {K : PySem.W.Frag} {h : Heap} {mg : Str → Option Value} (c : SaysQ fa fn K) (X : K.In h) (G : h.Ns mainGlobals mg) : mg "gcd" = some (.builtin "math.gcd") := by
  have h1 : ((He.obsD fa fn K).1 && gcdB K) = true := congrArg (fun z : He.AlD => z.1) (show obsQ fa fn K = He.valD fn from c)
  have h2 := (He.ba h1).2
  unfold gcdB at h2
  split at h2
  · rename_i id e
    rw [of_decide_eq_true h2] at e
    exact PySem.W.mg_of X G e
  · cases h2

/-! ## a module of which one thing more is seen: the statics stand in the part that is looked at -/
def obsX (chk : PySem.W.Frag → Bool) (fa : List He.Fa) (fn : List He.DefD) (K : PySem.W.Frag) : He.AlD := ((He.obsD fa fn K).1 && chk K, (He.obsD fa fn K).2)
def SaysX (chk : PySem.W.Frag → Bool) (fa : List He.Fa) (fn : List He.DefD) (K : PySem.W.Frag) : Prop := obsX chk fa fn K = He.valD fn
def obsXG (chk : PySem.W.Frag → Bool) (n : Nat) (fa : List He.Fa) (fn : List He.DefD) (g : Addr → Option Obj) : He.AlD := obsX chk fa fn (He.frG g (cStatics :: He.asD g n))
def hookX (chk : PySem.W.Frag → Bool) (n : Nat) (fa : List He.Fa) (fn : List He.DefD) : PySem.W.Hook where
  α := He.AlD
  obs := fun t => obsXG chk n fa fn t.heap.get?
  val := fun _ => He.valD fn
  says := fun _ m => ∃ K : PySem.W.Frag, K.In m ∧ SaysX chk fa fn K
  of := fun _ _ z => ⟨_, He.frG_in, z⟩
  keeps := fun _ _ _ ⟨K, i, z⟩ k => ⟨K, PySem.W.Frag.In.keeps i k, z⟩
theorem obsXG_eq {chk : PySem.W.Frag → Bool} {n : Nat} {fa : List He.Fa} {fn : List He.DefD} {g : Addr → Option Obj} {t : Shared} (h : ∀ a, g a = t.heap.get? a) : obsXG chk n fa fn g = (hookX chk n fa fn).obs t := by
  obtain rfl : g = t.heap.get? := funext h
  rfl
theorem SaysX.d {chk : PySem.W.Frag → Bool} {fa : List He.Fa} {fn : List He.DefD} {K : PySem.W.Frag} (c : SaysX chk fa fn K) : He.SaysD fa fn K := by
  have h1 : ((He.obsD fa fn K).1 && chk K) = true := congrArg (fun z : He.AlD => z.1) (show obsX chk fa fn K = He.valD fn from c)
  have h2 : (obsX chk fa fn K).2 = (He.valD fn).2 := congrArg (fun z : He.AlD => z.2) c
  exact (Prod.ext (He.ba h1).1 h2 : He.obsD fa fn K = He.valD fn)
theorem SaysX.chk {chk : PySem.W.Frag → Bool} {fa : List He.Fa} {fn : List He.DefD} {K : PySem.W.Frag} (c : SaysX chk fa fn K) : chk K = true := by
  have h1 : ((He.obsD fa fn K).1 && chk K) = true := congrArg (fun z : He.AlD => z.1) (show obsX chk fa fn K = He.valD fn from c)
  exact (He.ba h1).2
theorem gcdB_mg {K : PySem.W.Frag} {h : Heap} {mg : Str → Option Value} (h2 : gcdB K = true) (X : K.In h) (G : h.Ns mainGlobals mg) : mg "gcd" = some (.builtin "math.gcd") := by
  unfold gcdB at h2
  split at h2
  · rename_i id e
    rw [of_decide_eq_true h2] at e
    exact PySem.W.mg_of X G e
  · cases h2

/-! ## more is wanted of less -/
structure EdLe (X X' : Ed) : Prop where
  nx : ∀ e, X.nx e → X'.nx e
  rt : ∀ c, X.rt c → X'.rt c
  bk : ∀ e, X.bk e → X'.bk e
  ct : ∀ e, X.ct e → X'.ct e
theorem forGo_mo {g : D → En → (En → Prop) → Prop} {b : WS} (hg : ∀ d env (Q Q' : En → Prop), (∀ e, Q e → Q' e) → g d env Q → g d env Q') (hb : ∀ X X' env, EdLe X X' → b X env → b X' env) :
    ∀ (ds : List D) (X X' : Ed) (env : En), EdLe X X' → forGo g b ds X env → forGo g b ds X' env
  | [], X, X', env, h, q => h.nx _ q
  | d :: ds, X, X', env, h, q => hg d env _ _ (fun e z => hb { nx := forGo g b ds X, rt := X.rt, bk := X.nx, ct := forGo g b ds X } _ e ⟨fun e2 z2 => forGo_mo hg hb ds X X' e2 h z2, h.rt, h.nx, fun e2 z2 => forGo_mo hg hb ds X X' e2 h z2⟩ z) q
theorem whlGo_mo {t : WT} {b : WS} (ht : ∀ env (Q Q' : Bool → En → Prop), (∀ k e, Q k e → Q' k e) → t env Q → t env Q') (hb : ∀ X X' env, EdLe X X' → b X env → b X' env) :
    ∀ (n : Nat) (X X' : Ed) (env : En), EdLe X X' → whlGo t b n X env → whlGo t b n X' env
  | 0, X, X', env, h, q => q
  | n + 1, X, X', env, h, q => ht env _ _ (fun k e z => by
      cases k with
      | true => exact hb { nx := whlGo t b n X, rt := X.rt, bk := X.nx, ct := whlGo t b n X } _ e ⟨fun e2 z2 => whlGo_mo ht hb n X X' e2 h z2, h.rt, h.nx, fun e2 z2 => whlGo_mo ht hb n X X' e2 h z2⟩ z
      | false => exact h.nx _ z) q
section
variable {Γ : Gam} (hΓ : GamOk Γ)
include hΓ
mutual
theorem wS_mo : ∀ (s : S) (X X' : Ed) (env : En), EdLe X X' → wS Γ s X env → wS Γ s X' env
  | .asg t e, X, X', env, h, q => (w_mo hΓ e).1 _ _ _ (fun c env1 z => wTg_mono t c env1 _ _ h.nx z) q
  | .par is es, X, X', env, h, q => wCs_mo hΓ es _ _ _ (fun cs env1 z => h.nx _ z) q
  | .seti i ix v, X, X', env, h, q => (w_mo hΓ v).1 _ _ _ (fun c env1 z => ⟨z.1, (w_mo hΓ ix).1 _ _ _ (fun ci env2 ⟨l, k, j, h1, h2, h3, h4⟩ => ⟨l, k, j, h1, h2, h3, h.nx _ h4⟩) z.2⟩) q
  | .setk i ix v, X, X', env, h, q => (w_mo hΓ v).1 _ _ _ (fun c env1 z => ⟨z.1, (w_mo hΓ ix).1 _ _ _ (fun ci env2 ⟨k, d, h1, h2, h3⟩ => ⟨k, d, h1, h2, sPutD_mono (fun d2 z2 => h.nx _ z2) h3⟩) z.2⟩) q
  | .app i e, X, X', env, h, q => ⟨q.1, (w_mo hΓ e).1 _ _ _ (fun c env1 ⟨l, h1, h2, h3⟩ => ⟨l, h1, h2, h.nx _ h3⟩) q.2⟩
  | .ext i e, X, X', env, h, q => ⟨q.1, (w_mo hΓ e).1 _ _ _ (fun c env1 ⟨l, m, h1, h2, h3, h4⟩ => ⟨l, m, h1, h2, h3, h.nx _ h4⟩) q.2⟩
  | .ins i p e, X, X', env, h, q => ⟨q.1, (w_mo hΓ p).1 _ _ _ (fun cp env1 z => (w_mo hΓ e).1 _ _ _ (fun c env2 ⟨l, k, h1, h2, h3, h4, h5⟩ => ⟨l, k, h1, h2, h3, h4, h.nx _ h5⟩) z) q.2⟩
  | .expr e, X, X', env, h, q => (w_mo hΓ e).1 _ _ _ (fun c env1 z => h.nx _ z) q
  | .ret e, X, X', env, h, q => by
    have key : ∀ (Q Q' : C → Prop), (∀ c, Q c → Q' c) → rtE e (w Γ e).ev env Q → rtE e (w Γ e).ev env Q' := by
      intro Q Q' hq z
      cases e <;> first | (exact (w_mo hΓ _).1 _ _ _ (fun c env1 z => hq _ z) z) | (obtain ⟨c, h1, h2⟩ := z; exact ⟨c, h1, hq _ h2⟩)
    exact key _ _ h.rt q
  | .iff c a b, X, X', env, h, q => (w_mo hΓ c).2 _ _ _ (fun k env1 z => by
      cases k with
      | true => exact wSs_mo a X X' env1 h z
      | false => exact wSs_mo b X X' env1 h z) q
  | .forr t it b, X, X', env, h, q => wI_mo hΓ it _ _ _ (fun ds env1 z => forGo_mo (fun d env Q Q' hq => wTg_mono t (.sh d) env Q Q' hq) (fun X X' env => wSs_mo b X X' env) ds X X' env1 h z) q
  | .whl c b, X, X', env, h, ⟨n, q⟩ => ⟨n, whlGo_mo (fun env Q Q' hq => (w_mo hΓ c).2 env Q Q' hq) (fun X X' env => wSs_mo b X X' env) n X X' env h q⟩
  | .pass, X, X', env, h, q => h.nx _ q
  | .brk, X, X', env, h, q => h.bk _ q
  | .cont, X, X', env, h, q => h.ct _ q
  | .never, X, X', env, h, q => q
theorem wSs_mo : ∀ (s : Ss) (X X' : Ed) (env : En), EdLe X X' → wSs Γ s X env → wSs Γ s X' env
  | .nil, X, X', env, h, q => h.nx _ q
  | .cons s r, X, X', env, h, q => wS_mo s { X with nx := fun env1 => wSs Γ r X env1 } _ env ⟨fun e z => wSs_mo r X X' e h z, h.rt, h.bk, h.ct⟩ q
end
end

/-! ## what is asked, what is told -/
def rel (pre : List D → Prop) (post : List D → C → Prop) : Spec := fun ds Q => pre ds ∧ ∀ c, post ds c → Q c
def gamOf (pre : Nat → List D → Prop) (post : Nat → List D → C → Prop) : Gam := fun n => rel (pre n) (post n)
theorem gamOf_ok {pre : Nat → List D → Prop} {post : Nat → List D → C → Prop} : GamOk (gamOf pre post) := fun _ _ _ _ h q => ⟨q.1, fun c z => h c (q.2 c z)⟩
theorem rel_body {Γ : Gam} (hΓ : GamOk Γ) {b : Ss} {N : List Str} {n : Nat} {pre : List D → Prop} {post : List D → C → Prop} (h : ∀ ds, pre ds → ds.length = n ∧ wSs Γ b { nx := fun _ => post ds (.sh .non), rt := post ds } (startE N ds)) (ds : List D) (Q : C → Prop) (q : rel pre post ds Q) :
    ds.length = n ∧ wSs Γ b { nx := fun _ => Q (.sh .non), rt := Q } (startE N ds) :=
  ⟨(h ds q.1).1, wSs_mo hΓ b { nx := fun _ => post ds (.sh .non), rt := post ds } _ _ ⟨fun _ z => q.2 _ z, q.2, fun _ z => z, fun _ z => z⟩ (h ds q.1).2⟩
end B

namespace B
open PySem PySem.Spec L2

/-! ## a body is gone through -/
def forT (Γ : Gam) (t : T) (b : Ss) (ds : List D) (X : Ed) (env : En) : Prop := forGo (fun d => wTg t (.sh d)) (wSs Γ b) ds X env
def whlT (Γ : Gam) (c : E) (b : Ss) (X : Ed) (env : En) : Prop := ∃ n, whlGo (w Γ c).te (wSs Γ b) n X env
def lcT (Γ : Gam) (own : List Nat) (t : T) (cnd : Oe) (elt : E) (ds : List D) (env : En) (Q : C → En → Prop) : Prop :=
  lcGo (fun d => wTg t (.sh d)) (wC Γ cnd) (w Γ elt).ev own ds (giveE env own) [] fun acc env2 => Q (.ow (.lst acc)) (backE (giveE env own) env2 own)
def has (env : En) (o : Opd) (x : D) : Prop := o.get env = some x
def seqE (a b : En → Prop) : Prop := True
section
variable (Γ : Gam) (X : Ed) (env : En)
theorem ss_nil : wSs Γ .nil X env = X.nx env := rfl
theorem ss_cons (s : S) (r : Ss) : wSs Γ (.cons s r) X env = wS Γ s { nx := fun env1 => wSs Γ r X env1, rt := X.rt, bk := X.bk, ct := X.ct } env := rfl
theorem st_asg (i : Nat) (e : E) : wS Γ (.asg (.nm i) e) X env = (w Γ e).ev env fun c env1 => X.nx (env1.set i (some c)) := rfl
theorem st_asgT (t r : T) (e : E) : wS Γ (.asg (.cons t r) e) X env = (w Γ e).ev env fun c env1 => wTg (.cons t r) c env1 X.nx := rfl
theorem st_par (is : List Nat) (es : Es) : wS Γ (.par is es) X env = wCs Γ es env fun cs env1 => X.nx (setAll is cs env1) := rfl
theorem st_seti (i : Nat) (ix v : E) : wS Γ (.seti i ix v) X env = (w Γ v).ev env fun cv env1 => Own env1 i ∧ (w Γ ix).ev env1 fun ci env2 => ∃ l k j, ci.d = .int k ∧ env2[i]? = some (some (.ow (.lst l))) ∧ ixN l.length k = some j ∧ X.nx (env2.set i (some (.ow (.lst (l.set j cv.d))))) := rfl
theorem st_setk (i : Nat) (ix v : E) : wS Γ (.setk i ix v) X env = (w Γ v).ev env fun cv env1 => OwnD env1 i ∧ (w Γ ix).ev env1 fun ci env2 => ∃ k d, ci.d = .int k ∧ env2[i]? = some (some (.ow d)) ∧ sPutD d k cv.d fun d' => X.nx (env2.set i (some (.ow d'))) := rfl
theorem st_app (i : Nat) (e : E) : wS Γ (.app i e) X env = (Own env i ∧ (w Γ e).ev env fun c env1 => ∃ l, env1[i]? = some (some (.ow (.lst l))) ∧ l.length < sizeLine ∧ X.nx (env1.set i (some (.ow (.lst (l ++ [c.d])))))) := rfl
theorem st_ext (i : Nat) (e : E) : wS Γ (.ext i e) X env = (Own env i ∧ (w Γ e).ev env fun c env1 => ∃ l m, env1[i]? = some (some (.ow (.lst l))) ∧ c.d = .lst m ∧ l.length + m.length ≤ sizeLine ∧ X.nx (env1.set i (some (.ow (.lst (l ++ m)))))) := rfl
theorem st_expr (e : E) : wS Γ (.expr e) X env = (w Γ e).ev env fun _ env1 => X.nx env1 := rfl
theorem st_ret (e : E) : wS Γ (.ret e) X env = rtE e (w Γ e).ev env X.rt := rfl
theorem st_iff (c : E) (a b : Ss) : wS Γ (.iff c a b) X env = (w Γ c).te env fun k env1 => if k = true then wSs Γ a X env1 else wSs Γ b X env1 := rfl
theorem st_forr (t : T) (it : It) (b : Ss) : wS Γ (.forr t it b) X env = wI Γ it env fun ds env1 => forT Γ t b ds X env1 := rfl
theorem st_whl (c : E) (b : Ss) : wS Γ (.whl c b) X env = whlT Γ c b X env := rfl
theorem st_pass : wS Γ .pass X env = X.nx env := rfl
theorem st_brk : wS Γ .brk X env = X.bk env := rfl
theorem st_cont : wS Γ .cont X env = X.ct env := rfl
theorem tg_nm (i : Nat) (c : C) (Q : En → Prop) : wTg (.nm i) c env Q = Q (env.set i (some c)) := rfl
theorem tg_nil (c : C) (Q : En → Prop) : wTg .nil c env Q = ((c.d = .tup [] ∨ c.d = .lst []) ∧ Q env) := rfl
theorem tg_cons (t r : T) (c : C) (Q : En → Prop) : wTg (.cons t r) c env Q = ∃ d ds, (c.d = .tup (d :: ds) ∨ c.d = .lst (d :: ds)) ∧ wTg t (.sh d) env fun env' => wTg r (.sh (.tup ds)) env' Q := rfl
end
section
variable (Γ : Gam) (env : En)
variable (Q : C → En → Prop) (R : Bool → En → Prop) (Z : Opd → En → Prop)
theorem ev_var (i : Nat) : (w Γ (.var i)).ev env Q = ∃ c, env[i]? = some (some c) ∧ Q (.sh c.d) (env.set i (some (.sh c.d))) := rfl
theorem ev_cst (d : D) : (w Γ (.cst d)).ev env Q = Q (.sh d) env := rfl
theorem ev_bin (op : Operator) (a b : E) : (w Γ (.bin op a b)).ev env Q = pk a (w Γ a).ev env fun oa env1 => pk b (w Γ b).ev env1 fun ob env2 => ∃ x y, oa.get env2 = some x ∧ ob.get env2 = some y ∧ sBin op x y fun c => Q c env2 := rfl
theorem ev_neg (a : E) : (w Γ (.neg a)).ev env Q = (w Γ a).ev env fun c env1 => ∃ i, c.d = .int i ∧ Q (.sh (.int (-i))) env1 := rfl
theorem ev_nt (a : E) : (w Γ (.nt a)).ev env Q = (w Γ a).ev env fun c env1 => ∃ b, c.d = .bl b ∧ Q (.sh (.bl (!b))) env1 := rfl
theorem ev_bop (k : Bool) (a b : E) : (w Γ (.bop k a b)).ev env Q = (w Γ a).ev env fun c env1 => ∃ j, c.d = .bl j ∧ if j = k then (w Γ b).ev env1 Q else Q (.sh (.bl j)) env1 := rfl
theorem ev_cmp (op : CmpOp) (a b : E) : (w Γ (.cmp op a b)).ev env Q = pk a (w Γ a).ev env fun oa env1 => pk b (w Γ b).ev env1 fun ob env2 => ∃ x y, oa.get env2 = some x ∧ ob.get env2 = some y ∧ sCmp op x y fun k => Q (.sh (.bl k)) env2 := rfl
theorem ev_chn (o1 o2 : CmpOp) (a b c : E) : (w Γ (.chn o1 o2 a b c)).ev env Q = (w Γ a).ev env fun ca env1 => (w Γ b).ev env1 fun cb env2 => sCmp o1 ca.d cb.d fun k => if k = true then (w Γ c).ev env2 fun cc env3 => sCmp o2 cb.d cc.d fun k2 => Q (.sh (.bl k2)) env3 else Q (.sh (.bl false)) env2 := rfl
theorem ev_ife (c a b : E) : (w Γ (.ife c a b)).ev env Q = (w Γ c).te env fun k env1 => if k = true then (w Γ a).ev env1 Q else (w Γ b).ev env1 Q := rfl
theorem ev_tup (es : Es) : (w Γ (.tup es)).ev env Q = wEs Γ es env fun ds env1 => ds.length ≤ sizeLine ∧ Q (.sh (.tup ds)) env1 := rfl
theorem ev_lst (es : Es) : (w Γ (.lst es)).ev env Q = wEs Γ es env fun ds env1 => ds.length ≤ sizeLine ∧ Q (.ow (.lst ds)) env1 := rfl
theorem ev_ix (a i : E) : (w Γ (.ix a i)).ev env Q = pk a (w Γ a).ev env fun oa env1 => (w Γ i).ev env1 fun ci env2 => ∃ x, oa.get env2 = some x ∧ sIx x ci.d fun d => Q (.sh d) env2 := rfl
theorem ev_sl (a : E) (lo hi : Oe) : (w Γ (.sl a lo hi)).ev env Q = pk a (w Γ a).ev env fun oa env1 => wO Γ lo env1 fun l env2 => wO Γ hi env2 fun h env3 => ∃ x, oa.get env3 = some x ∧ sSl x l h fun c => Q c env3 := rfl
theorem ev_rv (a : E) : (w Γ (.rv a)).ev env Q = pk a (w Γ a).ev env fun oa env1 => ∃ x, oa.get env1 = some x ∧ sRv x fun c => Q c env1 := rfl
theorem ev_dnil : (w Γ .dnil).ev env Q = Q (.ow (.dic [] [])) env := rfl
theorem ev_dsp (es : Es) : (w Γ (.dsp es)).ev env Q = wEs Γ es env fun ds env1 => sDsp ds fun c => Q c env1 := rfl
theorem ev_bi (f : Bi) (es : Es) : (w Γ (.bi f es)).ev env Q = wPs Γ es env fun os env1 => ∃ ds, gets env1 os = some ds ∧ sBi f ds fun c => Q c env1 := rfl
theorem ev_call (f : Nat) (es : Es) : (w Γ (.call f es)).ev env Q = wEs Γ es env fun ds env1 => Γ f ds fun c => Q c env1 := rfl
theorem ev_pop (i : Nat) : (w Γ (.pop i)).ev env Q = ∃ l d, env[i]? = some (some (.ow (.lst l))) ∧ l[l.length - 1]? = some d ∧ Q (.sh d) (env.set i (some (.ow (.lst l.dropLast)))) := rfl
theorem ev_popA (i : Nat) (e : E) : (w Γ (.popA i e)).ev env Q = (Own env i ∧ (w Γ e).ev env fun c env1 => ∃ l k j d, c.d = .int k ∧ env1[i]? = some (some (.ow (.lst l))) ∧ -(2 ^ 63) ≤ k ∧ k < 2 ^ 63 ∧ seqIndex? k l.length = some j ∧ l[j]? = some d ∧ Q (.sh d) (env1.set i (some (.ow (.lst (l.eraseIdx j)))))) := rfl
theorem ev_comp (own : List Nat) (t : T) (it : It) (cnd : Oe) (elt : E) : (w Γ (.comp own t it cnd elt)).ev env Q = wI Γ it env fun ds env1 => lcT Γ own t cnd elt ds env1 Q := rfl
theorem ev_isi (a : E) (ty : String) : (w Γ (.isi a ty)).ev env Q = pk a (w Γ a).ev env fun o env1 => ∃ d b, o.get env1 = some d ∧ isTy d ty = some b ∧ Q (.sh (.bl b)) env1 := rfl
theorem te_nt (a : E) : (w Γ (.nt a)).te env R = (w Γ a).te env fun k env1 => R (!k) env1 := rfl
theorem te_bop (k : Bool) (a b : E) : (w Γ (.bop k a b)).te env R = (w Γ a).te env fun j env1 => if j = k then (w Γ b).te env1 R else R j env1 := rfl
theorem te_cmp (op : CmpOp) (a b : E) : (w Γ (.cmp op a b)).te env R = pk a (w Γ a).ev env fun oa env1 => pk b (w Γ b).ev env1 fun ob env2 => ∃ x y, oa.get env2 = some x ∧ ob.get env2 = some y ∧ sCmp op x y fun k => R k env2 := rfl
theorem te_chn (o1 o2 : CmpOp) (a b c : E) : (w Γ (.chn o1 o2 a b c)).te env R = (w Γ a).ev env fun ca env1 => (w Γ b).ev env1 fun cb env2 => sCmp o1 ca.d cb.d fun k => if k = true then (w Γ c).ev env2 fun cc env3 => sCmp o2 cb.d cc.d fun k2 => R k2 env3 else R false env2 := rfl
theorem te_ife (c a b : E) : (w Γ (.ife c a b)).te env R = (w Γ c).te env fun k env1 => if k = true then (w Γ a).te env1 R else (w Γ b).te env1 R := rfl
theorem te_var (i : Nat) : (w Γ (.var i)).te env R = ((∃ c, env[i]? = some (some c)) ∧ ∃ d, (Opd.s i).get env = some d ∧ sTru d fun k => R k env) := rfl
theorem te_call (f : Nat) (es : Es) : (w Γ (.call f es)).te env R = (w Γ (.call f es)).ev env fun c env1 => ∃ d, (Opd.v c.d).get env1 = some d ∧ sTru d fun k => R k env1 := rfl
theorem te_bi (f : Bi) (es : Es) : (w Γ (.bi f es)).te env R = (w Γ (.bi f es)).ev env fun c env1 => ∃ d, (Opd.v c.d).get env1 = some d ∧ sTru d fun k => R k env1 := rfl
theorem te_ix (a i : E) : (w Γ (.ix a i)).te env R = (w Γ (.ix a i)).ev env fun c env1 => ∃ d, (Opd.v c.d).get env1 = some d ∧ sTru d fun k => R k env1 := rfl
theorem te_bin (op : Operator) (a i : E) : (w Γ (.bin op a i)).te env R = (w Γ (.bin op a i)).ev env fun c env1 => ∃ d, (Opd.v c.d).get env1 = some d ∧ sTru d fun k => R k env1 := rfl
theorem te_isi (a : E) (ty : String) : (w Γ (.isi a ty)).te env R = (w Γ (.isi a ty)).ev env fun c env1 => ∃ d, (Opd.v c.d).get env1 = some d ∧ sTru d fun k => R k env1 := rfl
theorem te_cst (d : D) : (w Γ (.cst d)).te env R = ∃ d1, (Opd.v d).get env = some d1 ∧ sTru d1 fun k => R k env := rfl
theorem pk_var (i : Nat) (we : WE) : pk (.var i) we env Z = ((∃ c, env[i]? = some (some c)) ∧ Z (.s i) env) := rfl
theorem rt_var (i : Nat) (we : WE) (Y : C → Prop) : rtE (.var i) we env Y = ∃ c, env[i]? = some (some c) ∧ Y c := rfl
theorem es_nil (Y : List D → En → Prop) : wEs Γ .nil env Y = Y [] env := rfl
theorem es_cons (e : E) (r : Es) (Y : List D → En → Prop) : wEs Γ (.cons e r) env Y = (w Γ e).ev env fun c env1 => wEs Γ r env1 fun ds env2 => Y (c.d :: ds) env2 := rfl
theorem cs_nil (Y : List C → En → Prop) : wCs Γ .nil env Y = Y [] env := rfl
theorem cs_cons (e : E) (r : Es) (Y : List C → En → Prop) : wCs Γ (.cons e r) env Y = (w Γ e).ev env fun c env1 => wCs Γ r env1 fun cs env2 => Y (c :: cs) env2 := rfl
theorem ps_nil (Y : List Opd → En → Prop) : wPs Γ .nil env Y = Y [] env := rfl
theorem ps_cons (e : E) (r : Es) (Y : List Opd → En → Prop) : wPs Γ (.cons e r) env Y = pk e (w Γ e).ev env fun o env1 => wPs Γ r env1 fun os env2 => Y (o :: os) env2 := rfl
theorem o_no (Y : Option Int → En → Prop) : wO Γ .no env Y = Y none env := rfl
theorem o_so (e : E) (Y : Option Int → En → Prop) : wO Γ (.so e) env Y = (w Γ e).ev env fun c env1 => ∃ i, c.d = .int i ∧ Y (some i) env1 := rfl
theorem c_no : wC Γ .no env R = R true env := rfl
theorem c_so (e : E) : wC Γ (.so e) env R = (w Γ e).te env R := rfl
theorem i_rg1 (a : E) (Y : List D → En → Prop) : wI Γ (.rg1 a) env Y = (w Γ a).ev env fun c env1 => ∃ n, c.d = .int n ∧ (-(2 ^ 62) ≤ n ∧ n ≤ 16777216) ∧ Y ((List.range n.toNat).map fun (k : Nat) => D.int k) env1 := rfl
theorem i_rg2 (a b : E) (Y : List D → En → Prop) : wI Γ (.rg2 a b) env Y = (w Γ a).ev env fun c env1 => (w Γ b).ev env1 fun c2 env2 => ∃ n m, c.d = .int n ∧ c2.d = .int m ∧ (-(2 ^ 62) ≤ n ∧ n < 2 ^ 62 ∧ -(2 ^ 62) ≤ m ∧ m < 2 ^ 62 ∧ (m - n).toNat ≤ sizeLine) ∧ Y ((List.range (m - n).toNat).map fun (k : Nat) => D.int (n + k)) env2 := rfl
theorem i_dk (i : Nat) (Y : List D → En → Prop) : wI Γ (.dk i) env Y = ∃ d, env[i]? = some (some (.ow d)) ∧ sKeys d fun l => Y l (env.set i (some (.sh d))) := rfl
theorem i_sq (a : E) (Y : List D → En → Prop) : wI Γ (.sq a) env Y = (w Γ a).ev env fun c env1 => (∃ l, (c.d = .lst l ∨ c.d = .tup l) ∧ Y l env1) := rfl
theorem i_en (a : E) (Y : List D → En → Prop) : wI Γ (.en a) env Y = (w Γ a).ev env fun c env1 => (∃ l, (c.d = .lst l ∨ c.d = .tup l) ∧ Y (enumD 0 l) env1) := rfl
theorem i_zp (a b : E) (Y : List D → En → Prop) : wI Γ (.zp a b) env Y = (w Γ a).ev env fun c env1 => (w Γ b).ev env1 fun c2 env2 => (∃ l m, ((c.d = .lst l ∧ c2.d = .lst m) ∨ (c.d = .tup l ∧ c2.d = .tup m) ∨ (c.d = .tup l ∧ c2.d = .lst m) ∨ (c.d = .lst l ∧ c2.d = .tup m)) ∧ Y (zipD l m) env2) := rfl
theorem i_rev (a : E) (Y : List D → En → Prop) : wI Γ (.rev a) env Y = (w Γ a).ev env fun c env1 => ∃ l, c.d = .lst l ∧ Y l.reverse env1 := rfl
theorem get_v (d x : D) : ((Opd.v d).get env = some x) = (d = x) := by show (some d = some x) = _; rw [Option.some.injEq]
theorem get_s (i : Nat) (x : D) : ((Opd.s i).get env = some x) = ∃ c, env[i]? = some (some c) ∧ c.d = x := by
  unfold Opd.get
  apply propext
  constructor
  · intro h
    simp only at h
    split at h
    · rename_i c e; exact ⟨c, e, Option.some.inj h⟩
    · cases h
  · rintro ⟨c, e, rfl⟩
    simp only [e]
theorem gets_nil (ds : List D) : (gets env [] = some ds) = ([] = ds) := by show (some [] = some ds) = _; rw [Option.some.injEq]
theorem gets_cons (o : Opd) (os : List Opd) (ds : List D) : (gets env (o :: os) = some ds) = ∃ d r, o.get env = some d ∧ gets env os = some r ∧ d :: r = ds := by
  have e : gets env (o :: os) = match o.get env, gets env os with
    | some d, some ds => some (d :: ds)
    | _, _ => none := rfl
  rw [e]
  cases h1 : o.get env <;> cases h2 : gets env os <;> simp
theorem ownd_iff (i : Nat) : OwnD env i = ∃ d, env[i]? = some (some (C.ow d)) := rfl
theorem own_iff (i : Nat) : Own env i = ∃ l, env[i]? = some (some (C.ow (.lst l))) := rfl
theorem set_nil (cs : List C) : setAll [] cs env = env := rfl
theorem set_cons (i : Nat) (is : List Nat) (c : C) (cs : List C) : setAll (i :: is) (c :: cs) env = setAll is cs (env.set i (some c)) := rfl
theorem rel_iff (pre : Nat → List D → Prop) (post : Nat → List D → C → Prop) (n : Nat) (ds : List D) (Y : C → Prop) : gamOf pre post n ds Y = (pre n ds ∧ ∀ c, post n ds c → Y c) := rfl
end

/-! ## loops -/
theorem for_inv {Γ : Gam} (hΓ : GamOk Γ) {t : T} {b : Ss} {X : Ed} (I : Nat → En → Prop) : ∀ (ds : List D) (i : Nat) (env : En), I i env → (∀ (j : Nat) (d : D) (e : En), ds[j]? = some d → I (i + j) e → wTg t (.sh d) e fun e1 => wSs Γ b { nx := I (i + j + 1), rt := X.rt, bk := X.nx, ct := I (i + j + 1) } e1) →
    (∀ e, I (i + ds.length) e → X.nx e) → forT Γ t b ds X env
  | [], i, env, h0, _, hd => hd env h0
  | d :: ds, i, env, h0, hs, hd => wTg_mono t _ _ _ _ (fun e1 z => wSs_mo hΓ b { nx := I (i + 0 + 1), rt := X.rt, bk := X.nx, ct := I (i + 0 + 1) } _ e1 (by
      have go : ∀ e, I (i + 1) e → forGo (fun d => wTg t (.sh d)) (wSs Γ b) ds X e := fun e he => for_inv hΓ I ds (i + 1) e he (fun j d e hj hI => by
        have := hs (j + 1) d e hj (by rw [show i + (j + 1) = i + 1 + j by omega]; exact hI)
        rw [show i + (j + 1) = i + 1 + j by omega] at this
        exact this) fun e hI => hd e (by rw [List.length_cons, show i + (ds.length + 1) = i + 1 + ds.length by omega]; exact hI)
      exact ⟨go, fun _ z => z, fun _ z => z, go⟩) z) (hs 0 d env rfl h0)
theorem whlGo_up {t : WT} {b : WS} (ht : ∀ env (Q Q' : Bool → En → Prop), (∀ k e, Q k e → Q' k e) → t env Q → t env Q') (hb : ∀ X X' env, EdLe X X' → b X env → b X' env) : ∀ (n : Nat) (X : Ed) (env : En), whlGo t b n X env → whlGo t b (n + 1) X env
  | 0, X, env, q => q.elim
  | n + 1, X, env, q => ht env _ _ (fun k e z => by
      cases k with
      | true => exact hb { nx := whlGo t b n X, rt := X.rt, bk := X.nx, ct := whlGo t b n X } _ e ⟨fun e2 z2 => whlGo_up ht hb n X e2 z2, fun _ z => z, fun _ z => z, fun e2 z2 => whlGo_up ht hb n X e2 z2⟩ z
      | false => exact z) q
theorem whlGo_le {t : WT} {b : WS} (ht : ∀ env (Q Q' : Bool → En → Prop), (∀ k e, Q k e → Q' k e) → t env Q → t env Q') (hb : ∀ X X' env, EdLe X X' → b X env → b X' env) {n m : Nat} (h : n ≤ m) {X : Ed} {env : En} (q : whlGo t b n X env) : whlGo t b m X env := by
  induction h with
  | refl => exact q
  | step _ ih => exact whlGo_up ht hb _ X env ih
theorem whl_inv {Γ : Gam} (hΓ : GamOk Γ) {c : E} {b : Ss} {X : Ed} (I : Nat → En → Prop) (hs : ∀ n e, I n e → (w Γ c).te e fun k e1 => if k = true then wSs Γ b { nx := fun e => ∃ m, m < n ∧ I m e, rt := X.rt, bk := X.nx, ct := fun e => ∃ m, m < n ∧ I m e } e1 else X.nx e1) {n : Nat} {env : En} (h0 : I n env) : whlT Γ c b X env := by
  have ht : ∀ env (Q Q' : Bool → En → Prop), (∀ k e, Q k e → Q' k e) → (w Γ c).te env Q → (w Γ c).te env Q' := fun env Q Q' hq => (w_mo hΓ c).2 env Q Q' hq
  have hb : ∀ X X' env, EdLe X X' → wSs Γ b X env → wSs Γ b X' env := fun X X' env => wSs_mo hΓ b X X' env
  have key : ∀ n e, I n e → whlGo (w Γ c).te (wSs Γ b) (n + 1) X e := by
    intro n
    induction n using Nat.strongRecOn with
    | ind n ih =>
      intro e he
      refine ht e _ _ (fun k e1 z => ?_) (hs n e he)
      cases k with
      | true =>
        have go : ∀ e, (∃ m, m < n ∧ I m e) → whlGo (w Γ c).te (wSs Γ b) n X e := fun e ⟨m, hm, hI⟩ => whlGo_le ht hb (show m + 1 ≤ n from hm) (ih m hm e hI)
        exact hb { nx := fun e => ∃ m, m < n ∧ I m e, rt := X.rt, bk := X.nx, ct := fun e => ∃ m, m < n ∧ I m e } _ e1 ⟨go, fun _ z => z, fun _ z => z, go⟩ z
      | false => exact z
  exact ⟨n + 1, key n env h0⟩
end B

namespace B
open PySem PySem.Spec L2

/-! ## small laws of values -/
theorem okEq_int (i : Int) : okEq (.int i) = True := eq_true ⟨rfl, rfl⟩
theorem okEq_bl (i : Bool) : okEq (.bl i) = True := eq_true ⟨rfl, rfl⟩
theorem okEq_non : okEq .non = True := eq_true ⟨rfl, rfl⟩
theorem okEq_str (s : Str) : okEq (.str s) = (PySem.PyData.strOk s = true) := by
  apply propext
  constructor
  · rintro ⟨_, h⟩
    unfold SeqAt.shaped at h
    exact (Bool.and_eq_true_iff.mp h).1
  · intro h
    refine ⟨rfl, ?_⟩
    unfold SeqAt.shaped
    rw [Bool.and_eq_true]
    exact ⟨h, rfl⟩
theorem deq_int (i j : Int) : deq (.int i) (.int j) = decide (i = j) := by
  show (i == j) = decide (i = j)
  by_cases h : i = j
  · rw [h]; simp
  · simp [h]
theorem deq_bl (i j : Bool) : deq (.bl i) (.bl j) = decide (i = j) := by
  show (i == j) = decide (i = j)
  cases i <;> cases j <;> rfl
theorem deq_str (i j : Str) : deq (.str i) (.str j) = decide (i = j) := by
  show (i == j) = decide (i = j)
  by_cases h : i = j
  · rw [h]; simp
  · simp [h]
/-- lists and tuples of whole numbers -/
theorem toPy_ints : ∀ ns : List Int, toPyL (ns.map D.int) = ns.map PyData.int
  | [] => rfl
  | n :: ns => by show toPy (.int n) :: toPyL (ns.map D.int) = _; rw [toPy_ints ns]; rfl
theorem pln_ints : ∀ ns : List Int, plnL (ns.map D.int) = true
  | [] => rfl
  | n :: ns => by show (true && plnL (ns.map D.int)) = true; rw [pln_ints ns]; rfl
theorem lay_intsD : ∀ ns : List Int, PyData.canLayAll0 (ns.map PyData.int) = true
  | [] => rfl
  | n :: ns => by show (true && PyData.canLayAll0 (ns.map PyData.int)) = true; rw [lay_intsD ns]; rfl
theorem depth_intsD : ∀ ns : List Int, PyData.depthAll (ns.map PyData.int) = 0
  | [] => rfl
  | n :: ns => by show max 0 (PyData.depthAll (ns.map PyData.int)) = 0; rw [depth_intsD ns]; rfl
theorem okEq_ints (ns : List Int) : okEq (.lst (ns.map D.int)) := by
  refine ⟨pln_ints ns, ?_⟩
  show SeqAt.shaped (.list (toPyL (ns.map D.int))) = true
  rw [toPy_ints]
  unfold SeqAt.shaped
  rw [Bool.and_eq_true]
  refine ⟨lay_intsD ns, decide_eq_true ?_⟩
  show PyData.depthAll (ns.map PyData.int) + 1 ≤ 64
  rw [depth_intsD]
  decide
theorem eqv_ints : ∀ ns ms : List Int, PyData.eqvAll (ns.map PyData.int) (ms.map PyData.int) = decide (ns = ms)
  | [], [] => rfl
  | [], _ :: _ => rfl
  | _ :: _, [] => rfl
  | n :: ns, m :: ms => by
    show ((n == m) && PyData.eqvAll (ns.map PyData.int) (ms.map PyData.int)) = _
    rw [eqv_ints ns ms]
    by_cases h : n = m
    · subst h
      simp
    · simp [h]
theorem deq_ints (ns ms : List Int) : deq (.lst (ns.map D.int)) (.lst (ms.map D.int)) = decide (ns = ms) := by
  show PyData.eqvAll (toPyL (ns.map D.int)) (toPyL (ms.map D.int)) = _
  rw [toPy_ints, toPy_ints]
  exact eqv_ints ns ms
theorem sizeL : sizeLine = 16777216 := by decide
/-- small factors -/
theorem bits60 {a : Int} (h : a.natAbs < 2 ^ 60) : Builtin.Int.intBits a ≤ 64 := by
  unfold Builtin.Int.intBits
  split
  · omega
  · rename_i z
    have hne : a.natAbs ≠ 0 := by
      intro e
      have : a = 0 := by omega
      rw [this] at z
      exact z rfl
    have := (Nat.log2_lt (n := a.natAbs) (k := 60) hne).mpr h
    omega
theorem mul_l {a b : Int} (h : a.natAbs < 2 ^ 60) : IntMulOk a b := IntMulOk.of_left (bits60 h)
theorem mul_r {a b : Int} (h : b.natAbs < 2 ^ 60) : IntMulOk a b := IntMulOk.of_right (bits60 h)
theorem div_s {a b : Int} (h0 : 0 < b) (h : b.natAbs < 2 ^ 60) : CDivW a b := wide_div h0 h (by decide) (by decide)
theorem log_s {b : Int} (h : b.natAbs < 2 ^ 60) : b.natAbs.log2 < 9000 := Nat.lt_of_lt_of_le (PySem.Flt.log2_lt_of (by decide) h) (by decide)
theorem pow_s {i j : Int} (h : 0 ≤ j) (h1 : j ≤ 1000000) (h2 : i.natAbs < 2 ^ 60) : PowOk i j := by
  refine ⟨h, ?_⟩
  have := bits60 h2
  have e : ((Builtin.Int.intBits i : Nat) : Int) ≤ 64 := by omega
  have := Int.mul_le_mul e h1 h (by decide)
  exact Int.le_trans this (by decide)
abbrev Body (Γ : Gam) (b : Ss) (N : List Str) (ds : List D) (p : C → Prop) : Prop := wSs Γ b { nx := fun _ => p (.sh .non), rt := p } (startE N ds)
end B

namespace B
open PySem PySem.Spec L2

/-! ## operations, seen one by one -/
theorem cd_sh (d : D) : (C.sh d).d = d := rfl
theorem cd_ow (d : D) : (C.ow d).d = d := rfl
section
variable (Q : C → Prop) (k : Bool → Prop) (i j : Int) (s t : Str) (l m : List D) (x y d : D) (a b : Bool)
theorem o_add : sBin .Add (.int i) (.int j) Q = Q (.sh (.int (i + j))) := rfl
theorem o_adds : sBin .Add (.str s) (.str t) Q = (s.length + t.length ≤ sizeLine ∧ Q (.sh (.str (s ++ t)))) := rfl
theorem o_addl : sBin .Add (.lst l) (.lst m) Q = (l.length + m.length ≤ sizeLine ∧ Q (.ow (.lst (l ++ m)))) := rfl
theorem o_addt : sBin .Add (.tup l) (.tup m) Q = (l.length + m.length ≤ sizeLine ∧ Q (.sh (.tup (l ++ m)))) := rfl
theorem o_sub : sBin .Sub (.int i) (.int j) Q = Q (.sh (.int (i - j))) := rfl
theorem o_mul : sBin .Mult (.int i) (.int j) Q = (IntMulOk i j ∧ Q (.sh (.int (i * j)))) := rfl
theorem o_mull : sBin .Mult (.lst l) (.int j) Q = ((-(2 ^ 63) ≤ j ∧ j < 2 ^ 63 ∧ l.length * j.toNat ≤ sizeLine) ∧ Q (.ow (.lst (List.replicate j.toNat l).flatten))) := rfl
theorem o_multt : sBin .Mult (.tup l) (.int j) Q = ((0 ≤ j ∧ j ≤ 1000 ∧ l.length ≤ 1000) ∧ Q (.sh (.tup (List.replicate j.toNat l).flatten))) := rfl
theorem o_div : sBin .FloorDiv (.int i) (.int j) Q = (CDivW i j ∧ Q (.sh (.int (i / j)))) := rfl
theorem o_mod : sBin .Mod (.int i) (.int j) Q = (0 < j ∧ Q (.sh (.int (i % j)))) := rfl
theorem o_pow : sBin .Pow (.int i) (.int j) Q = (PowOk i j ∧ Q (.sh (.int (i ^ j.toNat)))) := rfl
theorem o_shl : sBin .LShift (.int i) (.int j) Q = (CPow i j ∧ Q (.sh (.int (i * 2 ^ j.toNat)))) := rfl
theorem o_shr : sBin .RShift (.int i) (.int j) Q = (0 ≤ j ∧ Q (.sh (.int (i / 2 ^ j.toNat)))) := rfl
theorem o_and : sBin .BitAnd (.int i) (.int j) Q = Q (.sh (.int (Builtin.bitAnd i j))) := rfl
theorem o_or : sBin .BitOr (.int i) (.int j) Q = Q (.sh (.int (Builtin.bitOr i j))) := rfl
theorem o_xor : sBin .BitXor (.int i) (.int j) Q = Q (.sh (.int (Builtin.bitXor i j))) := rfl
theorem q_eq : sCmp .Eq x y k = (eqOk x y ∧ k (deq x y)) := by cases x <;> rfl
theorem q_ne : sCmp .NotEq x y k = (eqOk x y ∧ k (!deq x y)) := by cases x <;> rfl
theorem ek_s : eqOk (.str s) (.str t) = True := rfl
theorem ek_i : eqOk (.int i) y = (okEq (.int i) ∧ okEq y) := by cases y <;> rfl
theorem ek_b : eqOk (.bl a) y = (okEq (.bl a) ∧ okEq y) := by cases y <;> rfl
theorem ek_n : eqOk .non y = (okEq .non ∧ okEq y) := by cases y <;> rfl
theorem ek_l : eqOk (.lst l) y = (okEq (.lst l) ∧ okEq y) := by cases y <;> rfl
theorem ek_t : eqOk (.tup l) y = (okEq (.tup l) ∧ okEq y) := by cases y <;> rfl
theorem q_lt : sCmp .Lt (.int i) (.int j) k = k (decide (i < j)) := rfl
theorem q_le : sCmp .LtE (.int i) (.int j) k = k (decide (i ≤ j)) := rfl
theorem q_gt : sCmp .Gt (.int i) (.int j) k = k (decide (j < i)) := rfl
theorem q_ge : sCmp .GtE (.int i) (.int j) k = k (decide (j ≤ i)) := rfl
theorem q_is : sCmp .Is x .non k = k (isN x) := by cases x <;> rfl
theorem q_isn : sCmp .IsNot x .non k = k (!isN x) := by cases x <;> rfl
theorem q_isb : sCmp .Is (.bl a) (.bl b) k = k (decide (a = b)) := rfl
theorem q_isnb : sCmp .IsNot (.bl a) (.bl b) k = k (!decide (a = b)) := rfl
theorem q_inl : sCmp .In x (.lst l) k = ((flatD x = true ∧ l.all flatD = true) ∧ k (l.any fun y => deq y x)) := by cases x <;> rfl
theorem q_int : sCmp .In x (.tup l) k = ((flatD x = true ∧ l.all flatD = true) ∧ k (l.any fun y => deq y x)) := by cases x <;> rfl
theorem q_nil : sCmp .NotIn x (.lst l) k = ((flatD x = true ∧ l.all flatD = true) ∧ k (!l.any fun y => deq y x)) := by cases x <;> rfl
theorem q_nit : sCmp .NotIn x (.tup l) k = ((flatD x = true ∧ l.all flatD = true) ∧ k (!l.any fun y => deq y x)) := by cases x <;> rfl
theorem x_l (Z : D → Prop) : sIx (.lst l) (.int i) Z = ∃ d, atI l i = some d ∧ Z d := rfl
theorem x_t (Z : D → Prop) : sIx (.tup l) (.int i) Z = ∃ d, atI l i = some d ∧ Z d := rfl
theorem x_s (Z : D → Prop) : sIx (.str s) (.int i) Z = (s.length ≤ sizeLine ∧ ∃ c, atI s.cps.toList i = some c ∧ Z (.str ⟨#[c]⟩)) := rfl
theorem z_l (lo hi : Option Int) : sSl (.lst l) lo hi Q = Q (.ow (.lst (cutD l lo hi))) := rfl
theorem z_t (lo hi : Option Int) : sSl (.tup l) lo hi Q = Q (.sh (.tup (cutD l lo hi))) := rfl
theorem v_l : sRv (.lst l) Q = Q (.ow (.lst l.reverse)) := rfl
theorem v_t : sRv (.tup l) Q = Q (.sh (.tup l.reverse)) := rfl
theorem f_lenl : sBi .len [.lst l] Q = Q (.sh (.int l.length)) := rfl
theorem f_lent : sBi .len [.tup l] Q = Q (.sh (.int l.length)) := rfl
theorem f_lens : sBi .len [.str s] Q = (s.length ≤ sizeLine ∧ Q (.sh (.int s.length))) := rfl
theorem f_abs : sBi .abs [.int i] Q = Q (.sh (.int i.natAbs)) := rfl
theorem f_int : sBi .int [.int i] Q = Q (.sh (.int i)) := rfl
theorem f_intb : sBi .int [.bl a] Q = Q (.sh (.int (if a then 1 else 0))) := rfl
theorem f_bool : sBi .bool [.int i] Q = Q (.sh (.bl (i != 0))) := rfl
theorem f_boolb : sBi .bool [.bl a] Q = Q (.sh (.bl a)) := rfl
theorem f_str : sBi .str [.int i] Q = (i.natAbs.log2 < 1920 ∧ Q (.sh (.str (toString i)))) := rfl
theorem f_reprB : sBi .reprB [d] Q = (okShB d ∧ Q (.sh (.str (txt d)))) := by cases d <;> rfl
theorem f_repr : sBi .repr [d] Q = (okSh d ∧ Q (.sh (.str (txt d)))) := by cases d <;> rfl
theorem f_sum : sBi .sum [.lst l] Q = ∃ ns : List Int, l = ns.map D.int ∧ Q (.sh (.int ns.sum)) := rfl
theorem f_max1 : sBi .max1 [.lst l] Q = ∃ ns : List Int, l = ns.map D.int ∧ 0 < ns.length ∧ ∀ m, m ∈ ns → (∀ y, y ∈ ns → y ≤ m) → Q (.sh (.int m)) := rfl
theorem f_min1 : sBi .min1 [.lst l] Q = ∃ ns : List Int, l = ns.map D.int ∧ 0 < ns.length ∧ ∀ m, m ∈ ns → (∀ y, y ∈ ns → m ≤ y) → Q (.sh (.int m)) := rfl
theorem f_minP : sBi .minP [.lst l] Q = ∃ ps : List (Int × Int), l = ps.map pr ∧ ps ≠ [] ∧ ∀ p, p ∈ ps → (∀ q, q ∈ ps → lexLe p q) → Q (.sh (pr p)) := rfl
theorem f_max2 : sBi .max2 [.int i, .int j] Q = Q (.sh (.int (max i j))) := rfl
theorem f_min2 : sBi .min2 [.int i, .int j] Q = Q (.sh (.int (min i j))) := rfl
theorem f_lstl : sBi .lst [.lst l] Q = Q (.ow (.lst l)) := rfl
theorem f_lstd (ks : List Key) : sBi .lst [.dic ks l] Q = Q (.ow (.lst (ks.map kD))) := rfl
theorem f_dct (ks : List Key) : sBi .dct [.dic ks l] Q = Q (.ow (.dic ks l)) := rfl
theorem f_sortd (ks : List Key) : sBi .sorted [.dic ks l] Q = ∃ ns : List Int, ks = ns.map Sum.inl ∧ ns.length < 64 ∧ ∀ ms : List Int, ms.Perm ns → ms.Pairwise (· ≤ ·) → Q (.ow (.lst (ms.map D.int))) := rfl
theorem y_d1 : sDsp [.int i, y] Q = Q (.ow (.dic [.inl i] [y])) := by
  show (1 ≤ 15 ∧ Q (.ow (putAll [(.inl i, y)] [] []))) = _
  exact propext ⟨fun h => h.2, fun h => ⟨by decide, h⟩⟩
theorem y_d2 : sDsp [.int i, y, .int j, d] Q = Q (.ow (.dic (dK [.inl i] (.inl j)) (dV [.inl i] [y] (.inl j) d))) := by
  show (2 ≤ 15 ∧ Q (.ow (putAll [(.inl i, y), (.inl j, d)] [] []))) = _
  exact propext ⟨fun h => h.2, fun h => ⟨by decide, h⟩⟩
theorem p_dic (ks : List Key) (Z : D → Prop) : sPutD (.dic ks l) i y Z = (ks.length < sizeLine ∧ Z (.dic (dK ks (.inl i)) (dV ks l (.inl i) y))) := rfl
theorem k_dic (ks : List Key) (Z : List D → Prop) : sKeys (.dic ks l) Z = Z (ks.map kD) := rfl
theorem f_lstt : sBi .lst [.tup l] Q = Q (.ow (.lst l)) := rfl
theorem f_tupl : sBi .tup [.lst l] Q = Q (.sh (.tup l)) := rfl
theorem f_tupt : sBi .tup [.tup l] Q = Q (.sh (.tup l)) := rfl
theorem f_sorted : sBi .sorted [.lst l] Q = srt l Q := rfl
theorem f_sortet : sBi .sorted [.tup l] Q = srt l Q := rfl
theorem f_sset : sBi .sset [.lst l] Q = sset l Q := rfl
theorem f_sseu : sBi .sset [.tup l] Q = ssetT l Q := rfl
theorem f_all : sBi .all_ [.lst l] Q = ∃ bs : List Bool, l = bs.map D.bl ∧ Q (.sh (.bl (bs.all id))) := rfl
theorem f_any : sBi .any_ [.lst l] Q = ∃ bs : List Bool, l = bs.map D.bl ∧ Q (.sh (.bl (bs.any id))) := rfl
theorem f_gcd : sBi .gcd [.int i, .int j] Q = Q (.sh (.int (Nat.gcd i.natAbs j.natAbs))) := rfl
theorem f_lrg1 : sBi .lrg1 [.int i] Q = (RgOk 0 i ∧ Q (.ow (.lst ((List.range i.toNat).map fun (k : Nat) => D.int k)))) := rfl
theorem f_lrg2 : sBi .lrg2 [.int i, .int j] Q = (RgOk i j ∧ Q (.ow (.lst ((List.range (j - i).toNat).map fun (k : Nat) => D.int (i + k))))) := rfl
theorem f_trg1 : sBi .trg1 [.int i] Q = (RgOk 0 i ∧ Q (.sh (.tup ((List.range i.toNat).map fun (k : Nat) => D.int k)))) := rfl
theorem f_trg2 : sBi .trg2 [.int i, .int j] Q = (RgOk i j ∧ Q (.sh (.tup ((List.range (j - i).toNat).map fun (k : Nat) => D.int (i + k))))) := rfl
theorem t_bl : sTru (.bl a) k = k a := rfl
theorem t_int : sTru (.int i) k = k (i != 0) := rfl
theorem t_non : sTru .non k = k false := rfl
theorem t_lst : sTru (.lst l) k = k (!l.isEmpty) := rfl
theorem t_tup : sTru (.tup l) k = k (!l.isEmpty) := rfl
theorem t_str : sTru (.str s) k = (s.length ≤ sizeLine ∧ k (s.length != 0)) := rfl
end
section
variable (env : En) (Z : Opd → En → Prop) (we : WE) (Y : C → Prop)
theorem pk_cst (d : D) : pk (.cst d) we env Z = we env fun c env' => Z (.v c.d) env' := rfl
theorem pk_bin (o : Operator) (a b : E) : pk (.bin o a b) we env Z = we env fun c env' => Z (.v c.d) env' := rfl
theorem pk_neg (a : E) : pk (.neg a) we env Z = we env fun c env' => Z (.v c.d) env' := rfl
theorem pk_nt (a : E) : pk (.nt a) we env Z = we env fun c env' => Z (.v c.d) env' := rfl
theorem pk_bop (k : Bool) (a b : E) : pk (.bop k a b) we env Z = we env fun c env' => Z (.v c.d) env' := rfl
theorem pk_cmp (o : CmpOp) (a b : E) : pk (.cmp o a b) we env Z = we env fun c env' => Z (.v c.d) env' := rfl
theorem pk_chn (o o2 : CmpOp) (a b c : E) : pk (.chn o o2 a b c) we env Z = we env fun c env' => Z (.v c.d) env' := rfl
theorem pk_ife (a b c : E) : pk (.ife a b c) we env Z = we env fun c env' => Z (.v c.d) env' := rfl
theorem pk_tup (es : Es) : pk (.tup es) we env Z = we env fun c env' => Z (.v c.d) env' := rfl
theorem pk_lst (es : Es) : pk (.lst es) we env Z = we env fun c env' => Z (.v c.d) env' := rfl
theorem pk_ix (a b : E) : pk (.ix a b) we env Z = we env fun c env' => Z (.v c.d) env' := rfl
theorem pk_sl (a : E) (l h : Oe) : pk (.sl a l h) we env Z = we env fun c env' => Z (.v c.d) env' := rfl
theorem pk_dnil : pk .dnil we env Z = we env fun c env' => Z (.v c.d) env' := rfl
theorem pk_dsp (es : Es) : pk (.dsp es) we env Z = we env fun c env' => Z (.v c.d) env' := rfl
theorem pk_rv (a : E) : pk (.rv a) we env Z = we env fun c env' => Z (.v c.d) env' := rfl
theorem pk_bi (f : Bi) (es : Es) : pk (.bi f es) we env Z = we env fun c env' => Z (.v c.d) env' := rfl
theorem pk_call (f : Nat) (es : Es) : pk (.call f es) we env Z = we env fun c env' => Z (.v c.d) env' := rfl
theorem pk_pop (i : Nat) : pk (.pop i) we env Z = we env fun c env' => Z (.v c.d) env' := rfl
theorem pk_popA (i : Nat) (e : E) : pk (.popA i e) we env Z = we env fun c env' => Z (.v c.d) env' := rfl
theorem pk_comp (o : List Nat) (t : T) (it : It) (c : Oe) (e : E) : pk (.comp o t it c e) we env Z = we env fun c env' => Z (.v c.d) env' := rfl
theorem pk_isi (e : E) (t : String) : pk (.isi e t) we env Z = we env fun c env' => Z (.v c.d) env' := rfl
theorem rt_cst (d : D) : rtE (.cst d) we env Y = we env fun c _ => Y c := rfl
theorem rt_bin (o : Operator) (a b : E) : rtE (.bin o a b) we env Y = we env fun c _ => Y c := rfl
theorem rt_neg (a : E) : rtE (.neg a) we env Y = we env fun c _ => Y c := rfl
theorem rt_nt (a : E) : rtE (.nt a) we env Y = we env fun c _ => Y c := rfl
theorem rt_bop (k : Bool) (a b : E) : rtE (.bop k a b) we env Y = we env fun c _ => Y c := rfl
theorem rt_cmp (o : CmpOp) (a b : E) : rtE (.cmp o a b) we env Y = we env fun c _ => Y c := rfl
theorem rt_chn (o o2 : CmpOp) (a b c : E) : rtE (.chn o o2 a b c) we env Y = we env fun c _ => Y c := rfl
theorem rt_ife (a b c : E) : rtE (.ife a b c) we env Y = we env fun c _ => Y c := rfl
theorem rt_tup (es : Es) : rtE (.tup es) we env Y = we env fun c _ => Y c := rfl
theorem rt_lst (es : Es) : rtE (.lst es) we env Y = we env fun c _ => Y c := rfl
theorem rt_ix (a b : E) : rtE (.ix a b) we env Y = we env fun c _ => Y c := rfl
theorem rt_sl (a : E) (l h : Oe) : rtE (.sl a l h) we env Y = we env fun c _ => Y c := rfl
theorem rt_dnil : rtE .dnil we env Y = we env fun c _ => Y c := rfl
theorem rt_dsp (es : Es) : rtE (.dsp es) we env Y = we env fun c _ => Y c := rfl
theorem rt_rv (a : E) : rtE (.rv a) we env Y = we env fun c _ => Y c := rfl
theorem rt_bi (f : Bi) (es : Es) : rtE (.bi f es) we env Y = we env fun c _ => Y c := rfl
theorem rt_call (f : Nat) (es : Es) : rtE (.call f es) we env Y = we env fun c _ => Y c := rfl
theorem rt_pop (i : Nat) : rtE (.pop i) we env Y = we env fun c _ => Y c := rfl
theorem rt_comp (o : List Nat) (t : T) (it : It) (c : Oe) (e : E) : rtE (.comp o t it c e) we env Y = we env fun c _ => Y c := rfl
theorem rt_isi (e : E) (t : String) : rtE (.isi e t) we env Y = we env fun c _ => Y c := rfl
end
theorem tg_c (t r : T) (a : D) (l : List D) (env : En) (Q : En → Prop) : wTg (.cons t r) (.sh (.tup (a :: l))) env Q = wTg t (.sh a) env fun e => wTg r (.sh (.tup l)) e Q := by
  apply propext
  constructor
  · rintro ⟨d, ds, e | e, h⟩
    · cases e
      exact h
    · cases e
  · intro h
    exact ⟨a, l, .inl rfl, h⟩
theorem tg_co (t r : T) (a : D) (l : List D) (env : En) (Q : En → Prop) : wTg (.cons t r) (.ow (.lst (a :: l))) env Q = wTg t (.sh a) env fun e => wTg r (.sh (.tup l)) e Q := by
  apply propext
  constructor
  · rintro ⟨d, ds, e | e, h⟩
    · cases e
    · cases e
      exact h
  · intro h
    exact ⟨a, l, .inr rfl, h⟩
theorem tg_n (env : En) (Q : En → Prop) : wTg .nil (.sh (.tup [])) env Q = Q env := by
  apply propext
  exact ⟨fun h => h.2, fun h => ⟨.inl rfl, h⟩⟩
end B

namespace B
open PySem PySem.Spec L2

/-! ## comprehensions, texts of plain answers, small things -/
theorem back_same {env env2 : En} {own : List Nat} (h : wipeE env2 own = env) : backE env env2 own = env := by
  have hl : env.length = env2.length := by rw [← h, wipeE_len]
  apply List.ext_getElem?
  intro i
  by_cases hi : i ∈ own
  · exact backE_in hl hi
  · rw [backE_out hi, ← wipeE_out hi, h]
theorem lc_inv {Γ : Gam} (hΓ : GamOk Γ) {own : List Nat} {t : T} {cnd : Oe} {elt : E} {env : En} {Q : C → En → Prop} (hg : giveE env own = env) (hw : wipeE env own = env) (I : Nat → List D → Prop) (ds : List D) (h0 : I 0 [])
    (hs : ∀ (j : Nat) (d : D) (acc : List D), ds[j]? = some d → I j acc → wTg t (.sh d) env fun e1 => wC Γ cnd e1 fun b e2 => if b = true then (w Γ elt).ev e2 fun c e3 => wipeE e3 own = env ∧ I (j + 1) (acc ++ [c.d]) else wipeE e2 own = env ∧ I (j + 1) acc)
    (hd : ∀ acc, I ds.length acc → Q (.ow (.lst acc)) env) : lcT Γ own t cnd elt ds env Q := by
  unfold lcT
  rw [hg]
  have go : ∀ (n i : Nat) (env' : En) (acc : List D), n = ds.length - i → i ≤ ds.length → wipeE env' own = env → I i acc → lcGo (fun d => wTg t (.sh d)) (wC Γ cnd) (w Γ elt).ev own (ds.drop i) env' acc fun acc env2 => Q (.ow (.lst acc)) (backE env env2 own) := by
    intro n
    induction n with
    | zero =>
      intro i env' acc hn hi he hI
      have : i = ds.length := by omega
      subst this
      rw [List.drop_length]
      show Q (.ow (.lst acc)) (backE env env' own)
      rw [back_same he]
      exact hd acc hI
    | succ n ih =>
      intro i env' acc hn hi he hI
      have hlt : i < ds.length := by omega
      rw [List.drop_eq_getElem_cons hlt]
      show wTg t (.sh ds[i]) (wipeE env' own) _
      rw [he]
      refine wTg_mono t _ _ _ _ (fun e1 z1 => ?_) (hs i ds[i] acc (List.getElem?_eq_getElem hlt) hI)
      refine wC_mo hΓ cnd _ _ _ (fun b e2 z2 => ?_) z1
      cases b with
      | true => exact (w_mo hΓ elt).1 _ _ _ (fun c e3 z3 => ih (i + 1) e3 _ (by omega) (by omega) z3.1 z3.2) z2
      | false => exact ih (i + 1) e2 acc (by omega) (by omega) z2.1 z2.2
  have := go ds.length 0 env [] (by omega) (by omega) hw h0
  rwa [List.drop_zero] at this
theorem back_same2 {env env2 : En} {own : List Nat} (h : wipeE env2 own = wipeE env own) : backE env env2 own = env := by
  have hl : env.length = env2.length := by rw [← wipeE_len env own, ← h, wipeE_len]
  apply List.ext_getElem?
  intro i
  by_cases hi : i ∈ own
  · exact backE_in hl hi
  · rw [backE_out hi, ← wipeE_out hi, h, wipeE_out hi]
/-- where the names of the comprehension stand already -/
theorem lc_inv2 {Γ : Gam} (hΓ : GamOk Γ) {own : List Nat} {t : T} {cnd : Oe} {elt : E} {env : En} {Q : C → En → Prop} (hg : giveE env own = env) (I : Nat → List D → Prop) (ds : List D) (h0 : I 0 [])
    (hs : ∀ (j : Nat) (d : D) (acc : List D), ds[j]? = some d → I j acc → wTg t (.sh d) (wipeE env own) fun e1 => wC Γ cnd e1 fun b e2 => if b = true then (w Γ elt).ev e2 fun c e3 => wipeE e3 own = wipeE env own ∧ I (j + 1) (acc ++ [c.d]) else wipeE e2 own = wipeE env own ∧ I (j + 1) acc)
    (hd : ∀ acc, I ds.length acc → Q (.ow (.lst acc)) env) : lcT Γ own t cnd elt ds env Q := by
  unfold lcT
  rw [hg]
  have go : ∀ (n i : Nat) (env' : En) (acc : List D), n = ds.length - i → i ≤ ds.length → wipeE env' own = wipeE env own → I i acc → lcGo (fun d => wTg t (.sh d)) (wC Γ cnd) (w Γ elt).ev own (ds.drop i) env' acc fun acc env2 => Q (.ow (.lst acc)) (backE env env2 own) := by
    intro n
    induction n with
    | zero =>
      intro i env' acc hn hi he hI
      have : i = ds.length := by omega
      subst this
      rw [List.drop_length]
      show Q (.ow (.lst acc)) (backE env env' own)
      rw [back_same2 he]
      exact hd acc hI
    | succ n ih =>
      intro i env' acc hn hi he hI
      have hlt : i < ds.length := by omega
      rw [List.drop_eq_getElem_cons hlt]
      show wTg t (.sh ds[i]) (wipeE env' own) _
      rw [he]
      refine wTg_mono t _ _ _ _ (fun e1 z1 => ?_) (hs i ds[i] acc (List.getElem?_eq_getElem hlt) hI)
      refine wC_mo hΓ cnd _ _ _ (fun b e2 z2 => ?_) z1
      cases b with
      | true => exact (w_mo hΓ elt).1 _ _ _ (fun c e3 z3 => ih (i + 1) e3 _ (by omega) (by omega) z3.1 z3.2) z2
      | false => exact ih (i + 1) e2 acc (by omega) (by omega) z2.1 z2.2
  have := go ds.length 0 env [] (by omega) (by omega) rfl h0
  rwa [List.drop_zero] at this
theorem st_ins (Γ : Gam) (X : Ed) (env : En) (i : Nat) (p e : E) : wS Γ (.ins i p e) X env = (Own env i ∧ (w Γ p).ev env fun cp env1 => (w Γ e).ev env1 fun c env2 => ∃ l k, cp.d = .int k ∧ env2[i]? = some (some (.ow (.lst l))) ∧ (0 ≤ k ∧ k < 2 ^ 63) ∧ l.length < sizeLine ∧ X.nx (env2.set i (some (.ow (.lst (l.take k.toNat ++ c.d :: l.drop k.toNat)))))) := rfl
theorem atI0 {α : Type} (x : α) (l : List α) : atI (x :: l) 0 = some x := by
  unfold atI ixN
  rw [if_pos (by decide), if_pos (by rw [List.length_cons]; omega)]
  rfl
theorem sh_int {a : Int} (h : a.natAbs.log2 < 300) : (PyData.shown (.int a)).length ≤ 310 ∧ PyData.showable (.int a) = true := by
  have h1 := int_text_length_le (by decide) h
  refine ⟨?_, ?_⟩
  · have e : (PyData.shown (.int a)).length = (toString a).length := ofString_length (toString a)
    omega
  · simp only [PyData.showable]
    simp
    omega
theorem deq_nil (l : List D) : deq (.lst l) (.lst []) = l.isEmpty := by cases l <;> rfl
theorem erase_perm {α : Type} : ∀ (a : List α) (i : Nat) (h : i < a.length), (a[i] :: a.eraseIdx i).Perm a
  | x :: a, 0, _ => List.Perm.refl _
  | x :: a, i + 1, h => by
    have hi : i < a.length := by rw [List.length_cons] at h; omega
    have ih := erase_perm a i hi
    show (a[i] :: x :: a.eraseIdx i).Perm (x :: a)
    exact (List.Perm.swap x _ _).trans (List.Perm.cons x ih)
theorem erase_map {α β : Type} (f : α → β) : ∀ (a : List α) (i : Nat), (a.map f).eraseIdx i = (a.eraseIdx i).map f
  | [], _ => rfl
  | _ :: _, 0 => rfl
  | x :: a, i + 1 => congrArg (f x :: ·) (erase_map f a i)
theorem abs_lt {a : Int} {n : Nat} (h : a < (2 : Int) ^ n) (h2 : -((2 : Int) ^ n) < a) : a.natAbs < 2 ^ n := by
  have e : ((2 ^ n : Nat) : Int) = (2 : Int) ^ n := by rw [Int.natCast_pow]; rfl
  omega
theorem i_rg3 {Γ : Gam} {env : En} (a b c : E) (Y : List D → En → Prop) : wI Γ (.rg3 a b c) env Y = (w Γ a).ev env fun c1 env1 => (w Γ b).ev env1 fun c2 env2 => (w Γ c).ev env2 fun c3 env3 => ∃ x y z n, c1.d = .int x ∧ c2.d = .int y ∧ c3.d = .int z ∧ RgC x y z n ∧ n ≤ sizeLine ∧ Y ((List.range n).map fun (k : Nat) => D.int (x + k * z)) env3 := rfl
theorem deq_tup (l : List D) : deq (.tup l) (.tup []) = l.isEmpty := by cases l <;> rfl
theorem mp_get {α β : Type} {f : α → β} {l : List α} {j : Nat} {d : β} (h : (l.map f)[j]? = some d) : ∃ x, l[j]? = some x ∧ d = f x := by
  rw [List.getElem?_map] at h
  cases e : l[j]? with
  | none => rw [e] at h; cases h
  | some x => rw [e] at h; cases h; exact ⟨x, rfl, rfl⟩
/-- what is written out in short -/
def Atom (d : D) : Prop := d = .non ∨ (∃ b, d = .bl b) ∨ ∃ i : Int, d = .int i ∧ i.natAbs < 2 ^ 300
theorem atom_log {i : Int} (h : i.natAbs < 2 ^ 300) : i.natAbs.log2 < 300 := by
  rcases Nat.eq_zero_or_pos i.natAbs with z | z
  · rw [z]; decide
  · exact (Nat.log2_lt (by omega)).mpr h
theorem shAtoms : ∀ l : List D, (∀ d, d ∈ l → Atom d) → PyData.leavesShortAll 310 (toPyL l) = true ∧ PyData.showableAll (toPyL l) = true ∧ PyData.bulkAll (toPyL l) ≤ l.length ∧ PyData.depthAll (toPyL l) ≤ 3 ∧ plnL l = true
  | [], _ => by simp [toPyL, plnL, PyData.leavesShortAll, PyData.showableAll, PyData.bulkAll, PyData.depthAll]
  | d :: l, h => by
    obtain ⟨i1, i2, i3, i4, i5⟩ := shAtoms l fun x hx => h x (List.mem_cons_of_mem _ hx)
    have key : PyData.leavesShort 310 (toPy d) = true ∧ PyData.showable (toPy d) = true ∧ PyData.bulk (toPy d) ≤ 0 ∧ PyData.depth (toPy d) ≤ 3 ∧ pln d = true := by
      rcases h d List.mem_cons_self with rfl | ⟨b, rfl⟩ | ⟨i, rfl, hi⟩
      · exact ⟨by decide, by decide, by decide, by decide, rfl⟩
      · cases b <;> exact ⟨by decide, by decide, by decide, by decide, rfl⟩
      · have s := sh_int (atom_log hi)
        refine ⟨?_, s.2, ?_, ?_, rfl⟩
        · show decide ((PyData.shown (.int i)).length ≤ 310) = true
          exact decide_eq_true s.1
        · exact Nat.le_refl 0
        · exact Nat.zero_le _
    obtain ⟨k1, k2, k3, k4, k5⟩ := key
    simp only [toPyL, plnL, PyData.leavesShortAll, PyData.showableAll, PyData.bulkAll, PyData.depthAll, Bool.and_eq_true, List.length_cons]
    exact ⟨⟨k1, i1⟩, ⟨k2, i2⟩, by omega, by omega, k5, i5⟩
theorem okSh_atoms {l : List D} (hl : l.length ≤ 1000) (h : ∀ d, d ∈ l → Atom d) : okSh (.lst l) := by
  obtain ⟨i1, i2, i3, i4, i5⟩ := shAtoms l h
  have L := PyData.shown_le_bulk 310 (by decide) (.list (toPyL l)) i1
  have s0 : sizeLine = 16777216 := by decide
  refine ⟨i5, i2, ?_, ?_⟩
  · show (PyData.shown (.list (toPyL l))).length ≤ _
    simp only [PyData.bulk] at L
    omega
  · show PyData.depth (.list (toPyL l)) ≤ 20
    simp only [PyData.depth]
    omega
/-! comprehensions without more ado -/
theorem lc_map {Γ : Gam} (hΓ : GamOk Γ) {own : List Nat} {t : T} {elt : E} {env : En} {Q : C → En → Prop} (f : D → D) (hg : giveE env own = env) (ds : List D)
    (hs : ∀ d, d ∈ ds → wTg t (.sh d) (wipeE env own) fun e1 => (w Γ elt).ev e1 fun c e3 => wipeE e3 own = wipeE env own ∧ c.d = f d)
    (hd : Q (.ow (.lst (ds.map f))) env) : lcT Γ own t .no elt ds env Q :=
  lc_inv2 hΓ hg (fun i acc => acc = (ds.take i).map f) ds rfl (fun j d acc hj hI => by
    refine wTg_mono t _ _ _ _ (fun e1 z => ?_) (hs d (List.mem_of_getElem? hj))
    show (w Γ elt).ev e1 _
    refine (w_mo hΓ elt).1 _ _ _ (fun c e3 z3 => ⟨z3.1, ?_⟩) z
    obtain ⟨hlt, e⟩ := List.getElem?_eq_some_iff.mp hj
    rw [hI, z3.2, List.take_add_one, hj, Option.toList_some, List.map_append]
    rfl) fun acc hI => by rw [hI, List.take_length]; exact hd
theorem lc_filt {Γ : Gam} (hΓ : GamOk Γ) {own : List Nat} {t : T} {cnd : E} {elt : E} {env : En} {Q : C → En → Prop} (p : D → Bool) (f : D → D) (hg : giveE env own = env) (ds : List D)
    (hs : ∀ d, d ∈ ds → wTg t (.sh d) (wipeE env own) fun e1 => (w Γ cnd).te e1 fun b e2 => b = p d ∧ if b = true then (w Γ elt).ev e2 fun c e3 => wipeE e3 own = wipeE env own ∧ c.d = f d else wipeE e2 own = wipeE env own)
    (hd : Q (.ow (.lst ((ds.filter p).map f))) env) : lcT Γ own t (.so cnd) elt ds env Q :=
  lc_inv2 hΓ hg (fun i acc => acc = ((ds.take i).filter p).map f) ds rfl (fun j d acc hj hI => by
    refine wTg_mono t _ _ _ _ (fun e1 z => ?_) (hs d (List.mem_of_getElem? hj))
    show (w Γ cnd).te e1 _
    refine (w_mo hΓ cnd).2 _ _ _ (fun b e2 z2 => ?_) z
    obtain ⟨hlt, e⟩ := List.getElem?_eq_some_iff.mp hj
    obtain ⟨hb, z2⟩ := z2
    subst hb
    have ex : (ds.take (j + 1)).filter p = (ds.take j).filter p ++ [d].filter p := by
      rw [List.take_add_one, hj, Option.toList_some, List.filter_append]
    by_cases c : p d = true
    · rw [if_pos c] at z2
      rw [if_pos c]
      refine (w_mo hΓ elt).1 _ _ _ (fun c2 e3 z3 => ⟨z3.1, ?_⟩) z2
      rw [hI, z3.2, ex, List.map_append, List.filter_cons_of_pos c]
      rfl
    · rw [if_neg c] at z2
      rw [if_neg c]
      refine ⟨z2, ?_⟩
      rw [hI, ex, List.filter_cons_of_neg c, List.filter_nil, List.append_nil]) fun acc hI => by rw [hI, List.take_length]; exact hd
theorem lc_mapI {Γ : Gam} (hΓ : GamOk Γ) {own : List Nat} {t : T} {elt : E} {env : En} {Q : C → En → Prop} (f : Int → Int) (hg : giveE env own = env) (l : List Int)
    (hs : ∀ x, x ∈ l → wTg t (.sh (.int x)) (wipeE env own) fun e1 => (w Γ elt).ev e1 fun c e3 => wipeE e3 own = wipeE env own ∧ c.d = .int (f x))
    (hd : Q (.ow (.lst ((l.map f).map D.int))) env) : lcT Γ own t .no elt (l.map D.int) env Q :=
  lc_map hΓ (fun d => match d with | .int x => .int (f x) | _ => .non) hg _ (fun d hd => by
    obtain ⟨x, hx, rfl⟩ := List.mem_map.1 hd
    exact hs x hx) (by
    have e : (l.map D.int).map (fun d => match d with | .int x => D.int (f x) | _ => .non) = (l.map f).map D.int := by
      rw [List.map_map, List.map_map]; rfl
    rw [e]; exact hd)
/-- what is written out in short, closed under rows -/
structure ShX (B n k : Nat) (d : D) : Prop where
  s : PyData.leavesShort B (toPy d) = true
  o : PyData.showable (toPy d) = true
  b : PyData.bulk (toPy d) ≤ n
  k : PyData.depth (toPy d) ≤ k
  p : pln d = true
structure ShL (B n k : Nat) (l : List D) : Prop where
  s : PyData.leavesShortAll B (toPyL l) = true
  o : PyData.showableAll (toPyL l) = true
  b : PyData.bulkAll (toPyL l) ≤ n
  k : PyData.depthAll (toPyL l) ≤ k
  p : plnL l = true
abbrev ShD := ShX 310
theorem ShX.up {B n k m j : Nat} {d : D} (h : ShX B n k d) (h1 : n ≤ m) (h2 : k ≤ j) : ShX B m j d := ⟨h.s, h.o, Nat.le_trans h.b h1, Nat.le_trans h.k h2, h.p⟩
theorem shx_non {B : Nat} (h : 10 ≤ B) : ShX B 0 3 .non := ⟨rfl, by decide, by decide, by decide, rfl⟩
theorem shx_bl {B : Nat} (h : 10 ≤ B) (b : Bool) : ShX B 0 3 (.bl b) := by
  cases b <;> exact ⟨rfl, by decide, by decide, by decide, rfl⟩
theorem shx_int {B b : Nat} {i : Int} (h : i.natAbs < 2 ^ b) (h1 : b + 10 ≤ B) (h2 : b ≤ 1900) (h3 : b ≠ 0) : ShX B 0 3 (.int i) := by
  have lg : i.natAbs.log2 < b := by
    rcases Nat.eq_zero_or_pos i.natAbs with z | z
    · rw [z]
      have : Nat.log2 0 = 0 := by decide
      omega
    · exact (Nat.log2_lt (by omega)).mpr h
  have h1 := int_text_length_le (by omega) lg
  have e : (PyData.shown (.int i)).length = (toString i).length := ofString_length (toString i)
  refine ⟨decide_eq_true (by omega), ?_, Nat.le_refl 0, Nat.zero_le _, rfl⟩
  show PyData.showable (.int i) = true
  simp only [PyData.showable]
  simp
  omega
theorem shd_atom {d : D} (h : Atom d) : ShD 0 3 d := by
  rcases h with rfl | ⟨b, rfl⟩ | ⟨i, rfl, hi⟩
  · exact shx_non (by decide)
  · exact shx_bl (by decide) b
  · exact shx_int hi (by decide) (by decide) (by decide)
theorem shd_int {i : Int} (h : i.natAbs < 2 ^ 300) : ShD 0 3 (.int i) := shx_int h (by decide) (by decide) (by decide)
theorem shl_of {B n k : Nat} : ∀ {l : List D}, (∀ d, d ∈ l → ShX B n k d) → ShL B (l.length * (n + 1)) k l
  | [], _ => ⟨rfl, rfl, Nat.le_of_eq (by simp [toPyL, PyData.bulkAll]), by simp [toPyL, PyData.depthAll], rfl⟩
  | d :: l, h => by
    have i := shl_of fun x hx => h x (List.mem_cons_of_mem d hx)
    have a := h d List.mem_cons_self
    refine ⟨?_, ?_, ?_, ?_, ?_⟩
    · simp only [toPyL, PyData.leavesShortAll, Bool.and_eq_true]; exact ⟨a.s, i.s⟩
    · simp only [toPyL, PyData.showableAll, Bool.and_eq_true]; exact ⟨a.o, i.o⟩
    · have := a.b
      have := i.b
      simp only [toPyL, PyData.bulkAll, List.length_cons, Nat.add_mul]
      omega
    · have := a.k
      have := i.k
      simp only [toPyL, PyData.depthAll]
      omega
    · simp only [plnL, Bool.and_eq_true]; exact ⟨a.p, i.p⟩
theorem shd_row {B n k m : Nat} {l : List D} (hl : l.length ≤ m) (h : ∀ d, d ∈ l → ShX B n k d) : ShX B (m * (n + 1)) (k + 1) (.tup l) ∧ ShX B (m * (n + 1)) (k + 1) (.lst l) := by
  have i := shl_of h
  have b : PyData.bulkAll (toPyL l) ≤ m * (n + 1) := Nat.le_trans i.b (Nat.mul_le_mul_right _ hl)
  have k1 : PyData.depthAll (toPyL l) + 1 ≤ k + 1 := Nat.succ_le_succ i.k
  exact ⟨⟨i.s, i.o, b, k1, i.p⟩, ⟨i.s, i.o, b, k1, i.p⟩⟩
theorem ShX.okB {B n k : Nat} {d : D} (h : ShX B n k d) (hB : 8 ≤ B) (hn : (B + 2) * n + B ≤ 16777216) (hk : k ≤ 20) : okSh d := by
  have L := PyData.shown_le_bulk B hB (toPy d) h.s
  have s0 : sizeLine = 16777216 := by decide
  have b := Nat.mul_le_mul_left (B + 2) h.b
  have k := h.k
  exact ⟨h.p, h.o, by omega, by omega⟩
/-- the same of numbers of any size below 2 ** 12900 -/
structure ShW (B n k : Nat) (d : D) : Prop where
  s : PyData.leavesShort B (toPy d) = true
  o : showB (toPy d) = true
  b : PyData.bulk (toPy d) ≤ n
  k : PyData.depth (toPy d) ≤ k
  p : plx d = true
theorem ShW.up {B n k m j : Nat} {d : D} (h : ShW B n k d) (h1 : n ≤ m) (h2 : k ≤ j) : ShW B m j d := ⟨h.s, h.o, Nat.le_trans h.b h1, Nat.le_trans h.k h2, h.p⟩
theorem shw_int {B b : Nat} {i : Int} (h : i.natAbs < 2 ^ b) (h1 : b + 10 ≤ B) (h2 : b ≤ 12900) (h3 : b ≠ 0) : ShW B 0 0 (.int i) := by
  have lg : i.natAbs.log2 < b := by
    rcases Nat.eq_zero_or_pos i.natAbs with z | z
    · rw [z]
      have : Nat.log2 0 = 0 := by decide
      omega
    · exact (Nat.log2_lt (by omega)).mpr h
  have h1 := int_text_length_le (by omega) lg
  have e : (PyData.shown (.int i)).length = (toString i).length := ofString_length (toString i)
  exact ⟨decide_eq_true (by omega), decide_eq_true (by omega), Nat.le_refl 0, Nat.le_refl 0, rfl⟩
theorem shw_str {B : Nat} {x : Str} (h : PyData.leavesShort B (.str x) = true) : ShW B x.cps.size 0 (.str x) := ⟨h, rfl, Nat.le_refl _, Nat.le_refl 0, rfl⟩
theorem shw_all {B n k : Nat} : ∀ {l : List D}, (∀ d, d ∈ l → ShW B n k d) → PyData.leavesShortAll B (toPyL l) = true ∧ showBs (toPyL l) = true ∧ PyData.bulkAll (toPyL l) ≤ l.length * (n + 1) ∧ PyData.depthAll (toPyL l) ≤ k ∧ plxL l = true
  | [], _ => ⟨rfl, rfl, Nat.le_of_eq (by simp [toPyL, PyData.bulkAll]), by simp [toPyL, PyData.depthAll], rfl⟩
  | d :: l, h => by
    obtain ⟨i1, i2, i3, i4, i5⟩ := shw_all fun x hx => h x (List.mem_cons_of_mem d hx)
    have a := h d List.mem_cons_self
    have a1 := a.b
    have a2 := a.k
    refine ⟨?_, ?_, ?_, ?_, ?_⟩
    · simp only [toPyL, PyData.leavesShortAll, Bool.and_eq_true]; exact ⟨a.s, i1⟩
    · simp only [toPyL, showBs, Bool.and_eq_true]; exact ⟨a.o, i2⟩
    · simp only [toPyL, PyData.bulkAll, List.length_cons, Nat.add_mul]
      omega
    · simp only [toPyL, PyData.depthAll]
      omega
    · simp only [plxL, Bool.and_eq_true]; exact ⟨a.p, i5⟩
theorem shw_row {B n k m : Nat} {l : List D} (hl : l.length ≤ m) (h : ∀ d, d ∈ l → ShW B n k d) : ShW B (m * (n + 1)) (k + 1) (.tup l) ∧ ShW B (m * (n + 1)) (k + 1) (.lst l) := by
  obtain ⟨i1, i2, i3, i4, i5⟩ := shw_all h
  have b : PyData.bulkAll (toPyL l) ≤ m * (n + 1) := Nat.le_trans i3 (Nat.mul_le_mul_right _ hl)
  have k1 : PyData.depthAll (toPyL l) + 1 ≤ k + 1 := Nat.succ_le_succ i4
  exact ⟨⟨i1, i2, b, k1, i5⟩, ⟨i1, i2, b, k1, i5⟩⟩
theorem ShW.okB {B n k : Nat} {d : D} (h : ShW B n k d) (hB : 8 ≤ B) (hn : (B + 2) * n + B ≤ 16777216) (hk : k ≤ 20) : okShB d := by
  have L := PyData.shown_le_bulk B hB (toPy d) h.s
  have s0 : sizeLine = 16777216 := by decide
  have b := Nat.mul_le_mul_left (B + 2) h.b
  have k := h.k
  exact ⟨h.p, h.o, by omega, by omega⟩
theorem shw_dnil {B : Nat} : ShW B 0 1 (.dic [] []) := ⟨rfl, rfl, Nat.le_refl _, Nat.le_refl _, rfl⟩
theorem shw_non {B : Nat} : ShW B 0 0 .non := ⟨rfl, rfl, Nat.le_refl _, Nat.le_refl _, rfl⟩
theorem shw_bl {B : Nat} (b : Bool) : ShW B 0 0 (.bl b) := ⟨rfl, rfl, Nat.le_refl _, Nat.le_refl _, rfl⟩
theorem ShX.ok {n k : Nat} {d : D} (h : ShX 310 n k d) (hn : n ≤ 50000) (hk : k ≤ 20) : okSh d := h.okB (by decide) (by omega) hk
/-! what may be compared, closed under rows -/
structure EqD (k : Nat) (d : D) : Prop where
  l : PyData.canLay0 (toPy d) = true
  k : PyData.depth (toPy d) ≤ k
  p : pln d = true
theorem eqd_int {i : Int} : EqD 0 (.int i) := ⟨rfl, Nat.le_refl 0, rfl⟩
theorem eqd_all {k : Nat} : ∀ {l : List D}, (∀ d, d ∈ l → EqD k d) → PyData.canLayAll0 (toPyL l) = true ∧ PyData.depthAll (toPyL l) ≤ k ∧ plnL l = true
  | [], _ => ⟨rfl, by simp [toPyL, PyData.depthAll], rfl⟩
  | d :: l, h => by
    obtain ⟨i1, i2, i3⟩ := eqd_all fun x hx => h x (List.mem_cons_of_mem d hx)
    have a := h d List.mem_cons_self
    have k1 := a.k
    simp only [toPyL, PyData.canLayAll0, PyData.depthAll, plnL, Bool.and_eq_true]
    exact ⟨⟨a.l, i1⟩, by omega, a.p, i3⟩
theorem eqd_row {k : Nat} {l : List D} (h : ∀ d, d ∈ l → EqD k d) : EqD (k + 1) (.tup l) ∧ EqD (k + 1) (.lst l) := by
  obtain ⟨i1, i2, i3⟩ := eqd_all h
  exact ⟨⟨i1, Nat.succ_le_succ i2, i3⟩, ⟨i1, Nat.succ_le_succ i2, i3⟩⟩
theorem EqD.up {k j : Nat} {d : D} (h : EqD k d) (hk : k ≤ j) : EqD j d := ⟨h.l, Nat.le_trans h.k hk, h.p⟩
theorem EqD.okT {k : Nat} {l : List D} (h : EqD k (.tup l)) (hk : k ≤ 64) : okEq (.tup l) := by
  refine ⟨h.p, ?_⟩
  show SeqAt.shaped (.tuple (toPyL l)) = true
  unfold SeqAt.shaped
  rw [Bool.and_eq_true]
  exact ⟨h.l, decide_eq_true (Nat.le_trans h.k hk)⟩
theorem EqD.okL {k : Nat} {l : List D} (h : EqD k (.lst l)) (hk : k ≤ 64) : okEq (.lst l) := by
  refine ⟨h.p, ?_⟩
  show SeqAt.shaped (.list (toPyL l)) = true
  unfold SeqAt.shaped
  rw [Bool.and_eq_true]
  exact ⟨h.l, decide_eq_true (Nat.le_trans h.k hk)⟩
theorem ndec_pos {p : Prop} {inst : Decidable p} {a b : Prop} (h : p) (hb : b) : if (!@decide p inst) = true then a else b := by
  rw [if_neg (by rw [decide_eq_true h]; decide)]
  exact hb
theorem ndec_neg {p : Prop} {inst : Decidable p} {a b : Prop} (h : ¬ p) (ha : a) : if (!@decide p inst) = true then a else b := by
  rw [if_pos (by rw [decide_eq_false h]; rfl)]
  exact ha
theorem dec_t {p : Prop} {inst : Decidable p} {Q : C → Prop} (h : p) (q : Q (.sh (.bl true))) : Q (.sh (.bl (@decide p inst))) := by
  rw [decide_eq_true h]
  exact q
theorem asc_len : ∀ (ms ns : List Int), ms.Pairwise (· < ·) → (∀ k, k ∈ ms → k ∈ ns) → ms.length ≤ ns.length
  | [], _, _, _ => Nat.zero_le _
  | a :: t, ns, p, h => by
    have i := asc_len t (ns.erase a) (List.pairwise_cons.1 p).2 fun k hk => (List.mem_erase_of_ne (by have := (List.pairwise_cons.1 p).1 k hk; omega)).2 (h k (List.mem_cons_of_mem _ hk))
    have m := h a List.mem_cons_self
    rw [List.length_erase_of_mem m] at i
    have := List.length_pos_of_mem m
    rw [List.length_cons]
    omega
theorem cut_to (l : List D) (n : Nat) : cutD l none (some (n : Int)) = l.take n := by
  unfold cutD
  have z := HT.sIx_nat l.length l.length n
  rw [show HT.sIx l.length 0 none = 0 from rfl, z, List.drop_zero, Nat.sub_zero]
  rcases Nat.le_total n l.length with h | h
  · rw [Nat.min_eq_left h]
  · rw [Nat.min_eq_right h, List.take_length, List.take_of_length_le h]
theorem cut_from (l : List D) (n : Nat) : cutD l (some (n : Int)) none = l.drop n := by
  unfold cutD
  have z := HT.sIx_nat l.length 0 n
  rw [show HT.sIx l.length l.length none = l.length from rfl, z]
  rcases Nat.le_total n l.length with h | h
  · rw [Nat.min_eq_left h, List.take_of_length_le (by rw [List.length_drop]; omega)]
  · rw [Nat.min_eq_right h, List.drop_length, List.drop_eq_nil_of_le h, List.take_nil]
theorem filt_nil {α : Type} {p : α → Bool} {f : α → D} {l : List α} : ((l.filter p).map f).isEmpty = l.all fun x => !p x := by
  rw [Bool.eq_iff_iff, List.isEmpty_iff, List.map_eq_nil_iff, List.filter_eq_nil_iff, List.all_eq_true]
  simp
theorem okEq_ones (n : Nat) : okEq (.lst (List.replicate n (.int 1))) := by
  have := okEq_ints (List.replicate n 1)
  rwa [List.map_replicate] at this
/-- the comprehension's rule with the names that change meanwhile -/
theorem lc_invE {Γ : Gam} (hΓ : GamOk Γ) {own : List Nat} {t : T} {cnd : Oe} {elt : E} {env : En} {Q : C → En → Prop} (I : Nat → List D → En → Prop) (ds : List D) (h0 : I 0 [] (giveE env own))
    (hs : ∀ (j : Nat) (d : D) (acc : List D) (e : En), ds[j]? = some d → I j acc e → wTg t (.sh d) (wipeE e own) fun e1 => wC Γ cnd e1 fun b e2 => if b = true then (w Γ elt).ev e2 fun c e3 => I (j + 1) (acc ++ [c.d]) e3 else I (j + 1) acc e2)
    (hd : ∀ acc e, I ds.length acc e → Q (.ow (.lst acc)) (backE (giveE env own) e own)) : lcT Γ own t cnd elt ds env Q := by
  unfold lcT
  have go : ∀ (n i : Nat) (env' : En) (acc : List D), n = ds.length - i → i ≤ ds.length → I i acc env' → lcGo (fun d => wTg t (.sh d)) (wC Γ cnd) (w Γ elt).ev own (ds.drop i) env' acc fun acc env2 => Q (.ow (.lst acc)) (backE (giveE env own) env2 own) := by
    intro n
    induction n with
    | zero =>
      intro i env' acc hn hi hI
      have : i = ds.length := by omega
      subst this
      rw [List.drop_length]
      exact hd acc env' hI
    | succ n ih =>
      intro i env' acc hn hi hI
      have hlt : i < ds.length := by omega
      rw [List.drop_eq_getElem_cons hlt]
      refine wTg_mono t _ _ _ _ (fun e1 z1 => ?_) (hs i ds[i] acc env' (List.getElem?_eq_getElem hlt) hI)
      refine wC_mo hΓ cnd _ _ _ (fun b e2 z2 => ?_) z1
      cases b with
      | true => exact (w_mo hΓ elt).1 _ _ _ (fun c e3 z3 => ih (i + 1) e3 _ (by omega) (by omega) z3) z2
      | false => exact ih (i + 1) e2 acc (by omega) (by omega) z2
  have := go ds.length 0 (giveE env own) [] (by omega) (by omega) h0
  rwa [List.drop_zero] at this
theorem if_p {p : Prop} {inst : Decidable p} {A B : Prop} (h : p) (ha : A) : @ite Prop p inst A B := by
  rw [if_pos h]
  exact ha
theorem if_q {p : Prop} {inst : Decidable p} {A B : Prop} (h : ¬ p) (hb : B) : @ite Prop p inst A B := by
  rw [if_neg h]
  exact hb
theorem go1 {Γ : Gam} {s : S} {r : Ss} {X : Ed} {env : En} (h : wS Γ s { nx := fun env1 => wSs Γ r X env1, rt := X.rt, bk := X.bk, ct := X.ct } env) : wSs Γ (.cons s r) X env := h
/-! ## things of all kinds: how long they are when written out -/
def Asc (x : Str) : Prop := ∀ c, c ∈ x.cps.toList → c < 16 ^ 8
theorem asc_of (s : String) : Asc (Str.ofString s) := by
  intro c hc
  rw [Str.ofString_eq_toList] at hc
  have hc : c ∈ s.toList.map Char.toNat := by simpa using hc
  obtain ⟨ch, _, rfl⟩ := List.mem_map.1 hc
  exact Nat.lt_of_lt_of_le ch.val.toNat_lt (by decide)
theorem asc_app {x y : Str} (hx : Asc x) (hy : Asc y) : Asc (x ++ y) := by
  intro c hc
  have e : (x ++ y).cps = x.cps ++ y.cps := rfl
  rw [e, Array.toList_append] at hc
  rcases List.mem_append.1 hc with h | h
  · exact hx c h
  · exact hy c h
theorem asc_join {sep : Str} (hs : Asc sep) : ∀ {l : List Str}, (∀ x, x ∈ l → Asc x) → Asc (Str.join sep l)
  | [], _ => fun c hc => by simp [Str.join, Str.empty] at hc
  | [x], h => h x List.mem_cons_self
  | x :: y :: l, h => asc_app (asc_app (h x List.mem_cons_self) hs) (asc_join hs fun z hz => h z (List.mem_cons_of_mem _ hz))
theorem asc_tup {l : List Str} (h : ∀ x, x ∈ l → Asc x) : Asc (tupleText l) := by
  unfold tupleText
  refine asc_app (asc_app (asc_of _) (asc_join (asc_of _) h)) ?_
  split <;> exact asc_of _
theorem asc_lst {l : List Str} (h : ∀ x, x ∈ l → Asc x) : Asc (listText l) := by
  rw [listText_eq_join]
  exact asc_app (asc_app (asc_of _) (asc_join (asc_of _) h)) (asc_of _)
/-- what is written out with so many signs at most, so deep at most -/
structure Sn (m k : Nat) (d : D) : Prop where
  p : plx d = true
  o : showB (toPy d) = true
  l : (toPy d).shown.length ≤ m
  k : (toPy d).depth ≤ k
  a : Asc (toPy d).shown
theorem Sn.up {m k n j : Nat} {d : D} (h : Sn m k d) (h1 : m ≤ n) (h2 : k ≤ j) : Sn n j d := ⟨h.p, h.o, Nat.le_trans h.l h1, Nat.le_trans h.k h2, h.a⟩
theorem sn_non : Sn 4 0 .non := ⟨rfl, rfl, by show (PyData.shown .none).length ≤ 4; simp only [PyData.shown]; decide, Nat.le_refl 0, by show Asc (PyData.shown .none); simp only [PyData.shown]; exact asc_of _⟩
theorem sn_bl (b : Bool) : Sn 5 0 (.bl b) := by
  cases b
  · exact ⟨rfl, rfl, by show (PyData.shown (.bool false)).length ≤ 5; simp only [PyData.shown]; decide, Nat.le_refl 0, by show Asc (PyData.shown (.bool false)); simp only [PyData.shown]; exact asc_of _⟩
  · exact ⟨rfl, rfl, by show (PyData.shown (.bool true)).length ≤ 5; simp only [PyData.shown]; decide, Nat.le_refl 0, by show Asc (PyData.shown (.bool true)); simp only [PyData.shown]; exact asc_of _⟩
theorem sn_int {b : Nat} {i : Int} (h : i.natAbs < 2 ^ b) (h0 : 0 < b) (h1 : b ≤ 12900) : Sn (b + 1) 0 (.int i) := by
  have lg : i.natAbs.log2 < b := by
    rcases Nat.eq_zero_or_pos i.natAbs with z | z
    · rw [z]
      have : Nat.log2 0 = 0 := by decide
      omega
    · exact (Nat.log2_lt (by omega)).mpr h
  have h1 := int_text_length_le h0 lg
  have e : (PyData.shown (.int i)).length = (toString i).length := by rw [show PyData.shown (.int i) = Str.ofString (toString i) by simp only [PyData.shown]]; exact ofString_length (toString i)
  exact ⟨rfl, decide_eq_true (by omega), by show (PyData.shown (.int i)).length ≤ b + 1; omega, Nat.le_refl 0, asc_of (toString i)⟩
theorem sn_str {x : Str} {m : Nat} (h1 : (reprText x).length ≤ m) (h2 : (reprText x).cps.toList.all (fun c => decide (c < 16 ^ 8)) = true) : Sn m 0 (.str x) :=
  ⟨rfl, rfl, by show (PyData.shown (.str x)).length ≤ m; simp only [PyData.shown]; exact h1, Nat.le_refl 0, fun c hc => of_decide_eq_true (List.all_eq_true.1 h2 c (by
    have e : PyData.shown (.str x) = reprText x := by simp only [PyData.shown]
    rw [← e]; exact hc))⟩
theorem sn_dnil : Sn 2 1 (.dic [] []) := ⟨rfl, rfl, by show (PyData.shown (.dict [])).length ≤ 2; simp only [PyData.shown, PyData.shownKv]; decide, Nat.le_refl 1, by
  show Asc (PyData.shown (.dict []))
  simp only [PyData.shown, PyData.shownKv]
  unfold dictText
  exact asc_app (asc_app (asc_of _) (asc_join (asc_of _) fun x hx => nomatch hx)) (asc_of _)⟩
theorem sn_all {m k : Nat} : ∀ {l : List D}, (∀ d, d ∈ l → Sn m k d) → plxL l = true ∧ showBs (toPyL l) = true ∧ ((PyData.shownAll (toPyL l)).map (·.length)).sum ≤ l.length * m ∧ (PyData.shownAll (toPyL l)).length = l.length ∧ PyData.depthAll (toPyL l) ≤ k ∧ ∀ x, x ∈ PyData.shownAll (toPyL l) → Asc x
  | [], _ => by
    refine ⟨rfl, rfl, ?_, ?_, ?_, fun x hx => ?_⟩
    · simp [toPyL, PyData.shownAll]
    · simp [toPyL, PyData.shownAll]
    · simp [toPyL, PyData.depthAll]
    · simp [toPyL, PyData.shownAll] at hx
  | d :: l, h => by
    obtain ⟨i1, i2, i3, i4, i5, i6⟩ := sn_all fun x hx => h x (List.mem_cons_of_mem d hx)
    have a := h d List.mem_cons_self
    have al := a.l
    have ak := a.k
    refine ⟨?_, ?_, ?_, ?_, ?_, fun x hx => ?_⟩
    · simp only [plxL, Bool.and_eq_true]; exact ⟨a.p, i1⟩
    · simp only [toPyL, showBs, Bool.and_eq_true]; exact ⟨a.o, i2⟩
    · simp only [toPyL, PyData.shownAll, List.map_cons, List.sum_cons, List.length_cons, Nat.add_mul, Nat.one_mul]
      omega
    · simp only [toPyL, PyData.shownAll, List.length_cons]
      omega
    · simp only [toPyL, PyData.depthAll]
      omega
    · simp only [toPyL, PyData.shownAll, List.mem_cons] at hx
      rcases hx with rfl | hx
      · exact a.a
      · exact i6 x hx
theorem sn_row {m k j : Nat} {l : List D} (hl : l.length ≤ j) (h : ∀ d, d ∈ l → Sn m k d) : Sn (j * (m + 2) + 3) (k + 1) (.tup l) ∧ Sn (j * (m + 2) + 3) (k + 1) (.lst l) := by
  obtain ⟨i1, i2, i3, i4, i5, i6⟩ := sn_all h
  have m1 := Nat.mul_le_mul_right (m + 2) hl
  rw [Nat.mul_add l.length] at m1
  have t1 := tupleText_len_le (PyData.shownAll (toPyL l))
  have t2 := listText_len_le (PyData.shownAll (toPyL l))
  refine ⟨⟨i1, i2, ?_, Nat.succ_le_succ i5, ?_⟩, ⟨i1, i2, ?_, Nat.succ_le_succ i5, ?_⟩⟩
  · show (PyData.shown (.tuple (toPyL l))).length ≤ _
    simp only [PyData.shown]
    omega
  · show Asc (PyData.shown (.tuple (toPyL l)))
    simp only [PyData.shown]
    exact asc_tup i6
  · show (PyData.shown (.list (toPyL l))).length ≤ _
    simp only [PyData.shown]
    omega
  · show Asc (PyData.shown (.list (toPyL l)))
    simp only [PyData.shown]
    exact asc_lst i6
theorem Sn.ok {m k : Nat} {d : D} (h : Sn m k d) (hm : m ≤ 16777216) (hk : k ≤ 20) : okShB d := by
  have s0 : sizeLine = 16777216 := by decide
  exact ⟨h.p, h.o, by have := h.l; omega, by have := h.k; omega⟩
/-- a list of things and of one text -/
theorem sn_okL {m k j : Nat} {l : List D} {x : D} (hl : l.length ≤ j) (h : ∀ d, d ∈ l → Sn m k d) {n i : Nat} (hx : Sn n i x) (hm : j * (m + 2) + (10 * n + 2) + 10 ≤ 16777216) (hk : k ≤ 18) : okShB (.lst (l ++ [.str (txt x)])) := by
  obtain ⟨i1, i2, i3, i4, i5, i6⟩ := sn_all h
  have s0 : sizeLine = 16777216 := by decide
  have m1 := Nat.mul_le_mul_right (m + 2) hl
  rw [Nat.mul_add l.length] at m1
  have r := StrLaws.reprText_len (txt x) hx.a
  have xl : (txt x).length ≤ n := hx.l
  have e1 : ∀ l : List D, plxL l = true → plxL (l ++ [.str (txt x)]) = true := by
    intro l
    induction l with
    | nil => exact fun _ => rfl
    | cons d l ih =>
      intro z
      obtain ⟨z1, z2⟩ := Bool.and_eq_true_iff.1 (show (plx d && plxL l) = true from z)
      exact Bool.and_eq_true_iff.2 ⟨z1, ih z2⟩
  have e2 : ∀ l : List D, toPyL (l ++ [.str (txt x)]) = toPyL l ++ [.str (txt x)] := by
    intro l
    induction l with
    | nil => rfl
    | cons d l ih => show toPy d :: toPyL (l ++ _) = toPy d :: (toPyL l ++ _); rw [ih]
  have e3 : ∀ l : List PyData, showBs l = true → showBs (l ++ [.str (txt x)]) = true := by
    intro l
    induction l with
    | nil => exact fun _ => rfl
    | cons d l ih =>
      intro z
      obtain ⟨z1, z2⟩ := Bool.and_eq_true_iff.1 (show (showB d && showBs l) = true from z)
      exact Bool.and_eq_true_iff.2 ⟨z1, ih z2⟩
  have e4 : ∀ l : List PyData, PyData.shownAll (l ++ [.str (txt x)]) = PyData.shownAll l ++ [reprText (txt x)] := by
    intro l
    induction l with
    | nil => simp only [List.nil_append, PyData.shownAll, PyData.shown]
    | cons d l ih => simp only [List.cons_append, PyData.shownAll, ih]
  have e5 : ∀ l : List PyData, PyData.depthAll (l ++ [.str (txt x)]) = PyData.depthAll l := by
    intro l
    induction l with
    | nil => simp [PyData.depthAll, PyData.depth]
    | cons d l ih => simp only [List.cons_append, PyData.depthAll, ih]
  have t2 := listText_len_le (PyData.shownAll (toPyL l) ++ [reprText (txt x)])
  rw [List.map_append, List.sum_append, List.length_append] at t2
  simp only [List.map_cons, List.map_nil, List.sum_cons, List.sum_nil, List.length_cons, List.length_nil] at t2
  refine ⟨e1 l i1, ?_, ?_, ?_⟩
  · show showBs (toPyL (l ++ [.str (txt x)])) = true
    rw [e2]
    exact e3 _ i2
  · show (PyData.shown (.list (toPyL (l ++ [.str (txt x)])))).length ≤ _
    simp only [PyData.shown]
    rw [e2, e4]
    omega
  · show PyData.depthAll (toPyL (l ++ [.str (txt x)])) + 1 ≤ 20
    rw [e2, e5]
    omega
/-! ## what kind a thing is -/
def isT : D → Bool
  | .tup _ => true
  | _ => false
def isIB : D → Bool
  | .int _ => true
  | .bl _ => true
  | _ => false
def isB : D → Bool
  | .bl _ => true
  | _ => false
def isS : D → Bool
  | .str _ => true
  | _ => false
theorem ty_t0 : kitB "NoneType" "tuple" = some false ∧ kitB "bool" "tuple" = some false ∧ kitB "int" "tuple" = some false ∧ kitB "str" "tuple" = some false ∧ kitB "tuple" "tuple" = some true ∧ kitB "list" "tuple" = some false ∧ kitB "dict" "tuple" = some false := ⟨by kernel_rfl, by kernel_rfl, by kernel_rfl, by kernel_rfl, by kernel_rfl, by kernel_rfl, by kernel_rfl⟩
theorem ty_i0 : kitB "NoneType" "int" = some false ∧ kitB "bool" "int" = some true ∧ kitB "int" "int" = some true ∧ kitB "str" "int" = some false ∧ kitB "tuple" "int" = some false ∧ kitB "list" "int" = some false ∧ kitB "dict" "int" = some false := ⟨by kernel_rfl, by kernel_rfl, by kernel_rfl, by kernel_rfl, by kernel_rfl, by kernel_rfl, by kernel_rfl⟩
theorem ty_b0 : kitB "NoneType" "bool" = some false ∧ kitB "bool" "bool" = some true ∧ kitB "int" "bool" = some false ∧ kitB "str" "bool" = some false ∧ kitB "tuple" "bool" = some false ∧ kitB "list" "bool" = some false ∧ kitB "dict" "bool" = some false := ⟨by kernel_rfl, by kernel_rfl, by kernel_rfl, by kernel_rfl, by kernel_rfl, by kernel_rfl, by kernel_rfl⟩
theorem ty_s0 : kitB "NoneType" "str" = some false ∧ kitB "bool" "str" = some false ∧ kitB "int" "str" = some false ∧ kitB "str" "str" = some true ∧ kitB "tuple" "str" = some false ∧ kitB "list" "str" = some false ∧ kitB "dict" "str" = some false := ⟨by kernel_rfl, by kernel_rfl, by kernel_rfl, by kernel_rfl, by kernel_rfl, by kernel_rfl, by kernel_rfl⟩
theorem ty_tup {d : D} (h : plx d = true) : isTy d "tuple" = some (isT d) := by
  obtain ⟨h1, h2, h3, h4, h5, h6, h7⟩ := ty_t0
  cases d with
  | hd n => cases h
  | non => exact h1
  | bl b => exact h2
  | int i => exact h3
  | str s => exact h4
  | tup l => exact h5
  | lst l => exact h6
  | dic k l => exact h7
theorem ty_int {d : D} (h : plx d = true) : isTy d "int" = some (isIB d) := by
  obtain ⟨h1, h2, h3, h4, h5, h6, h7⟩ := ty_i0
  cases d with
  | hd n => cases h
  | non => exact h1
  | bl b => exact h2
  | int i => exact h3
  | str s => exact h4
  | tup l => exact h5
  | lst l => exact h6
  | dic k l => exact h7
theorem ty_bool {d : D} (h : plx d = true) : isTy d "bool" = some (isB d) := by
  obtain ⟨h1, h2, h3, h4, h5, h6, h7⟩ := ty_b0
  cases d with
  | hd n => cases h
  | non => exact h1
  | bl b => exact h2
  | int i => exact h3
  | str s => exact h4
  | tup l => exact h5
  | lst l => exact h6
  | dic k l => exact h7
theorem ty_str {d : D} (h : plx d = true) : isTy d "str" = some (isS d) := by
  obtain ⟨h1, h2, h3, h4, h5, h6, h7⟩ := ty_s0
  cases d with
  | hd n => cases h
  | non => exact h1
  | bl b => exact h2
  | int i => exact h3
  | str s => exact h4
  | tup l => exact h5
  | lst l => exact h6
  | dic k l => exact h7
theorem plx_mem {l : List D} (h : plxL l = true) : ∀ d, d ∈ l → plx d = true := by
  induction l with
  | nil => exact fun d z => nomatch z
  | cons a l ih =>
    obtain ⟨h1, h2⟩ := Bool.and_eq_true_iff.1 (show (plx a && plxL l) = true from h)
    intro d z
    rcases List.mem_cons.1 z with e | z
    · rw [e]; exact h1
    · exact ih h2 d z
theorem plx_all {l : List D} (h : ∀ d, d ∈ l → plx d = true) : plxL l = true := by
  induction l with
  | nil => rfl
  | cons a l ih => exact Bool.and_eq_true_iff.2 ⟨h a List.mem_cons_self, ih fun d z => h d (List.mem_cons_of_mem _ z)⟩
/-- an integer that is no bool -/
def whl : D → Bool
  | .int _ => true
  | _ => false
theorem whl_eq (d : D) : (isIB d && !isB d) = whl d := by cases d <;> rfl
/-- the first item that is none -/
def firB (w : Str) (bs : List Bool) : D := match bs.findIdx? (fun b => !b) with
  | none => .non
  | some i => .tup [.str w, .int i]
theorem if_and {p : Prop} {i1 i2 i3 : Decidable p} {r : Bool} {Q : C → Prop} {A : Prop} (q : Q (.sh (.bl (@decide p i1 && r)))) (h : p → Q (.sh (.bl r)) → A) : @ite Prop p i2 A (Q (.sh (.bl (@decide p i3)))) := by
  obtain rfl : i1 = i2 := Subsingleton.elim _ _
  obtain rfl : i1 = i3 := Subsingleton.elim _ _
  by_cases c : p
  · rw [decide_eq_true c, Bool.true_and] at q
    exact if_p c (h c q)
  · rw [decide_eq_false c, Bool.false_and] at q
    refine if_q c ?_
    rw [decide_eq_false c]
    exact q
theorem if_andF {p : Prop} {i1 i2 : Decidable p} {r : Bool} {Q : C → Prop} {A : Prop} (q : Q (.sh (.bl (@decide p i1 && r)))) (h : p → Q (.sh (.bl r)) → A) : @ite Prop p i2 A (Q (.sh (.bl false))) := by
  obtain rfl : i1 = i2 := Subsingleton.elim _ _
  by_cases c : p
  · rw [decide_eq_true c, Bool.true_and] at q
    exact if_p c (h c q)
  · rw [decide_eq_false c, Bool.false_and] at q
    exact if_q c q
theorem if_andB {x : Bool} {i : Decidable (x = true)} {r : Bool} {Q : C → Prop} {A : Prop} (q : Q (.sh (.bl (x && r)))) (h : x = true → Q (.sh (.bl r)) → A) : @ite Prop (x = true) i A (Q (.sh (.bl x))) := by
  cases x with
  | true => exact if_p rfl (h rfl q)
  | false => exact if_q (fun z => nomatch z) q
theorem ite_tt {p : Prop} {i : Decidable p} : @ite Prop p i True True := by
  by_cases c : p
  · exact if_p c trivial
  · exact if_q c trivial
theorem at0 {x : D} {l : List D} : atI (x :: l) 0 = some x := atI0 _ _
theorem at1 {x y : D} {l : List D} : atI (x :: y :: l) 1 = some y := by
  unfold atI ixN
  rw [if_pos (by decide), if_pos (by simp only [List.length_cons]; omega)]
  rfl
theorem at2 {x y z : D} {l : List D} : atI (x :: y :: z :: l) 2 = some z := by
  unfold atI ixN
  rw [if_pos (by decide), if_pos (by simp only [List.length_cons]; omega)]
  rfl
theorem plx2 {x y : D} (h : plx (.tup [x, y]) = true) : plx x = true ∧ plx y = true := ⟨plx_mem h x (by simp), plx_mem h y (by simp)⟩
theorem plx3 {x y z : D} (h : plx (.tup [x, y, z]) = true) : plx x = true ∧ plx y = true ∧ plx z = true := ⟨plx_mem h x (by simp), plx_mem h y (by simp), plx_mem h z (by simp)⟩
def wholeB (lo hi : Int) : D → Bool
  | .int i => decide (lo ≤ i) && decide (i ≤ hi)
  | _ => false
theorem whole_int {a b : Int} {x : D} (h : wholeB a b x = true) : ∃ i, x = .int i ∧ a ≤ i ∧ i ≤ b := by
  cases x with
  | int i =>
    obtain ⟨h1, h2⟩ := Bool.and_eq_true_iff.1 (show (decide (a ≤ i) && decide (i ≤ b)) = true from h)
    exact ⟨i, rfl, of_decide_eq_true h1, of_decide_eq_true h2⟩
  | _ => cases h
theorem whl_int {x : D} (h : whl x = true) : ∃ i, x = .int i := by
  cases x with
  | int i => exact ⟨i, rfl⟩
  | _ => cases h
theorem firB_none {w : Str} {bs : List Bool} (h : bs.findIdx? (fun b => !b) = none) : firB w bs = .non := by unfold firB; rw [h]
theorem firB_some {w : Str} {bs : List Bool} {i : Nat} (h : bs.findIdx? (fun b => !b) = some i) : firB w bs = .tup [.str w, .int i] := by unfold firB; rw [h]
/-- by all places that are none -/
theorem firB_range (w : Str) (bs : List Bool) : firB w bs = match (List.range bs.length).filter (fun i => !(bs.getD i true)) with
    | [] => .non
    | a :: _ => .tup [.str w, .int a] := by
  cases e : (List.range bs.length).filter (fun i => !(bs.getD i true)) with
  | nil =>
    refine firB_none ?_
    rw [List.findIdx?_eq_none_iff]
    intro b hb
    obtain ⟨i, hi, rfl⟩ := List.getElem_of_mem hb
    have := List.filter_eq_nil_iff.1 e i (List.mem_range.2 hi)
    rw [List.getD_eq_getElem?_getD, List.getElem?_eq_getElem hi] at this
    simpa using this
  | cons a t =>
    refine firB_some ?_
    have hm : a ∈ (List.range bs.length).filter (fun i => !(bs.getD i true)) := by rw [e]; exact List.mem_cons_self
    obtain ⟨h1, h2⟩ := List.mem_filter.1 hm
    have h1 := List.mem_range.1 h1
    rw [List.findIdx?_eq_some_iff_getElem]
    refine ⟨h1, ?_, fun j hj => ?_⟩
    · rw [List.getD_eq_getElem?_getD, List.getElem?_eq_getElem h1] at h2
      simpa using h2
    · have jl : j < bs.length := by omega
      have pw : ((List.range bs.length).filter (fun i => !(bs.getD i true))).Pairwise (· < ·) := (List.pairwise_lt_range).filter _
      rw [e] at pw
      cases hb : bs[j] with
      | true => exact fun z => nomatch z
      | false =>
        have jm : j ∈ (List.range bs.length).filter (fun i => !(bs.getD i true)) := List.mem_filter.2 ⟨List.mem_range.2 jl, by rw [List.getD_eq_getElem?_getD, List.getElem?_eq_getElem jl, hb]; rfl⟩
        rw [e] at jm
        rcases List.mem_cons.1 jm with z | z
        · omega
        · have := (List.pairwise_cons.1 pw).1 j z
          omega
theorem asc_char {q c : Nat} (hq : q < 16 ^ 8) (hc : c < 16 ^ 8) : ∀ d, d ∈ Builtin.Str.reprChar q c → d < 16 ^ 8 := by
  have hex : ∀ (n : Nat) (d : Nat), d ∈ List.replicate n 48 ++ (Nat.toDigits 16 c).map Char.toNat → d < 16 ^ 8 := fun n d h => by
    rcases List.mem_append.1 h with h | h
    · rw [List.eq_of_mem_replicate h]; decide
    · obtain ⟨ch, _, rfl⟩ := List.mem_map.1 h
      exact Nat.lt_of_lt_of_le ch.val.toNat_lt (by decide)
  intro d hd
  unfold Builtin.Str.reprChar at hd
  dsimp only at hd
  repeat' split at hd
  all_goals first
    | (simp only [List.mem_cons, List.not_mem_nil, or_false] at hd; rcases hd with rfl | rfl <;> first | assumption | decide)
    | (simp only [List.mem_cons, List.not_mem_nil, or_false] at hd; rw [hd]; exact hc)
    | (rcases List.mem_append.1 hd with h | h
       · simp only [List.mem_cons, List.not_mem_nil, or_false] at h
         rcases h with rfl | rfl <;> decide
       · exact hex _ d h)
theorem asc_fold {q : Nat} (hq : q < 16 ^ 8) : ∀ (l : List Nat) (acc : Array Nat), (∀ c, c ∈ acc.toList → c < 16 ^ 8) → (∀ c, c ∈ l → c < 16 ^ 8) → ∀ c, c ∈ (l.foldl (fun out c => out ++ (Builtin.Str.reprChar q c).toArray) acc).toList → c < 16 ^ 8
  | [], acc, h, _ => h
  | c :: l, acc, h, k => by
    rw [List.foldl_cons]
    refine asc_fold hq l _ (fun d hd => ?_) fun d hd => k d (List.mem_cons_of_mem _ hd)
    rw [Array.toList_append] at hd
    rcases List.mem_append.1 hd with hd | hd
    · exact h d hd
    · exact asc_char hq (k c List.mem_cons_self) d (by simpa using hd)
theorem asc_repr {x : Str} (h : Asc x) : Asc (reprText x) := by
  have hq : reprQuote x < 16 ^ 8 := by
    unfold reprQuote
    split <;> decide
  intro c hc
  unfold reprText at hc
  dsimp only at hc
  rw [Array.toList_push] at hc
  rcases List.mem_append.1 hc with hc | hc
  · rw [← Array.foldl_toList] at hc
    exact asc_fold hq _ _ (fun d hd => by
      have : d = reprQuote x := by simpa using hd
      rw [this]; exact hq) h c hc
  · rw [List.mem_singleton.1 hc]; exact hq
theorem sn_strA {x : Str} {n : Nat} (h : Asc x) (hl : x.length ≤ n) : Sn (10 * n + 2) 0 (.str x) := by
  have r := StrLaws.reprText_len x h
  exact ⟨rfl, rfl, by show (PyData.shown (.str x)).length ≤ _; simp only [PyData.shown]; omega, Nat.le_refl 0, by show Asc (PyData.shown (.str x)); simp only [PyData.shown]; exact asc_repr h⟩
theorem Sn.txt {m k : Nat} {d : D} (h : Sn m k d) : Sn (10 * m + 2) 0 (.str (B.txt d)) := sn_strA h.a h.l
theorem sn_strO {n : Nat} (s : String) (h : s.length ≤ n) : Sn (10 * n + 2) 0 (.str (Str.ofString s)) := sn_strA (asc_of s) (by
  have e : (Str.ofString s).length = s.length := ofString_length s
  omega)
theorem sn_toS {b : Nat} {i : Int} (h : i.natAbs < 2 ^ b) (h0 : 0 < b) (h1 : b ≤ 12900) : Sn (10 * (b + 1) + 2) 0 (.str (toString i)) := by
  have a := sn_int h h0 h1
  have e : (toPy (.int i)).shown = Str.ofString (toString i) := by show PyData.shown (.int i) = _; simp only [PyData.shown]
  have l := a.l
  rw [e] at l
  exact sn_strA (asc_of (toString i)) l
abbrev Th (d : D) : Prop := Sn 2000 3 d
/-! how long the things are -/
abbrev At (d : D) : Prop := Sn 211 0 d
theorem at_i {i : Int} (h : i.natAbs < 2 ^ 210) : At (.int i) := sn_int h (by decide) (by decide)
theorem at_s {i : Int} (h : i.natAbs ≤ 1000000) : At (.int i) := at_i (Nat.lt_of_le_of_lt h (by decide))
theorem th_a {d : D} (h : At d) : Th d := h.up (by decide) (by decide)
theorem th_t {l : List D} (hl : l.length ≤ 4) (h : ∀ d, d ∈ l → At d) : Th (.tup l) := (sn_row hl h).1.up (by decide) (by decide)
theorem th_l {l : List D} (hl : l.length ≤ 4) (h : ∀ d, d ∈ l → At d) : Th (.lst l) := (sn_row hl h).2.up (by decide) (by decide)
/-- rows of rows of small ones -/
theorem th_tt {l : List D} (hl : l.length ≤ 4) (h : ∀ d, d ∈ l → Sn 400 1 d) : Th (.tup l) := (sn_row hl h).1.up (by decide) (by decide)
theorem th_tl {l : List D} (hl : l.length ≤ 4) (h : ∀ d, d ∈ l → Sn 400 1 d) : Th (.lst l) := (sn_row hl h).2.up (by decide) (by decide)
theorem sm_i {i : Int} (h : i.natAbs < 2 ^ 20) : Sn 21 0 (.int i) := sn_int h (by decide) (by decide)
theorem sm_t {l : List D} (hl : l.length ≤ 4) (h : ∀ d, d ∈ l → Sn 21 0 d) : Sn 400 1 (.tup l) ∧ Sn 400 1 (.lst l) := ⟨(sn_row hl h).1.up (by decide) (by decide), (sn_row hl h).2.up (by decide) (by decide)⟩
theorem all_c {p : D → Prop} {x : D} {l : List D} (h : p x) (k : ∀ d, d ∈ l → p d) : ∀ d, d ∈ x :: l → p d := List.forall_mem_cons.2 ⟨h, k⟩
theorem all_n {p : D → Prop} : ∀ d, d ∈ ([] : List D) → p d := fun _ h => nomatch h
theorem all_a {p : D → Prop} {l m : List D} (h : ∀ d, d ∈ l → p d) (k : ∀ d, d ∈ m → p d) : ∀ d, d ∈ l ++ m → p d := fun d hd => (List.mem_append.1 hd).elim (h d) (k d)
theorem le_b {a b : Nat} (h : Nat.ble a b = true) : a ≤ b := Nat.le_of_ble_eq_true h
theorem smm0 {d : D} (h : Sn 21 0 d) : Sn 400 1 d := h.up (by decide) (by decide)
theorem ifnf {x : Bool} {i1 : Decidable ((!x) = false)} {i2 : Decidable ((!x) = true)} {A B C : Prop} (ht : x = true → A) (hf : x = false → B) : @ite Prop ((!x) = false) i1 A (@ite Prop ((!x) = true) i2 B C) := by
  cases x with
  | true => exact if_p rfl (ht rfl)
  | false => exact if_q (fun z => nomatch z) (if_p rfl (hf rfl))
theorem ifnt {x : Bool} {i : Decidable ((!x) = true)} {A B : Prop} (hf : x = false → B) (ht : x = true → A) : @ite Prop ((!x) = true) i B A := by
  cases x with
  | true => exact if_q (fun z => nomatch z) (ht rfl)
  | false => exact if_p rfl (hf rfl)
theorem ifbt {x : Bool} {i : Decidable (x = true)} {A B : Prop} (ht : x = true → A) (hf : x = false → B) : @ite Prop (x = true) i A B := by
  cases x with
  | true => exact if_p rfl (ht rfl)
  | false => exact if_q (fun z => nomatch z) (hf rfl)
/-! the first that is none, one after the other -/
def Up (p : D → Bool) (l : List D) (i : Nat) : Prop := ∀ k d, k < i → l[k]? = some d → p d = true
theorem up_succ {p : D → Bool} {l : List D} {j : Nat} {d : D} (h : Up p l j) (hd : l[j]? = some d) (hp : p d = true) : Up p l (j + 1) := by
  intro k e hk he
  rcases Nat.lt_or_ge k j with z | z
  · exact h k e z he
  · obtain rfl : k = j := by omega
    rw [hd] at he
    cases he
    exact hp
theorem up_at {p : D → Bool} {l : List D} {j : Nat} {d : D} {w : Str} (h : Up p l j) (hd : l[j]? = some d) (hp : p d = false) : firB w (l.map p) = .tup [.str w, .int j] := by
  refine firB_some ?_
  obtain ⟨jl, e⟩ := List.getElem?_eq_some_iff.1 hd
  rw [List.findIdx?_eq_some_iff_getElem]
  refine ⟨by rw [List.length_map]; exact jl, ?_, fun k hk => ?_⟩
  · rw [List.getElem_map, e, hp]; rfl
  · rw [List.getElem_map, h k l[k] hk (List.getElem?_eq_getElem _)]; decide
theorem up_end {p : D → Bool} {l : List D} {w : Str} (h : Up p l l.length) : firB w (l.map p) = .non := by
  refine firB_none ?_
  rw [List.findIdx?_eq_none_iff]
  intro b hb
  obtain ⟨d, hd, rfl⟩ := List.mem_map.1 hb
  obtain ⟨i, hi, e⟩ := List.getElem_of_mem hd
  rw [h i d hi (by rw [List.getElem?_eq_getElem hi, e])]
  rfl
theorem enum_at {l : List D} {j : Nat} {d : D} (h : (enumD 0 l)[j]? = some d) : ∃ x, l[j]? = some x ∧ d = .tup [.int j, x] := by
  obtain ⟨x, h1, h2⟩ := enumD_get 0 l j d h
  exact ⟨x, h1, by rw [h2, Nat.zero_add]⟩
end B

namespace B
open PySem PySem.Spec L2
theorem dp_ints {K : PySem.W.Frag} {H : Hp} : ∀ ns : List Int, DpAll K H (ns.map V.int) (ns.map PyData.int)
  | [] => .nil
  | n :: ns => .cons (.int n) (dp_ints ns)
theorem lay_ints : ∀ ns : List Int, PyData.canLayAll0 (ns.map PyData.int) = true
  | [] => rfl
  | n :: ns => by show (true && PyData.canLayAll0 (ns.map PyData.int)) = true; rw [lay_ints ns]; rfl
theorem depth_ints : ∀ ns : List Int, PyData.depthAll (ns.map PyData.int) ≤ 1
  | [] => by decide
  | n :: ns => by
    have := depth_ints ns
    show max (PyData.depth (.int n)) (PyData.depthAll (ns.map PyData.int)) ≤ 1
    have e : PyData.depth (.int n) ≤ 1 := Nat.zero_le _
    omega
theorem shaped_ints (ns : List Int) : SeqAt.shaped (.list (ns.map PyData.int)) = true := by
  have h1 := lay_ints ns
  have h2 := depth_ints ns
  unfold SeqAt.shaped
  rw [Bool.and_eq_true]
  refine ⟨h1, decide_eq_true ?_⟩
  show PyData.depthAll (ns.map PyData.int) + 1 ≤ 64
  omega
theorem sizeL0 : sizeLine = 16777216 := by decide
theorem nosl_str {z : Str} {j : Nat} {p : Pos} : NoSl (.Constant (.str z) j p) := fun _ _ => rfl
theorem small_bits {n : Int} (h0 : 0 ≤ n) (h1 : n < 2305843009213693952) : Builtin.Int.intBits n ≤ 64 := by
  unfold Builtin.Int.intBits
  split
  · omega
  · rename_i h
    have hne : n.natAbs ≠ 0 := by
      intro z
      have : n = 0 := by omega
      rw [this] at h
      exact h rfl
    have := (Nat.log2_lt (n := n.natAbs) (k := 61) hne).mpr (by omega)
    omega
abbrev rAdd : R2 := rI0 fun i j => .int (i + j)
abbrev rMulA : R2 := rI IntMulOk fun i j => .int (i * j)
abbrev rFdW : R2 := rI CDivW fun i j => .int (i / j)
abbrev rModA : R2 := rI (fun _ j => 0 < j) fun i j => .int (i % j)
abbrev rInt1 : List V → Hp → VK → Prop := fun xs H Q => (∃ i, xs = [.int i] ∧ Q (.int i) H) ∨ ∃ k, xs = [.bl k] ∧ Q (.int (if k then 1 else 0)) H
abbrev rAbs : List V → Hp → VK → Prop := fun xs H Q => ∃ i, xs = [.int i] ∧ Q (.int (if i < 0 then -i else i)) H
abbrev tInt (t : TE) : TE := tCB rInt1 (tCons t tNil)
abbrev tAbs (t : TE) : TE := tCB rAbs (tCons t tNil)
abbrev tKey (i : Nat) (z : Str) : TE := tDGet (tVar i) (tC (.str z))
abbrev rLt : R2 := rI0 fun i j => .bl (decide (i < j))
abbrev rGe : R2 := rI0 fun i j => .bl (decide (j ≤ i))

/-- what a draw says -/
def spDraw : Sp := fun vs H Q _ => ∃ (p d : Addr) (many : Int), vs = [.ref p, .int many] ∧ DeckAt p d H ∧ 0 < many ∧ many.natAbs.log2 < 9000 ∧
  ∀ (r : Int) (H' : Hp), 0 ≤ r → r < many → DeckAt p d H' → (∀ b o, b ≠ p → b ≠ d → H b = some o → H' b = some o) → Q (.int r) H'
def t_draw (K : PySem.W.Frag) : TS :=
  tSeq (tIfS (tTest (tOp rLt (tVar 1) (tC (.int 2)))) (tRet (tC (.int 0))) tNext)
  (tSeq (tIfS (tTest (tOp (rNeD K) (tKey 0 "deep") (tLst tNil)))
    (tSeq (tAsg (tBM0 K "list" rPop (tKey 0 "deep")) (gName 2))
    (tSeq (tIfS (tTest (tOp rGe (tVar 2) (tVar 1))) (tDrop (tBM K "list" rAppend (tKey 0 "deep") (tCons (tOp rFdW (tVar 2) (tVar 1)) tNil))) tNext)
    (tRet (tOp rModA (tInt (tVar 2)) (tVar 1))))) tNext)
  (tSeq (tAsg (tOp rModA (tInt (tOp rAdd (tOp rMulA (tKey 0 "state") (tC (.int 1181783497276652981))) (tC (.int 88172645463325)))) (tC (.int 2305843009213693951))) (gName 3))
  (tSeq (sDPut (tVar 0) (tC (.str "state")) (tVar 3))
  (tSeq (tAsg (tOp rModA (tInt (tOp rAdd (tOp rAdd (tOp rMulA (tVar 3) (tVar 3)) (tOp rMulA (tC (.int 374761393)) (tVar 3))) (tC (.int 11)))) (tC (.int 2305843009213693921))) (gName 4))
  (tRet (tOp rModA (tInt (tOp rFdW (tVar 4) (tC (.int 1048576)))) (tVar 1)))))))
theorem draw_pure {K : PySem.W.Frag} {x1 x2 x3 x4 x5 : Str} {vs : List V} {H : Hp} {Q : VK} {E : XK} (h : spDraw vs H Q E) : t_draw K { nx := fun _ H' => Q .non H', rt := Q } (L2.start [x1, x2, x3, x4, x5] vs) H := by
  obtain ⟨p, d, many, rfl, ⟨n1, ds, st, h1, h2, h5, h6, h7⟩, hm0, hm1, k⟩ := h
  refine ⟨_, rfl, many, 2, rfl, rfl, _, rfl, ?_⟩
  by_cases hm : many < 2
  · rw [decide_eq_true hm]
    exact k 0 H (by omega) hm0 ⟨n1, ds, st, h1, h2, h5, h6, h7⟩ fun b o _ _ e => e
  rw [decide_eq_false hm]
  refine ⟨.ref p, rfl, p, .ref d, rfl, DGet.k (k := .inr "deep") h1, ?_⟩
  refine ⟨by decide, fun q hq => ?_⟩
  have nd : q ≠ d := fun z => by rw [z, h2] at hq; cases hq
  have np : q ≠ p := fun z => by rw [z, h1] at hq; cases hq
  have g1 : upd H q (.lst []) p = _ := (upd_ne (Ne.symm np)).trans h1
  have g2 : upd H q (.lst []) d = _ := (upd_ne (Ne.symm nd)).trans h2
  have gout : ∀ b o, H b = some o → upd H q (.lst []) b = some o := fun b o hb => by rw [upd_ne (fun z => by rw [z, hq] at hb; cases hb)]; exact hb
  refine ⟨.list (ds.map PyData.int), .list [], .lst (SqL.of g2) (dp_ints ds), .lst (SqL.of upd_same) .nil, shaped_ints ds, shaped_ints [], _, rfl, ?_⟩
  generalize upd H q (.lst []) = H1 at g1 g2 gout ⊢
  by_cases hd : ds = []
  · subst hd
    refine ⟨.ref p, rfl, p, .int st, rfl, DGet.k (k := .inr "state") g1, st, 1181783497276652981, rfl, rfl, IntMulOk.of_right (by decide), _, _, rfl, rfl, .inl ⟨_, rfl, _, 2305843009213693951, rfl, rfl, (by decide : (0 : Int) < 2305843009213693951), ?_⟩⟩
    have o0 := Int.emod_nonneg (st * 1181783497276652981 + 88172645463325) (show (2305843009213693951 : Int) ≠ 0 by decide)
    have o1 := Int.emod_lt_of_pos (st * 1181783497276652981 + 88172645463325) (show (0 : Int) < 2305843009213693951 by decide)
    refine ⟨_, rfl, .ref p, rfl, p, _, rfl, DPut.k (k := .inr "state") g1 (show 2 < sizeLine by decide), ?_⟩
    refine ⟨_, rfl, _, rfl, _, _, rfl, rfl, IntMulOk.of_left (small_bits o0 (by omega)), _, rfl, 374761393, _, rfl, rfl, IntMulOk.of_left (by decide), _, _, rfl, rfl, _, 11, rfl, rfl, .inl ⟨_, rfl, _, 2305843009213693921, rfl, rfl, (by decide : (0 : Int) < 2305843009213693921), ?_⟩⟩
    refine ⟨_, rfl, _, 1048576, rfl, rfl, ⟨by decide, by decide +kernel⟩, .inl ⟨_, rfl, .int many, rfl, _, _, rfl, rfl, hm0, ?_⟩⟩
    exact k _ _ (Int.emod_nonneg _ (by omega)) (Int.emod_lt_of_pos _ hm0) ⟨n1, [], _, upd_same, (upd_ne (Ne.symm n1)).trans g2, h5, o0, o1⟩ fun b o z1 z2 e => by rw [upd_ne z1]; exact gout b o e
  · have hd' : (!PyData.eqv (.list (ds.map PyData.int)) (.list [])) = true := by
      cases ds with
      | nil => exact absurd rfl hd
      | cons _ _ => rfl
    rw [hd']
    obtain ⟨own, hown⟩ : ∃ own, ds[ds.length - 1]? = some own := by
      have : ds.length ≠ 0 := fun z => hd (List.length_eq_zero_iff.mp z)
      exact ⟨_, List.getElem?_eq_getElem (by omega)⟩
    refine ⟨.ref p, rfl, p, .ref d, rfl, DGet.k (k := .inr "deep") g1, .inl ⟨rfl, _, SqL.of g2⟩, d, _, .int own, rfl, rfl, g2, by rw [List.length_map, List.getElem?_map, hown]; rfl, ?_⟩
    have hdl : (ds.map V.int).dropLast = ds.dropLast.map V.int := by rw [List.map_dropLast]
    rw [hdl]
    have e1 : upd H1 d (.lst (ds.dropLast.map V.int)) p = _ := (upd_ne n1).trans g1
    have e2 : upd H1 d (.lst (ds.dropLast.map V.int)) d = _ := upd_same
    have eo : ∀ b o, b ≠ p → b ≠ d → H b = some o → upd H1 d (.lst (ds.dropLast.map V.int)) b = some o := fun b o _ z e => by rw [upd_ne z]; exact gout b o e
    have hdn : ds.dropLast.length + 1 ≤ ds.length := by
      rw [List.length_dropLast]
      have : ds.length ≠ 0 := fun z => hd (List.length_eq_zero_iff.mp z)
      omega
    generalize upd H1 d (.lst (ds.dropLast.map V.int)) = H2 at e1 e2 eo ⊢
    have fin : ∀ (es : List Int) (H3 : Hp), es.length < sizeLine → H3 p = some (.dK (deckKv d st)) → H3 d = some (.lst (es.map V.int)) → (∀ b o, b ≠ p → b ≠ d → H b = some o → H3 b = some o) →
        tRet (tOp rModA (tInt (tVar 2)) (tVar 1)) { nx := fun _ H' => Q .non H', rt := Q } [some (.ref p), some (.int many), some (.int own), none, none] H3 := fun es H3 hl f1 f2 fo =>
      ⟨.int own, rfl, .inl ⟨_, rfl, .int many, rfl, _, _, rfl, rfl, hm0, k _ _ (Int.emod_nonneg _ (by omega)) (Int.emod_lt_of_pos _ hm0) ⟨n1, es, st, f1, f2, hl, h6, h7⟩ fo⟩⟩
    refine ⟨.int own, rfl, .int many, rfl, own, many, rfl, rfl, _, rfl, ?_⟩
    by_cases ho : many ≤ own
    · rw [decide_eq_true ho]
      refine ⟨.ref p, rfl, p, .ref d, rfl, DGet.k (k := .inr "deep") e1, .inl ⟨rfl, _, SqL.of e2⟩, .int own, rfl, .int many, rfl, own, many, rfl, rfl, ⟨hm0, hm1⟩, d, _, _, rfl, rfl, e2, by rw [List.length_map]; omega, ?_⟩
      refine fin (ds.dropLast ++ [own / many]) _ (by rw [List.length_append, List.length_singleton]; omega) ((upd_ne n1).trans e1) (upd_same.trans (by rw [List.map_append]; rfl)) fun b o z1 z2 e => by rw [upd_ne z2]; exact eo b o z1 z2 e
    · rw [decide_eq_false ho]
      exact fin ds.dropLast _ (by omega) e1 e2 eo
def drawS : Spec := fun ds Q => ∃ many : Int, ds = [.hd 0, .int many] ∧ 0 < many ∧ many.natAbs.log2 < 9000 ∧ ∀ r : Int, 0 ≤ r → r < many → Q (.sh (.int r))
theorem draw_val {K : PySem.W.Frag} {vs : List V} {H : Hp} {Q : VK} {E : XK} (h : spD K 2 drawS vs H Q E) : spDraw vs H Q E := by
  obtain ⟨G, Hv, F, ds, hK, hS, r, _, many, rfl, m0, m1, q⟩ := h
  cases r with
  | cons r1 r2 =>
    cases r2 with
    | cons r2 r3 =>
      cases r3
      cases r1
      cases r2
      obtain ⟨d, hD, hF⟩ := hS.dk
      refine ⟨G.ad 0, d, many, rfl, hD, m0, m1, fun r H' r0 r1 hD' ho => q r r0 r1 (.int r) H' Hv F ⟨fun b o e => ?_, Same.refl _, fun b o e => ?_, ⟨d, hD', hF⟩, fun b hb => ⟨(hS.dkv b hb).1, Dk_some ⟨d, hD', hF⟩ b hb⟩⟩ (.int r)⟩
      · have nF : ¬ F b := fun z => by rw [(hS.dkv b z).1] at e; cases e
        rw [hF] at nF
        exact ho b o (fun z => nF (.inl z)) (fun z => nF (.inr z)) (hS.sub _ _ e)
      · obtain ⟨h1, h2, h3⟩ := of_hid e
        have nF := h2
        rw [hF] at nF
        exact ⟨ho b o (fun z => nF (.inl z)) (fun z => nF (.inr z)) h3, h1, h2⟩

/-! the deck is made -/
abbrev rPowI : R2 := rI CPow fun i j => .int (i ^ j.toNat)
abbrev tSlice (K : PySem.W.Frag) : TE := tSl (rSlL K) (tVar 0) tNoPart (tPart (tC (.int 63)))
abbrev tPutDeep (t : TE) : TS := sDPut (tVar 1) (tC (.str "deep")) (tOp rCat (tLst (tCons t tNil)) (tKey 1 "deep"))
def t_start (K : PySem.W.Frag) (ts : TE) : TS := tAsg (tDisp [(tC (.str "deep"), tLst tNil), (tC (.str "state"), tOp rAdd ts (tCB (L2.rLen K) (tCons (tSlice K) tNil)))]) (gName 1)
def t_bodyA (c1 c2 : Int) : TS :=
  tSeq (tAsg (tAbs (tVar 2)) (gName 3))
  (tSeq (tIfS (tTest (tOp rGe (tVar 3) (tOp rPowI (tC (.int 10)) (tC (.int 18))))) (tPutDeep (tVar 3)) tNext)
  (tSeq (tAsg (tOp rAdd (tOp rMulA (tOp rAdd (tOp rAdd (tOp rAdd (tKey 1 "state") (tOp rMulA (tC (.int 2)) (tVar 3))) (tInt (tOp rLt (tVar 2) (tC (.int 0))))) (tC (.int 1))) (tC (.int c1))) (tC (.int c2))) (gName 4))
  (sDPut (tVar 1) (tC (.str "state")) (tOp rModA (tInt (tVar 4)) (tC (.int 2305843009213693951))))))
def t_bodyD (c1 c2 : Int) : TS :=
  tSeq (tIfS (tTest (tOp rGe (tAbs (tVar 2)) (tOp rPowI (tC (.int 10)) (tC (.int 18))))) (tPutDeep (tAbs (tVar 2))) tNext)
  (tSeq (tAsg (tOp rAdd (tOp rMulA (tC (.int 2)) (tAbs (tVar 2))) (tInt (tOp rLt (tVar 2) (tC (.int 0))))) (gName 3))
  (sDPut (tVar 1) (tC (.str "state")) (tOp rModA (tInt (tOp rAdd (tOp rMulA (tOp rAdd (tOp rAdd (tKey 1 "state") (tVar 3)) (tC (.int 1))) (tC (.int c1))) (tC (.int c2)))) (tC (.int 2305843009213693951)))))
def t_deck (K : PySem.W.Frag) (ts : TE) (b : TS) : TS := tSeq (t_start K ts) (tSeq (tFor (iList K (tSlice K)) (gName 2) b) (tRet (tVar 1)))
/-- while it is made: the deck at p, what is walked at q -/
def DI (p q : Addr) (ms : List Int) (i : Nat) (H : Hp) : Prop := ∃ (d : Addr) (ds : List Int) (st : Int), p ≠ d ∧ q ≠ d ∧ p ≠ q ∧ H p = some (.dK (deckKv d st)) ∧ H d = some (.lst (ds.map V.int)) ∧ ds.length ≤ i ∧ (0 ≤ st ∧ st < 2305843009213693951) ∧ H q = some (.lst (ms.map V.int))
theorem put_deep {p q : Addr} {ms : List Int} {i : Nat} {H : Hp} {σ : St} {D : Ends} {t : TE} {w : Int} (hI : DI p q ms i H) (hi : i < 1000) (hp : σ[1]? = some (some (.ref p))) (ht : ∀ R : VK, R (.int w) H → t σ H R) (k : ∀ H', DI p q ms (i + 1) H' → D.nx σ H') : tPutDeep t D σ H := by
  obtain ⟨d, ds, st, n1, n2, n3, h1, h2, h3, h4, h5⟩ := hI
  refine ht _ ⟨(by decide : 1 ≤ sizeLine), fun l1 hl1 => ?_⟩
  have a1 : l1 ≠ p := fun z => by rw [z, h1] at hl1; cases hl1
  have a2 : l1 ≠ d := fun z => by rw [z, h2] at hl1; cases hl1
  have a3 : l1 ≠ q := fun z => by rw [z, h5] at hl1; cases hl1
  have g1 : upd H l1 (.lst [.int w]) p = _ := (upd_ne (Ne.symm a1)).trans h1
  have g2 : upd H l1 (.lst [.int w]) d = _ := (upd_ne (Ne.symm a2)).trans h2
  have g3 : upd H l1 (.lst [.int w]) q = _ := (upd_ne (Ne.symm a3)).trans h5
  have g4 : upd H l1 (.lst [.int w]) l1 = _ := upd_same
  generalize upd H l1 (.lst [.int w]) = H1 at g1 g2 g3 g4 ⊢
  refine ⟨.ref p, hp, p, .ref d, rfl, DGet.k (k := .inr "deep") g1, l1, d, _, _, rfl, rfl, g4, g2, ?_, fun l2 hl2 => ?_⟩
  · rw [List.length_map, sizeL0]
    show 1 + ds.length ≤ 16777216
    omega
  have b1 : l2 ≠ p := fun z => by rw [z, g1] at hl2; cases hl2
  have b3 : l2 ≠ q := fun z => by rw [z, g3] at hl2; cases hl2
  have f1 : upd H1 l2 (.lst ([V.int w] ++ ds.map V.int)) p = _ := (upd_ne (Ne.symm b1)).trans g1
  have f3 : upd H1 l2 (.lst ([V.int w] ++ ds.map V.int)) q = _ := (upd_ne (Ne.symm b3)).trans g3
  have f4 : upd H1 l2 (.lst ([V.int w] ++ ds.map V.int)) l2 = _ := upd_same
  generalize upd H1 l2 (.lst ([V.int w] ++ ds.map V.int)) = H2 at f1 f3 f4 ⊢
  refine ⟨.ref p, hp, p, _, rfl, DPut.k (k := .inr "deep") f1 (show 2 < sizeLine by decide), k _ ⟨l2, w :: ds, st, Ne.symm b1, Ne.symm b3, n3, upd_same, (upd_ne b1).trans f4, ?_, h4, (upd_ne (Ne.symm n3)).trans f3⟩⟩
  rw [List.length_cons]
  omega
theorem put_state {p q : Addr} {ms : List Int} {i : Nat} {H : Hp} {σ : St} {D : Ends} {t : TE} (hI : DI p q ms i H) (hp : σ[1]? = some (some (.ref p))) (ht : ∀ R : VK, (∀ s : Int, R (.int s) H) → t σ H R) (k : ∀ H', DI p q ms i H' → D.nx σ H') :
    sDPut (tVar 1) (tC (.str "state")) (tOp rModA (tInt t) (tC (.int 2305843009213693951))) D σ H := by
  obtain ⟨d, ds, st, n1, n2, n3, h1, h2, h3, h4, h5⟩ := hI
  refine ht _ fun s => .inl ⟨s, rfl, _, 2305843009213693951, rfl, rfl, (by decide : (0 : Int) < 2305843009213693951), ?_⟩
  refine ⟨.ref p, hp, p, _, rfl, DPut.k (k := .inr "state") h1 (show 2 < sizeLine by decide), k _ ⟨d, ds, _, n1, n2, n3, upd_same, (upd_ne (Ne.symm n1)).trans h2, h3, ⟨Int.emod_nonneg _ (by decide), Int.emod_lt_of_pos _ (by decide)⟩, (upd_ne (Ne.symm n3)).trans h5⟩⟩
theorem deck_pure {K : PySem.W.Frag} {ts : TE} {b : TS} {z : Int} (hz0 : 0 ≤ z) (hz1 : z < 2305843009213693000) (hts : ∀ σ H (R : VK), R (.int z) H → ts σ H R) {x0 x1 x2 : Str} {xs : List Str} {vs : List V} {H : Hp} {Q : VK} {E : XK}
    (hb : ∀ (p q a : Addr) (ms : List Int) (i : Nat) (n : Int) (H : Hp) (os : St) (D : Ends), os.length = xs.length → i < 63 → DI p q ms i H → (∀ (os' : St) (H' : Hp), os'.length = xs.length → DI p q ms (i + 1) H' → D.nx (some (.ref a) :: some (.ref p) :: some (.int n) :: os') H') → b D (some (.ref a) :: some (.ref p) :: some (.int n) :: os) H)
    (h : spDeck K vs H Q E) : t_deck K ts b { nx := fun _ H' => Q .non H', rt := Q } (L2.start (x0 :: x1 :: x2 :: xs) vs) H := by
  obtain ⟨a, ns, rfl, hS, hn, k⟩ := h
  have hcut : ∃ ms : List Int, cutV (ns.map V.int) none (some 63) = ms.map V.int ∧ ms.length ≤ 63 := by
    refine ⟨(ns.drop (HT.sIx (ns.map V.int).length 0 none)).take (HT.sIx (ns.map V.int).length (ns.map V.int).length (some 63) - HT.sIx (ns.map V.int).length 0 none), ?_, ?_⟩
    · unfold cutV
      rw [List.map_take, List.map_drop]
    · rw [List.length_take, List.length_drop]
      omega
  obtain ⟨ms, hcut, hms⟩ := hcut
  have sall : ∀ (p : Addr) (H' : Hp), H p = none → (∀ b o, b ≠ p → H b = some o → H' b = some o) → SqL K H' a (ns.map V.int) := by
    intro p H' hp e
    have na : ∀ {o : HO}, H a = some o → a ≠ p := fun {o} e z => by rw [z, hp] at e; cases e
    rcases hS with (h | ⟨o, h⟩) | h
    · exact .inl (.inl (e _ _ (na h) h))
    · exact .inl (.inr ⟨o, e _ _ (na h) h⟩)
    · exact .inr h
  have keep : ∀ {H : Hp} {l : Addr} {u : HO}, H l = none → ∀ b o, H b = some o → upd H l u b = some o := fun {H l u} hl b o e => by rw [upd_ne (fun z => by rw [z, hl] at e; cases e)]; exact e
  unfold t_deck t_start
  intro p hp
  have p1 : upd H p (.dK []) p = _ := upd_same
  have c1 : ∀ b o, b ≠ p → H b = some o → upd H p (.dK []) b = some o := fun b o z e => by rw [upd_ne z]; exact e
  generalize upd H p (.dK []) = H1 at p1 c1 ⊢
  simp only [tPairs]
  refine ⟨by decide, fun d hd => ?_⟩
  have dp : d ≠ p := fun z => by rw [z, p1] at hd; cases hd
  have p2 := keep (u := .lst []) hd _ _ p1
  have d2 : upd H1 d (.lst []) d = _ := upd_same
  have c2 : ∀ b o, b ≠ p → H b = some o → upd H1 d (.lst []) b = some o := fun b o z e => keep hd _ _ (c1 b o z e)
  generalize upd H1 d (.lst []) = H2 at p2 d2 c2 ⊢
  refine hts _ _ _ ⟨.ref a, rfl, 63, rfl, a, _, rfl, sall p H2 hp c2, fun q hq => ?_⟩
  rw [hcut]
  have p3 := keep (u := .lst (ms.map V.int)) hq _ _ p2
  have d3 := keep (u := .lst (ms.map V.int)) hq _ _ d2
  have c3 : ∀ b o, b ≠ p → H b = some o → upd H2 q (.lst (ms.map V.int)) b = some o := fun b o z e => keep hq _ _ (c2 b o z e)
  have q3 : upd H2 q (.lst (ms.map V.int)) q = _ := upd_same
  generalize upd H2 q (.lst (ms.map V.int)) = H3 at p3 d3 c3 q3 ⊢
  refine ⟨_, _, rfl, .inl ⟨_, SqL.of q3, rfl⟩, z, _, rfl, rfl, p3, [(.inr "deep", .ref d), (.inr "state", .int (z + ((ms.map V.int).length : Int)))], rfl, (by decide : 2 ≤ 15), ?_⟩
  have p4 : upd H3 p (.dK (mergeK [] [(.inr "deep", .ref d), (.inr "state", .int (z + ((ms.map V.int).length : Int)))])) p = some (.dK (deckKv d (z + ((ms.map V.int).length : Int)))) := upd_same
  have d4 : upd H3 p (.dK (mergeK [] [(.inr "deep", .ref d), (.inr "state", .int (z + ((ms.map V.int).length : Int)))])) d = _ := (upd_ne dp).trans d3
  have c4 : ∀ b o, b ≠ p → H b = some o → upd H3 p (.dK (mergeK [] [(.inr "deep", .ref d), (.inr "state", .int (z + ((ms.map V.int).length : Int)))])) b = some o := fun b o z e => by rw [upd_ne z]; exact c3 b o z e
  generalize upd H3 p (.dK (mergeK [] [(.inr "deep", .ref d), (.inr "state", .int (z + ((ms.map V.int).length : Int)))])) = H4 at p4 d4 c4 ⊢
  refine ⟨.ref a, rfl, 63, rfl, a, _, rfl, sall p H4 hp c4, fun q2 hq2 => ?_⟩
  rw [hcut]
  have q5 : upd H4 q2 (.lst (ms.map V.int)) q2 = _ := upd_same
  have p5 := keep (u := .lst (ms.map V.int)) hq2 _ _ p4
  have d5 := keep (u := .lst (ms.map V.int)) hq2 _ _ d4
  have pq : p ≠ q2 := fun z => by rw [← z, p4] at hq2; cases hq2
  have qd : q2 ≠ d := fun z => by rw [z, d4] at hq2; cases hq2
  generalize upd H4 q2 (.lst (ms.map V.int)) = H5 at q5 p5 d5 ⊢
  refine ⟨q2, rfl, ⟨_, SqL.of q5⟩, ?_⟩
  refine for_list (K := K) (a := q2) (xs := ms.map V.int) (fun i σ H => DI p q2 ms i H ∧ ∃ (o : Option V) (os : St), os.length = xs.length ∧ σ = some (.ref a) :: some (.ref p) :: o :: os)
    ⟨⟨d, [], _, Ne.symm dp, qd, pq, p5, d5, Nat.zero_le _, ⟨by omega, by rw [List.length_map]; omega⟩, q5⟩, none, List.replicate xs.length none, List.length_replicate, rfl⟩
    (fun i σ H _ ⟨⟨_, _, _, _, _, _, _, _, _, _, e⟩, _⟩ => SqL.of e) (fun i x σ H hx ⟨hI, o, os, hos, es⟩ => ?_) fun σ H ⟨⟨d', ds', st', n1, n2, n3, e1, e2, e3, e4, e5⟩, o, os, hos, es⟩ => ?_
  · subst es
    rw [List.getElem?_map] at hx
    cases hn2 : ms[i]? with
    | none => rw [hn2] at hx; cases hx
    | some n =>
      rw [hn2] at hx
      cases hx
      have hi := (List.getElem?_eq_some_iff.mp hn2).1
      exact hb p q2 a ms i n H os _ hos (by omega) hI fun os' H' hos' hI' => ⟨hI', _, os', hos', rfl⟩
  · subst es
    rw [List.length_map] at e3
    exact ⟨.ref p, rfl, k p H ⟨_, d', ⟨n1, ds', st', e1, e2, by rw [sizeL0]; omega, e4.1, e4.2⟩, rfl⟩⟩
theorem abs_bl (n : Int) (Q : Int → Prop) (h : Q (n.natAbs : Int)) : Q (if n < 0 then -n else n) := by
  have : (if n < 0 then -n else n) = ((n.natAbs : Nat) : Int) := by split <;> omega
  rw [this]; exact h
theorem bodyA_ok (c1 c2 : Int) (hc : Builtin.Int.intBits c1 ≤ 64) (p q a : Addr) (ms : List Int) (i : Nat) (n : Int) (H : Hp) (os : St) (D : Ends) (ho : os.length = 2) (hi : i < 63) (hI : DI p q ms i H)
    (k : ∀ (os' : St) (H' : Hp), os'.length = 2 → DI p q ms (i + 1) H' → D.nx (some (.ref a) :: some (.ref p) :: some (.int n) :: os') H') : t_bodyA c1 c2 D (some (.ref a) :: some (.ref p) :: some (.int n) :: os) H := by
  match os, ho with
  | [o3, o4], _ =>
    refine ⟨.int n, rfl, n, rfl, ?_⟩
    generalize (if n < 0 then -n else n) = w
    have tail : ∀ H', DI p q ms (i + 1) H' → tSeq (tAsg (tOp rAdd (tOp rMulA (tOp rAdd (tOp rAdd (tOp rAdd (tKey 1 "state") (tOp rMulA (tC (.int 2)) (tVar 3))) (tInt (tOp rLt (tVar 2) (tC (.int 0))))) (tC (.int 1))) (tC (.int c1))) (tC (.int c2))) (gName 4))
        (sDPut (tVar 1) (tC (.str "state")) (tOp rModA (tInt (tVar 4)) (tC (.int 2305843009213693951)))) D [some (.ref a), some (.ref p), some (.int n), some (.int w), o4] H' := by
      intro H' hI'
      have hI2 := hI'
      obtain ⟨d, ds, st, n1, n2, n3, h1, h2, h3, h4, h5⟩ := hI'
      refine ⟨.ref p, rfl, p, .int st, rfl, DGet.k (k := .inr "state") h1, .int w, rfl, 2, w, rfl, rfl, IntMulOk.of_left (by decide), _, _, rfl, rfl, .int n, rfl, n, 0, rfl, rfl, .inr ⟨_, rfl, _, _, rfl, rfl, _, 1, rfl, rfl, _, c1, rfl, rfl, IntMulOk.of_right hc, _, c2, rfl, rfl, ?_⟩⟩
      exact put_state (t := tVar 4) (σ := [some (.ref a), some (.ref p), some (.int n), some (.int w), some (.int _)]) hI2 rfl (fun R r => ⟨_, rfl, r _⟩) fun H2 h => k [some (.int w), some (.int _)] H2 rfl h
    refine ⟨.int w, rfl, 10, 18, rfl, rfl, ⟨by decide, by decide, by decide⟩, w, _, rfl, rfl, _, rfl, ?_⟩
    by_cases hw : (10 : Int) ^ Int.toNat 18 ≤ w
    · rw [decide_eq_true hw]
      exact put_deep hI (by omega) rfl (fun R r => ⟨_, rfl, r⟩) tail
    · rw [decide_eq_false hw]
      obtain ⟨d, ds, st, n1, n2, n3, h1, h2, h3, h4, h5⟩ := hI
      exact tail H ⟨d, ds, st, n1, n2, n3, h1, h2, by omega, h4, h5⟩
theorem bodyD_ok (c1 c2 : Int) (hc : Builtin.Int.intBits c1 ≤ 64) (p q a : Addr) (ms : List Int) (i : Nat) (n : Int) (H : Hp) (os : St) (D : Ends) (ho : os.length = 1) (hi : i < 63) (hI : DI p q ms i H)
    (k : ∀ (os' : St) (H' : Hp), os'.length = 1 → DI p q ms (i + 1) H' → D.nx (some (.ref a) :: some (.ref p) :: some (.int n) :: os') H') : t_bodyD c1 c2 D (some (.ref a) :: some (.ref p) :: some (.int n) :: os) H := by
  match os, ho with
  | [o3], _ =>
    have tail : ∀ H', DI p q ms (i + 1) H' → tSeq (tAsg (tOp rAdd (tOp rMulA (tC (.int 2)) (tAbs (tVar 2))) (tInt (tOp rLt (tVar 2) (tC (.int 0))))) (gName 3))
        (sDPut (tVar 1) (tC (.str "state")) (tOp rModA (tInt (tOp rAdd (tOp rMulA (tOp rAdd (tOp rAdd (tKey 1 "state") (tVar 3)) (tC (.int 1))) (tC (.int c1))) (tC (.int c2)))) (tC (.int 2305843009213693951)))) D [some (.ref a), some (.ref p), some (.int n), o3] H' := by
      intro H' hI'
      have hI2 := hI'
      obtain ⟨d, ds, st, n1, n2, n3, h1, h2, h3, h4, h5⟩ := hI'
      refine ⟨.int n, rfl, n, rfl, 2, _, rfl, rfl, IntMulOk.of_left (by decide), .int n, rfl, n, 0, rfl, rfl, .inr ⟨_, rfl, _, _, rfl, rfl, ?_⟩⟩
      exact put_state (t := tOp rAdd (tOp rMulA (tOp rAdd (tOp rAdd (tKey 1 "state") (tVar 3)) (tC (.int 1))) (tC (.int c1))) (tC (.int c2))) (σ := [some (.ref a), some (.ref p), some (.int n), some (.int _)]) hI2 rfl (fun R r => ⟨.ref p, rfl, p, .int st, rfl, DGet.k (k := .inr "state") h1, _, rfl, st, _, rfl, rfl, _, 1, rfl, rfl, _, c1, rfl, rfl, IntMulOk.of_right hc, _, c2, rfl, rfl, r _⟩) fun H2 h => k [some (.int _)] H2 rfl h
    refine ⟨.int n, rfl, n, rfl, 10, 18, rfl, rfl, ⟨by decide, by decide, by decide⟩, _, _, rfl, rfl, _, rfl, ?_⟩
    by_cases hw : (10 : Int) ^ Int.toNat 18 ≤ (if n < 0 then -n else n)
    · rw [decide_eq_true hw]
      exact put_deep hI (by omega) rfl (fun R r => ⟨.int n, rfl, n, rfl, r⟩) tail
    · rw [decide_eq_false hw]
      obtain ⟨d, ds, st, n1, n2, n3, h1, h2, h3, h4, h5⟩ := hI
      exact tail H ⟨d, ds, st, n1, n2, n3, h1, h2, by omega, h4, h5⟩
end B

namespace B
open PySem PySem.Spec L2
def top (i : Nat) : Stmt := PySem.Challenge.pw_everyexact_k01_what_are_scales.main.body.getD i (.Pass ⟨0, 0, 0, 0⟩)
abbrev FnP (K : PySem.W.Frag) (x : Str) (st : Stmt) (f : Addr) (fd : FuncData) : Prop := FunD K x x (defArgs st) (defBody st) (defScope st) [] [] f fd
def consts : List (Str × D) := [("MAX_RULES", .int 40), ("MAX_NUMBER", .int 1000000000000000000000000000000000000000000000000000000000000), ("MAX_STEP", .int 1000000000000000000000000000000000000000000000000000000000000)]
def N5 : List Str := ["one", "other"]
def N7 : List Str := ["value"]
def N8 : List Str := ["value"]
def N9 : List Str := ["value"]
def N10 : List Str := ["rules", "found", "bound", "step"]
def N11 : List Str := ["value", "place", "rule"]
def N13 : List Str := ["script", "deck", "cell", "whole", "state"]
def N14 : List Str := ["deck", "many", "whole", "one", "two"]
def N15 : List Str := ["deck", "items"]
def N16 : List Str := ["deck", "items", "left", "found"]
def N17 : List Str := ["one", "other"]
def N18 : List Str := ["steps", "found", "step"]
def N19 : List Str := ["base", "times", "found", "turn"]
def N20 : List Str := ["deck", "kinds", "found", "prime", "most"]
def N21 : List Str := ["deck", "menu"]
def N22 : List Str := ["deck", "most", "kinds", "found", "top", "many", "turn", "step", "times", "bound"]
def N23 : List Str := ["value", "low", "high"]
def N24 : List Str := ["value", "place", "rule", "bound", "step"]
def N25 : List Str := ["deck", "rule", "bound", "step", "odd"]
def N26 : List Str := ["deck", "scale", "rows", "turn", "spot", "rest"]
def N27 : List Str := ["script", "deck", "turn", "scale", "values", "kept", "spot", "value", "seen"]
def calls5 : List ((Str × Nat × List Str) × Nat) := []
def ct5 : Ct := { sc := defScope (top 5), N := N5, fnl := N5, fs := calls5, cs := consts, gcd := true, dig := true }
def calls7 : List ((Str × Nat × List Str) × Nat) := []
def ct7 : Ct := { sc := defScope (top 7), N := N7, fnl := N7, fs := calls7, cs := consts, gcd := true, dig := true }
def calls8 : List ((Str × Nat × List Str) × Nat) := [(("is_integer", 1, []), 7)]
def ct8 : Ct := { sc := defScope (top 8), N := N8, fnl := N8, fs := calls8, cs := consts, gcd := true, dig := true }
def calls9 : List ((Str × Nat × List Str) × Nat) := [(("is_number", 1, []), 8), (("is_integer", 1, []), 7)]
def ct9 : Ct := { sc := defScope (top 9), N := N9, fnl := N9, fs := calls9, cs := consts, gcd := true, dig := true }
def calls10 : List ((Str × Nat × List Str) × Nat) := [(("common_multiple", 2, []), 5)]
def ct10 : Ct := { sc := defScope (top 10), N := N10, fnl := N10, fs := calls10, cs := consts, gcd := true, dig := true }
def calls11 : List ((Str × Nat × List Str) × Nat) := [(("is_rule", 1, []), 9), (("steps_multiple", 1, []), 10)]
def ct11 : Ct := { sc := defScope (top 11), N := N11, fnl := N11, fs := calls11, cs := consts, gcd := true, dig := true }
def calls15 : List ((Str × Nat × List Str) × Nat) := [(("_law_draw", 2, []), 14)]
def ct15 : Ct := { sc := defScope (top 15), N := N15, fnl := N15, fs := calls15, cs := consts, gcd := true, dig := true }
def calls16 : List ((Str × Nat × List Str) × Nat) := [(("_law_draw", 2, []), 14)]
def ct16 : Ct := { sc := defScope (top 16), N := N16, fnl := N16, fs := calls16, cs := consts, gcd := true, dig := true }
def calls17 : List ((Str × Nat × List Str) × Nat) := []
def ct17 : Ct := { sc := defScope (top 17), N := N17, fnl := N17, fs := calls17, cs := consts, gcd := true, dig := true }
def calls18 : List ((Str × Nat × List Str) × Nat) := [(("_law_divisor", 2, []), 17)]
def ct18 : Ct := { sc := defScope (top 18), N := N18, fnl := N18, fs := calls18, cs := consts, gcd := true, dig := true }
def calls19 : List ((Str × Nat × List Str) × Nat) := []
def ct19 : Ct := { sc := defScope (top 19), N := N19, fnl := N19, fs := calls19, cs := consts, gcd := true, dig := true }
def calls20 : List ((Str × Nat × List Str) × Nat) := [(("_law_raised", 2, []), 19), (("_law_draw", 2, []), 14), (("_law_pick", 2, []), 15)]
def ct20 : Ct := { sc := defScope (top 20), N := N20, fnl := N20, fs := calls20, cs := consts, gcd := true, dig := true }
def calls21 : List ((Str × Nat × List Str) × Nat) := [(("_law_pick", 2, []), 15)]
def ct21 : Ct := { sc := defScope (top 21), N := N21, fnl := N21, fs := calls21, cs := consts, gcd := true, dig := true }
def calls22 : List ((Str × Nat × List Str) × Nat) := [(("_law_kinds", 1, []), 21), (("_law_pick", 2, []), 15), (("_law_step", 2, []), 20), (("_law_draw", 2, []), 14), (("_law_mixed", 2, []), 16)]
def ct22 : Ct := { sc := defScope (top 22), N := N22, fnl := N22, fs := calls22, cs := consts, gcd := true, dig := true }
def calls23 : List ((Str × Nat × List Str) × Nat) := []
def ct23 : Ct := { sc := defScope (top 23), N := N23, fnl := N23, fs := calls23, cs := consts, gcd := true, dig := true }
def calls24 : List ((Str × Nat × List Str) × Nat) := [(("_law_multiple", 1, []), 18), (("_law_is_whole", 3, []), 23)]
def ct24 : Ct := { sc := defScope (top 24), N := N24, fnl := N24, fs := calls24, cs := consts, gcd := true, dig := true }
def calls25 : List ((Str × Nat × List Str) × Nat) := [(("_law_pick", 2, []), 15)]
def ct25 : Ct := { sc := defScope (top 25), N := N25, fnl := N25, fs := calls25, cs := consts, gcd := true, dig := true }
def calls26 : List ((Str × Nat × List Str) × Nat) := [(("_law_draw", 2, []), 14), (("_law_pick", 2, []), 15), (("_law_odd", 2, []), 25)]
def ct26 : Ct := { sc := defScope (top 26), N := N26, fnl := N26, fs := calls26, cs := consts, gcd := true, dig := true }
def calls27 : List ((Str × Nat × List Str) × Nat) := [(("_law_great", 2, []), 22), (("_law_spoilt", 2, []), 26), (("scale_error", 1, []), 11), (("scale_error", 0, ["value"]), 2000), (("_law_draw", 2, []), 14), (("_law_due", 1, []), 24)]
def ct27 : Ct := { sc := defScope (top 27), N := N27, fnl := N27, fs := calls27, cs := consts, gcd := true, dig := true }
/-- common_multiple(one, other) : 0 one, 1 other -/
def b5 : Ss := (.cons (.ret (.bin .Mult (.bin .FloorDiv (.var 0) (.bi .gcd (.cons (.var 0) (.cons (.var 1) .nil)))) (.var 1)))
  .nil)
theorem c5 : (cBody 90 ct5 (defBody (top 5))).map (·.1) = some b5 := by kernel_rfl
/-- is_integer(value) : 0 value -/
def b7 : Ss := (.cons (.ret (.bop true (.isi (.var 0) "int") (.nt (.isi (.var 0) "bool"))))
  .nil)
theorem c7 : (cBody 90 ct7 (defBody (top 7))).map (·.1) = some b7 := by kernel_rfl
/-- is_number(value) : 0 value -/
def b8 : Ss := (.cons (.ret (.bop true (.call 7 (.cons (.var 0) .nil)) (.chn .LtE .LtE (.neg (.cst (.int 1000000000000000000000000000000000000000000000000000000000000))) (.var 0) (.cst (.int 1000000000000000000000000000000000000000000000000000000000000)))))
  .nil)
theorem c8 : (cBody 90 ct8 (defBody (top 8))).map (·.1) = some b8 := by kernel_rfl
/-- is_rule(value) : 0 value -/
def l9_1 : Ss := .cons (.ret (.cst (.bl false))) .nil
def l9_3 : Ss := .cons (.ret (.cst (.bl false))) .nil
def b9_4 : Ss := .cons (.ret (.bop true (.cmp .GtE (.ix (.var 0) (.cst (.int 0))) (.cst (.int 0))) (.bop false (.cmp .Eq (.ix (.var 0) (.cst (.int 1))) (.cst (.int 0))) (.chn .LtE .LtE (.cst (.int 2)) (.ix (.var 0) (.cst (.int 1))) (.cst (.int 1000000000000000000000000000000000000000000000000000000000000)))))) .nil
def b9_2 : Ss := .cons (.iff (.bop false (.nt (.call 8 (.cons (.ix (.var 0) (.cst (.int 0))) .nil))) (.nt (.call 7 (.cons (.ix (.var 0) (.cst (.int 1))) .nil)))) l9_3 .nil) b9_4
def b9 : Ss := .cons (.iff (.bop false (.nt (.isi (.var 0) "tuple")) (.cmp .NotEq (.bi .len (.cons (.var 0) .nil)) (.cst (.int 2)))) l9_1 .nil) b9_2
theorem c9 : (cBody 90 ct9 (defBody (top 9))).map (·.1) = some b9 := by kernel_rfl
/-- steps_multiple(rules) : 0 rules, 1 found, 2 bound, 3 step -/
def l10_3 : Ss := .cons (.asg (.nm 1) (.call 5 (.cons (.var 1) (.cons (.var 3) .nil)))) .nil
def l10_2 : Ss := .cons (.iff (.cmp .NotEq (.var 3) (.cst (.int 0))) l10_3 .nil) .nil
def b10_4 : Ss := .cons (.ret (.var 1)) .nil
def b10_1 : Ss := .cons (.forr (.cons (.nm 2) (.cons (.nm 3) .nil)) (.sq (.var 0)) l10_2) b10_4
def b10 : Ss := .cons (.asg (.nm 1) (.cst (.int 1))) b10_1
theorem c10 : (cBody 90 ct10 (defBody (top 10))).map (·.1) = some b10 := by kernel_rfl
/-- scale_error(value) : 0 value, 1 place, 2 rule -/
def l11_1 : Ss := .cons (.ret (.cst (.str "form"))) .nil
def l11_4 : Ss := .cons (.ret (.tup (.cons (.cst (.str "rule")) (.cons (.var 1) .nil)))) .nil
def l11_3 : Ss := .cons (.iff (.nt (.call 9 (.cons (.var 2) .nil))) l11_4 .nil) .nil
def b11_5 : Ss := .cons (.ret (.ife (.cmp .Gt (.call 10 (.cons (.var 0) .nil)) (.cst (.int 1000000000000000000000000000000000000000000000000000000000000))) (.cst (.str "great")) (.cst .non))) .nil
def b11_2 : Ss := .cons (.forr (.cons (.nm 1) (.cons (.nm 2) .nil)) (.en (.var 0)) l11_3) b11_5
def b11 : Ss := .cons (.iff (.bop false (.nt (.isi (.var 0) "tuple")) (.cmp .Gt (.bi .len (.cons (.var 0) .nil)) (.cst (.int 40)))) l11_1 .nil) b11_2
theorem c11 : (cBody 90 ct11 (defBody (top 11))).map (·.1) = some b11 := by kernel_rfl
/-- _law_pick(deck, items) : 0 deck, 1 items -/
def b15 : Ss := (.cons (.ret (.ix (.var 1) (.call 14 (.cons (.var 0) (.cons (.bi .len (.cons (.var 1) .nil)) .nil)))))
  .nil)
theorem c15 : (cBody 90 ct15 (defBody (top 15))).map (·.1) = some b15 := by kernel_rfl
/-- _law_mixed(deck, items) : 0 deck, 1 items, 2 left, 3 found -/
def b16 : Ss := (.cons (.par [2, 3] (.cons (.bi .lst (.cons (.var 1) .nil)) (.cons (.lst .nil) .nil)))
  (.cons (.whl (.cmp .NotEq (.var 2) (.lst .nil)) (.cons (.app 3 (.popA 2 (.call 14 (.cons (.var 0) (.cons (.bi .len (.cons (.var 2) .nil)) .nil)))))
  .nil))
  (.cons (.ret (.var 3))
  .nil)))
theorem c16 : (cBody 90 ct16 (defBody (top 16))).map (·.1) = some b16 := by kernel_rfl
/-- _law_divisor(one, other) : 0 one, 1 other -/
def b17 : Ss := (.cons (.whl (.cmp .Gt (.var 1) (.cst (.int 0))) (.cons (.par [0, 1] (.cons (.var 1) (.cons (.bin .Mod (.bi .int (.cons (.var 0) .nil)) (.var 1)) .nil)))
  .nil))
  (.cons (.ret (.var 0))
  .nil))
theorem c17 : (cBody 90 ct17 (defBody (top 17))).map (·.1) = some b17 := by kernel_rfl
/-- _law_multiple(steps) : 0 steps, 1 found, 2 step -/
def b18 : Ss := (.cons (.asg (.nm 1) (.cst (.int 1)))
  (.cons (.forr (.nm 2) (.sq (.var 0)) (.cons (.asg (.nm 1) (.ife (.bop true (.cmp .Gt (.var 2) (.cst (.int 0))) (.cmp .Gt (.var 1) (.cst (.int 0)))) (.bin .FloorDiv (.bin .Mult (.var 1) (.var 2)) (.call 17 (.cons (.var 1) (.cons (.var 2) .nil)))) (.cst (.int 0))))
  .nil))
  (.cons (.ret (.var 1))
  .nil)))
theorem c18 : (cBody 90 ct18 (defBody (top 18))).map (·.1) = some b18 := by kernel_rfl
/-- _law_raised(base, times) : 0 base, 1 times, 2 found, 3 turn -/
def b19 : Ss := (.cons (.asg (.nm 2) (.cst (.int 1)))
  (.cons (.forr (.nm 3) (.rg1 (.var 1)) (.cons (.asg (.nm 2) (.bin .Mult (.var 2) (.var 0)))
  .nil))
  (.cons (.ret (.var 2))
  .nil)))
theorem c19 : (cBody 90 ct19 (defBody (top 19))).map (·.1) = some b19 := by kernel_rfl
/-- _law_step(deck, kinds) : 0 deck, 1 kinds, 2 found, 3 prime, 4 most -/
def b20 : Ss := (.cons (.asg (.nm 2) (.cst (.int 1)))
  (.cons (.forr (.cons (.nm 3) (.cons (.nm 4) .nil)) (.sq (.var 1)) (.cons (.asg (.nm 2) (.bin .Mult (.var 2) (.call 19 (.cons (.var 3) (.cons (.call 14 (.cons (.var 0) (.cons (.call 15 (.cons (.var 0) (.cons (.lst (.cons (.cst (.int 2)) (.cons (.cst (.int 4)) (.cons (.bin .Add (.var 4) (.cst (.int 1))) (.cons (.bin .Add (.var 4) (.cst (.int 1))) .nil))))) .nil))) .nil))) .nil)))))
  .nil))
  (.cons (.ret (.ife (.cmp .Gt (.var 2) (.cst (.int 1))) (.var 2) (.ix (.ix (.var 1) (.cst (.int 0))) (.cst (.int 0)))))
  .nil)))
theorem c20 : (cBody 90 ct20 (defBody (top 20))).map (·.1) = some b20 := by kernel_rfl
/-- _law_kinds(deck) : 0 deck, 1 menu -/
def b21 : Ss := (.cons (.asg (.nm 1) (.lst (.cons (.lst (.cons (.tup (.cons (.cst (.int 2)) (.cons (.cst (.int 60)) .nil))) (.cons (.tup (.cons (.cst (.int 5)) (.cons (.cst (.int 60)) .nil))) .nil))) (.cons (.lst (.cons (.tup (.cons (.cst (.int 2)) (.cons (.cst (.int 190)) .nil))) .nil)) (.cons (.lst (.cons (.tup (.cons (.cst (.int 2)) (.cons (.cst (.int 70)) .nil))) (.cons (.tup (.cons (.cst (.int 3)) (.cons (.cst (.int 70)) .nil))) .nil))) (.cons (.lst (.cons (.tup (.cons (.cst (.int 2)) (.cons (.cst (.int 40)) .nil))) (.cons (.tup (.cons (.cst (.int 3)) (.cons (.cst (.int 40)) .nil))) (.cons (.tup (.cons (.cst (.int 5)) (.cons (.cst (.int 40)) .nil))) .nil)))) (.cons (.lst (.cons (.tup (.cons (.cst (.int 7)) (.cons (.cst (.int 60)) .nil))) .nil)) (.cons (.lst (.cons (.tup (.cons (.cst (.int 97)) (.cons (.cst (.int 30)) .nil))) .nil)) .nil))))))))
  (.cons (.asg (.nm 1) (.bin .Add (.var 1) (.lst (.cons (.lst (.cons (.tup (.cons (.cst (.int 2)) (.cons (.cst (.int 6)) .nil))) (.cons (.tup (.cons (.cst (.int 3)) (.cons (.cst (.int 4)) .nil))) (.cons (.tup (.cons (.cst (.int 5)) (.cons (.cst (.int 2)) .nil))) (.cons (.tup (.cons (.cst (.int 7)) (.cons (.cst (.int 2)) .nil))) (.cons (.tup (.cons (.cst (.int 11)) (.cons (.cst (.int 1)) .nil))) (.cons (.tup (.cons (.cst (.int 13)) (.cons (.cst (.int 1)) .nil))) (.cons (.tup (.cons (.cst (.int 17)) (.cons (.cst (.int 1)) .nil))) (.cons (.tup (.cons (.cst (.int 19)) (.cons (.cst (.int 1)) .nil))) .nil))))))))) (.cons (.lst (.cons (.tup (.cons (.cst (.int 2)) (.cons (.cst (.int 4)) .nil))) (.cons (.tup (.cons (.cst (.int 3)) (.cons (.cst (.int 2)) .nil))) .nil))) (.cons (.lst (.cons (.tup (.cons (.cst (.int 10)) (.cons (.cst (.int 60)) .nil))) .nil)) .nil))))))
  (.cons (.ret (.call 15 (.cons (.var 0) (.cons (.var 1) .nil))))
  .nil)))
theorem c21 : (cBody 90 ct21 (defBody (top 21))).map (·.1) = some b21 := by kernel_rfl
/-- _law_great(deck, most) : 0 deck, 1 most, 2 kinds, 3 found, 4 top, 5 many, 6 turn, 7 step, 8 times, 9 bound -/
def b22_4 : Ss := .cons (.ret (.bi .tup (.cons (.call 16 (.cons (.var 0) (.cons (.var 3) .nil))) .nil))) .nil
def b22_3 : Ss := .cons (.iff (.cmp .Eq (.call 14 (.cons (.var 0) (.cons (.cst (.int 2)) .nil))) (.cst (.int 0))) (.cons (.seti 3 (.call 14 (.cons (.var 0) (.cons (.bi .len (.cons (.var 3) .nil)) .nil))) (.tup (.cons (.call 15 (.cons (.var 0) (.cons (.lst (.cons (.var 4) (.cons (.bin .Sub (.var 4) (.cst (.int 1))) (.cons (.call 14 (.cons (.var 0) (.cons (.var 4) .nil))) (.cons (.cst (.int 0)) (.cons (.bin .Pow (.cst (.int 10)) (.cst (.int 60))) .nil)))))) .nil))) (.cons (.cst (.int 0)) .nil))))
  .nil) .nil) b22_4
def b22_2 : Ss := .cons (.forr (.nm 6) (.rg1 (.var 5)) (.cons (.asg (.nm 7) (.call 20 (.cons (.var 0) (.cons (.var 2) .nil))))
  (.cons (.asg (.nm 8) (.ife (.cmp .Eq (.call 14 (.cons (.var 0) (.cons (.cst (.int 2)) .nil))) (.cst (.int 0))) (.call 14 (.cons (.var 0) (.cons (.bi .max2 (.cons (.cst (.int 1)) (.cons (.bin .FloorDiv (.var 4) (.var 7)) .nil))) .nil))) (.call 14 (.cons (.var 0) (.cons (.cst (.int 40)) .nil)))))
  (.cons (.asg (.nm 9) (.bin .Add (.bin .Mult (.var 7) (.var 8)) (.call 15 (.cons (.var 0) (.cons (.lst (.cons (.cst (.int 0)) (.cons (.cst (.int 0)) (.cons (.neg (.cst (.int 1))) (.cons (.cst (.int 1)) (.cons (.call 14 (.cons (.var 0) (.cons (.var 7) .nil))) .nil)))))) .nil)))))
  (.cons (.iff (.bop true (.cmp .NotEq (.var 3) (.lst .nil)) (.cmp .Eq (.call 14 (.cons (.var 0) (.cons (.cst (.int 8)) .nil))) (.cst (.int 0)))) (.cons (.asg (.nm 9) (.ix (.ix (.var 3) (.neg (.cst (.int 1)))) (.cst (.int 0))))
  .nil) .nil)
  (.cons (.app 3 (.tup (.cons (.bi .min2 (.cons (.bin .Pow (.cst (.int 10)) (.cst (.int 60))) (.cons (.bi .max2 (.cons (.cst (.int 0)) (.cons (.var 9) .nil))) .nil))) (.cons (.var 7) .nil))))
  .nil)))))) b22_3
def b22_1 : Ss := .cons (.asg (.nm 5) (.bi .max2 (.cons (.cst (.int 1)) (.cons (.call 15 (.cons (.var 0) (.cons (.lst (.cons (.var 1) (.cons (.var 1) (.cons (.bin .FloorDiv (.var 1) (.cst (.int 2))) (.cons (.bi .min2 (.cons (.cst (.int 3)) (.cons (.var 1) .nil))) (.cons (.cst (.int 1)) .nil)))))) .nil))) .nil)))) b22_2
def b22 : Ss := .cons (.par [2, 3, 4] (.cons (.call 21 (.cons (.var 0) .nil)) (.cons (.lst .nil) (.cons (.call 15 (.cons (.var 0) (.cons (.lst (.cons (.bin .Pow (.cst (.int 10)) (.cst (.int 6))) (.cons (.bin .Pow (.cst (.int 10)) (.cst (.int 18))) (.cons (.bin .Pow (.cst (.int 10)) (.cst (.int 60))) (.cons (.bin .Pow (.cst (.int 10)) (.cst (.int 60))) .nil))))) .nil))) .nil)))) b22_1
theorem c22 : (cBody 90 ct22 (defBody (top 22))).map (·.1) = some b22 := by kernel_rfl
/-- _law_is_whole(value, low, high) : 0 value, 1 low, 2 high -/
def b23 : Ss := .cons (.ret (.bop true (.isi (.var 0) "int") (.bop true (.nt (.isi (.var 0) "bool")) (.chn .LtE .LtE (.var 1) (.var 0) (.var 2))))) .nil
theorem c23 : (cBody 90 ct23 (defBody (top 23))).map (·.1) = some b23 := by kernel_rfl
/-- _law_due(value) : 0 value, 1 place, 2 rule, 3 bound, 4 step -/
def l24_1 : Ss := .cons (.ret (.cst (.str "form"))) .nil
def l24_4 : Ss := .cons (.ret (.tup (.cons (.cst (.str "rule")) (.cons (.var 1) .nil)))) .nil
def l24_6 : Ss := .cons (.ret (.tup (.cons (.cst (.str "rule")) (.cons (.var 1) .nil)))) .nil
def b24_5 : Ss := .cons (.iff (.bop false (.nt (.call 23 (.cons (.ix (.var 2) (.cst (.int 1))) (.cons (.cst (.int 0)) (.cons (.bin .Pow (.cst (.int 10)) (.cst (.int 60))) .nil))))) (.cmp .Eq (.ix (.var 2) (.cst (.int 1))) (.cst (.int 1)))) l24_6 .nil) .nil
def l24_3 : Ss := .cons (.iff (.bop false (.nt (.isi (.var 2) "tuple")) (.bop false (.cmp .NotEq (.bi .len (.cons (.var 2) .nil)) (.cst (.int 2))) (.nt (.call 23 (.cons (.ix (.var 2) (.cst (.int 0))) (.cons (.cst (.int 0)) (.cons (.bin .Pow (.cst (.int 10)) (.cst (.int 60))) .nil))))))) l24_4 .nil) b24_5
def b24_7 : Ss := .cons (.ret (.ife (.cmp .Gt (.call 18 (.cons (.comp [3, 4] (.cons (.nm 3) (.cons (.nm 4) .nil)) (.sq (.var 0)) (.so (.cmp .Gt (.var 4) (.cst (.int 0)))) (.var 4)) .nil)) (.bin .Pow (.cst (.int 10)) (.cst (.int 60)))) (.cst (.str "great")) (.cst .non))) .nil
def b24_2 : Ss := .cons (.forr (.cons (.nm 1) (.cons (.nm 2) .nil)) (.en (.var 0)) l24_3) b24_7
def b24 : Ss := .cons (.iff (.bop false (.nt (.isi (.var 0) "tuple")) (.cmp .Gt (.bi .len (.cons (.var 0) .nil)) (.cst (.int 40)))) l24_1 .nil) b24_2
theorem c24 : (cBody 90 ct24 (defBody (top 24))).map (·.1) = some b24 := by kernel_rfl
/-- _law_odd(deck, rule) : 0 deck, 1 rule, 2 bound, 3 step, 4 odd -/
def b25_5 : Ss := .cons (.ret (.call 15 (.cons (.var 0) (.cons (.bin .Add (.var 4) (.lst (.cons (.tup (.cons (.var 2) (.cons (.cst (.int 2)) .nil))) (.cons (.tup (.cons (.var 2) (.cons (.cst (.int 0)) .nil))) (.cons (.tup (.cons (.bin .Pow (.cst (.int 10)) (.cst (.int 60))) (.cons (.bin .Mult (.cst (.int 7)) (.bin .Pow (.cst (.int 10)) (.cst (.int 58)))) .nil))) (.cons (.cst (.bl true)) (.cons (.neg (.ix (.var 1) (.cst (.int 0)))) (.cons (.tup (.cons (.var 1) (.cons (.var 1) .nil))) .nil)))))))) .nil)))) .nil
def b25_4 : Ss := .cons (.asg (.nm 4) (.bin .Add (.var 4) (.lst (.cons (.tup (.cons (.var 2) (.cons (.bin .Add (.bin .Pow (.cst (.int 10)) (.cst (.int 59))) (.cst (.int 1))) .nil))) (.cons (.tup (.cons (.cst (.int 0)) (.cons (.bin .Sub (.bin .Pow (.cst (.int 10)) (.cst (.int 60))) (.cst (.int 1))) .nil))) .nil))))) b25_5
def b25_3 : Ss := .cons (.asg (.nm 4) (.bin .Add (.var 4) (.lst (.cons (.tup (.cons (.var 3) (.cons (.tup (.cons (.var 2) .nil)) .nil))) (.cons (.tup (.cons (.var 2) (.cons (.bin .Add (.bin .Pow (.cst (.int 10)) (.cst (.int 60))) (.cst (.int 1))) .nil))) (.cons (.tup (.cons (.cst (.int 0)) (.cons (.cst (.int 0)) .nil))) (.cons (.tup (.cons (.bin .Pow (.cst (.int 10)) (.cst (.int 60))) (.cons (.bin .Pow (.cst (.int 10)) (.cst (.int 60))) .nil))) (.cons (.tup (.cons (.var 2) (.cons (.cst (.int 101)) .nil))) .nil)))))))) b25_4
def b25_2 : Ss := .cons (.asg (.nm 4) (.bin .Add (.var 4) (.lst (.cons (.lst (.cons (.var 2) (.cons (.var 3) .nil))) (.cons (.tup (.cons (.var 2) .nil)) (.cons (.tup (.cons (.var 2) (.cons (.var 3) (.cons (.cst (.int 0)) .nil)))) (.cons (.cst .non) (.cons (.cst (.int 0)) (.cons (.cst (.str "99/10")) (.cons (.tup .nil) (.cons .dnil (.cons (.tup (.cons (.bi .str (.cons (.var 2) .nil)) (.cons (.var 3) .nil))) (.cons (.tup (.cons (.var 2) (.cons (.cst .non) .nil))) .nil))))))))))))) b25_3
def b25_1 : Ss := .cons (.asg (.nm 4) (.lst (.cons (.tup (.cons (.var 2) (.cons (.cst (.int 1)) .nil))) (.cons (.tup (.cons (.var 2) (.cons (.neg (.var 3)) .nil))) (.cons (.tup (.cons (.neg (.cst (.int 1))) (.cons (.var 3) .nil))) (.cons (.tup (.cons (.var 2) (.cons (.cmp .Eq (.var 3) (.cst (.int 2))) .nil))) (.cons (.tup (.cons (.cmp .Eq (.var 2) (.cst (.int 1))) (.cons (.var 3) .nil))) (.cons (.tup (.cons (.bin .Add (.bin .Pow (.cst (.int 10)) (.cst (.int 60))) (.cst (.int 1))) (.cons (.var 3) .nil))) .nil)))))))) b25_2
def b25 : Ss := .cons (.asg (.cons (.nm 2) (.cons (.nm 3) .nil)) (.var 1)) b25_1
theorem c25 : (cBody 90 ct25 (defBody (top 25))).map (·.1) = some b25 := by kernel_rfl
/-- _law_spoilt(deck, scale) : 0 deck, 1 scale, 2 rows, 3 turn, 4 spot, 5 rest -/
def l26_4 : Ss := .cons (.app 2 (.call 25 (.cons (.var 0) (.cons (.tup (.cons (.cst (.int 7)) (.cons (.cst (.int 2)) .nil))) .nil)))) .nil
def l26_5 : Ss := .cons (.seti 2 (.var 4) (.call 25 (.cons (.var 0) (.cons (.ife (.cmp .Lt (.var 4) (.bi .len (.cons (.var 1) .nil))) (.ix (.var 1) (.var 4)) (.tup (.cons (.cst (.int 7)) (.cons (.cst (.int 2)) .nil)))) .nil)))) .nil
def b26_3 : Ss := .cons (.iff (.cmp .Eq (.var 4) (.bi .len (.cons (.var 2) .nil))) l26_4 l26_5) .nil
def l26_2 : Ss := .cons (.asg (.nm 4) (.call 14 (.cons (.var 0) (.cons (.bin .Add (.bi .len (.cons (.var 2) .nil)) (.cst (.int 1))) .nil)))) b26_3
def b26_8 : Ss := .cons (.ret (.ife (.cmp .Gt (.call 14 (.cons (.var 0) (.cons (.cst (.int 4)) .nil))) (.cst (.int 0))) (.bi .tup (.cons (.var 2) .nil)) (.call 15 (.cons (.var 0) (.cons (.var 5) .nil))))) .nil
def b26_7 : Ss := .cons (.app 5 (.bin .Add (.sl (.var 1) .no (.so (.cst (.int 1)))) (.tup (.cons (.cst (.int 1)) .nil)))) b26_8
def b26_6 : Ss := .cons (.asg (.nm 5) (.lst (.cons (.bi .lst (.cons (.var 1) .nil)) (.cons (.sl (.bin .Mult (.var 1) (.cst (.int 41))) .no (.so (.cst (.int 41)))) (.cons (.bin .Add (.var 1) (.bin .Mult (.tup (.cons (.tup (.cons (.cst (.int 0)) (.cons (.cst (.int 2)) .nil))) .nil)) (.cst (.int 40)))) (.cons (.cst .non) (.cons (.cst (.int 0)) (.cons (.cst (.bl true)) (.cons (.cst (.str "scale")) (.cons .dnil (.cons (.tup (.cons (.var 1) .nil)) .nil))))))))))) b26_7
def b26_1 : Ss := .cons (.forr (.nm 3) (.rg1 (.bin .Add (.cst (.int 1)) (.call 14 (.cons (.var 0) (.cons (.cst (.int 2)) .nil))))) l26_2) b26_6
def b26 : Ss := .cons (.asg (.nm 2) (.bi .lst (.cons (.var 1) .nil))) b26_1
theorem c26 : (cBody 90 ct26 (defBody (top 26))).map (·.1) = some b26 := by kernel_rfl
/-- law(script) : 0 script, 1 deck, 2 turn, 3 scale, 4 values, 5 kept, 6 spot, 7 value, 8 seen -/
def l27_9 : Ss := .cons (.ret (.cst (.bl false))) .nil
def b27_8 : Ss := .cons (.iff (.cmp .NotEq (.bi .reprB (.cons (.lst (.cons (.var 8) (.cons (.call 11 (.cons (.var 7) .nil)) .nil))) .nil)) (.bi .reprB (.cons (.bin .Mult (.lst (.cons (.call 24 (.cons (.var 7) .nil)) .nil)) (.cst (.int 2))) .nil))) l27_9 .nil) .nil
def l27_7 : Ss := .cons (.asg (.nm 8) (.ife (.cmp .Eq (.var 6) (.var 2)) (.call 2000 (.cons (.var 7) .nil)) (.call 11 (.cons (.var 7) .nil)))) b27_8
def l27_11 : Ss := .cons (.ret (.cst (.bl false))) .nil
def b27_10 : Ss := .cons (.iff (.cmp .NotEq (.bi .reprB (.cons (.var 4) .nil)) (.var 5)) l27_11 .nil) .nil
def b27_6 : Ss := .cons (.forr (.cons (.nm 6) (.cons (.nm 7) .nil)) (.en (.var 4)) l27_7) b27_10
def b27_5 : Ss := .cons (.asg (.nm 5) (.bi .reprB (.cons (.var 4) .nil))) b27_6
def b27_4 : Ss := .cons (.app 4 (.bin .Add (.tup (.cons (.tup (.cons (.call 14 (.cons (.var 1) (.cons (.cst (.int 99)) .nil))) (.cons (.bin .Pow (.cst (.int 10)) (.cst (.int 60))) .nil))) .nil)) (.bi .tup (.cons (.sl (.lst (.cons (.tup (.cons (.cst (.int 9)) (.cons (.cst (.int 10)) .nil))) (.cons (.tup (.cons (.cst (.int 7)) (.cons (.cst (.int 16)) .nil))) .nil))) .no (.so (.call 14 (.cons (.var 1) (.cons (.cst (.int 3)) .nil))))) .nil)))) b27_5
def b27_3 : Ss := .cons (.app 4 (.bin .Add (.sl (.var 3) .no (.so (.cst (.int 3)))) (.tup (.cons (.tup (.cons (.cst (.int 0)) (.cons (.bin .Pow (.cst (.int 10)) (.cst (.int 60))) .nil))) (.cons (.tup (.cons (.cst (.int 9)) (.cons (.cst (.int 7)) .nil))) .nil))))) b27_4
def b27_2 : Ss := .cons (.asg (.nm 4) (.lst (.cons (.var 3) (.cons (.tup .nil) (.cons (.call 26 (.cons (.var 1) (.cons (.var 3) .nil))) (.cons (.call 26 (.cons (.var 1) (.cons (.sl (.var 3) .no (.so (.cst (.int 4)))) .nil))) .nil)))))) b27_3
def l27_1 : Ss := .cons (.asg (.nm 3) (.call 22 (.cons (.var 1) (.cons (.ix (.lst (.cons (.cst (.int 3)) (.cons (.cst (.int 6)) (.cons (.cst (.int 12)) (.cons (.cst (.int 39)) (.cons (.cst (.int 40)) (.cons (.cst (.int 2)) (.cons (.cst (.int 1)) .nil)))))))) (.var 2)) .nil)))) b27_2
def b27_12 : Ss := .cons (.ret (.bop true (.cmp .Is (.call 11 (.cons (.bin .Mult (.tup (.cons (.tup (.cons (.cst (.int 0)) (.cons (.cst (.int 2)) .nil))) .nil)) (.cst (.int 40))) .nil)) (.cst .non)) (.cmp .Eq (.bi .reprB (.cons (.call 11 (.cons (.bin .Mult (.tup (.cons (.tup (.cons (.cst (.int 0)) (.cons (.cst (.int 2)) .nil))) .nil)) (.cst (.int 41))) .nil)) .nil)) (.bi .reprB (.cons (.cst (.str "form")) .nil))))) .nil
def b27 : Ss := .cons (.forr (.nm 2) (.rg1 (.cst (.int 7))) l27_1) b27_12
theorem c27 : (cBody 90 ct27 ((defBody (top 27)).drop 1)).map (·.1) = some b27 := by kernel_rfl
def nms : List (Nat × String) := []

/-! data -/
abbrev Rule := Int × Int
def rl (r : Rule) : D := .tup [.int r.1, .int r.2]
abbrev SC (s : List Rule) : D := .tup (s.map rl)
/-- rules as the law makes them: bounds and steps not below 0, steps of at most 200 figures -/
def Good (s : List Rule) : Prop := s.length ≤ 41 ∧ ∃ L : Int, (0 < L ∧ L < 2 ^ 300) ∧ ∀ r, r ∈ s → (0 ≤ r.1 ∧ r.1 ≤ 10 ^ 60) ∧ 0 ≤ r.2 ∧ (r.2 = 0 ∨ r.2 ∣ L)
def fit (r : Rule) (n : Int) : Bool := decide ((n.natAbs : Int) ≤ r.1) || (decide (r.2 ≠ 0) && decide (n % r.2 = 0))
theorem rl_inj : ∀ {a b : List Rule}, a.map rl = b.map rl → a = b
  | [], [], _ => rfl
  | [], _ :: _, h => by cases h
  | _ :: _, [], h => by cases h
  | (x, y) :: a, (z, u) :: b, h => by
    simp only [List.map_cons, List.cons.injEq, rl, D.tup.injEq, D.int.injEq, and_true] at h
    obtain ⟨⟨h1, h2⟩, h3⟩ := h
    rw [h1, h2, rl_inj h3]
abbrev Bd0 (Γ : Gam) (b : Ss) (env : En) (Q : C → Prop) : Prop := wSs Γ b { nx := fun _ => Q (.sh .non), rt := Q } env
theorem map_get {sc : List Rule} {j : Nat} {d : D} (h : (sc.map rl)[j]? = some d) : ∃ r, sc[j]? = some r ∧ d = rl r := by
  rw [List.getElem?_map] at h
  cases e : sc[j]? with
  | none => rw [e] at h; cases h
  | some r =>
    rw [e] at h
    cases h
    exact ⟨r, rfl, rfl⟩
theorem mem_get {sc : List Rule} {j : Nat} {r : Rule} (h : sc[j]? = some r) : r ∈ sc := List.mem_of_getElem? h
theorem fit_abs {r : Rule} {n : Int} : (decide (r.1 < ((n.natAbs : Nat) : Int)) && (decide (r.2 = 0) || !decide (((n.natAbs : Nat) : Int) % r.2 = 0))) = !fit r n := by
  unfold fit
  have e : (((n.natAbs : Nat) : Int) % r.2 = 0) ↔ (n % r.2 = 0) := by
    rw [← Int.dvd_iff_emod_eq_zero, ← Int.dvd_iff_emod_eq_zero, Int.dvd_natAbs]
  by_cases h1 : r.1 < ((n.natAbs : Nat) : Int)
  · by_cases h2 : r.2 = 0
    · simp [h1, h2, Int.not_le.mpr h1]
    · by_cases h3 : n % r.2 = 0
      · simp [h1, h2, h3, e.mpr h3, Int.not_le.mpr h1]
      · have h4 : ¬ ((n.natAbs : Nat) : Int) % r.2 = 0 := fun z => h3 (e.mp z)
        simp [h1, h2, h3, h4, Int.not_le.mpr h1]
  · simp [h1, Int.not_lt.mp h1]
theorem okEq_rules (sc : List Rule) : okEq (.lst (sc.map rl)) := by
  have key : ∀ sc : List Rule, plnL (sc.map rl) = true ∧ PyData.canLayAll0 (toPyL (sc.map rl)) = true ∧ PyData.depthAll (toPyL (sc.map rl)) ≤ 1 := by
    intro sc
    induction sc with
    | nil => exact ⟨rfl, rfl, Nat.zero_le _⟩
    | cons r sc ih =>
      obtain ⟨h1, h2, h3⟩ := ih
      refine ⟨?_, ?_, ?_⟩
      · show (true && plnL (sc.map rl)) = true
        rw [h1]; rfl
      · show (true && PyData.canLayAll0 (toPyL (sc.map rl))) = true
        rw [h2]; rfl
      · show max 1 (PyData.depthAll (toPyL (sc.map rl))) ≤ 1
        omega
  obtain ⟨h1, h2, h3⟩ := key sc
  refine ⟨h1, ?_⟩
  show SeqAt.shaped (.list (toPyL (sc.map rl))) = true
  unfold SeqAt.shaped
  rw [Bool.and_eq_true]
  refine ⟨h2, decide_eq_true ?_⟩
  show PyData.depthAll (toPyL (sc.map rl)) + 1 ≤ 64
  omega
theorem okEq_tup (sc : List Rule) : okEq (SC sc) := by
  have h := okEq_rules sc
  exact ⟨h.1, h.2⟩
def GoodL (L : Int) (sc : List Rule) : Prop := ∀ r, r ∈ sc → (0 ≤ r.1 ∧ r.1 ≤ 10 ^ 60) ∧ 0 ≤ r.2 ∧ (r.2 = 0 ∨ r.2 ∣ L)
theorem last_rule {sc : List Rule} (h : sc ≠ []) : ∃ r3, atI (sc.map rl) (-1) = some (rl r3) := by
  have pos : 0 < sc.length := by
    cases sc with
    | nil => exact absurd rfl h
    | cons _ _ => exact Nat.succ_pos _
  refine ⟨sc[sc.length - 1], ?_⟩
  unfold atI ixN
  rw [if_neg (by decide), List.length_map, if_pos (by omega)]
  show (sc.map rl)[_]? = _
  rw [List.getElem?_map, List.getElem?_eq_getElem (by omega)]
  show some (rl sc[_]) = _
  congr 3
  omega
theorem shL : ∀ sc : List Rule, (∀ r, r ∈ sc → r.1.natAbs.log2 < 300 ∧ r.2.natAbs.log2 < 300) → PyData.leavesShortAll 310 (toPyL (sc.map rl)) = true ∧ PyData.showableAll (toPyL (sc.map rl)) = true ∧ PyData.bulkAll (toPyL (sc.map rl)) = 3 * sc.length ∧ PyData.depthAll (toPyL (sc.map rl)) ≤ 5 ∧ plnL (sc.map rl) = true
  | [], _ => by simp [toPyL, plnL, PyData.leavesShortAll, PyData.showableAll, PyData.bulkAll, PyData.depthAll]
  | r :: sc, h => by
    obtain ⟨i1, i2, i3, i4, i5⟩ := shL sc fun x hx => h x (List.mem_cons_of_mem _ hx)
    obtain ⟨a, b⟩ := h r List.mem_cons_self
    have A := sh_int a
    have B := sh_int b
    simp only [List.map_cons, rl, toPyL, toPy, plnL, pln, PyData.leavesShortAll, PyData.leavesShort, PyData.showableAll, PyData.showable, PyData.bulkAll, PyData.bulk, PyData.depthAll, PyData.depth] at *
    simp_all
    omega
theorem okSh_SC (sc : List Rule) (hl : sc.length ≤ 50) (h : ∀ r, r ∈ sc → r.1.natAbs.log2 < 300 ∧ r.2.natAbs.log2 < 300) : okSh (SC sc) := by
  obtain ⟨i1, i2, i3, i4, i5⟩ := shL sc h
  have e : toPy (SC sc) = .tuple (toPyL (sc.map rl)) := rfl
  have L := PyData.shown_le_bulk 310 (by decide) (.tuple (toPyL (sc.map rl))) i1
  have s0 : sizeLine = 16777216 := by decide
  unfold okSh
  rw [e]
  refine ⟨i5, i2, ?_, ?_⟩
  · simp only [PyData.bulk] at L
    omega
  · simp only [PyData.depth]
    omega
theorem Good.sh {sc : List Rule} (hg : Good sc) : okSh (SC sc) := by
  obtain ⟨hl, L, ⟨L0, L1⟩, hr⟩ := hg
  have T300 : (10 : Int) ^ 60 < 2 ^ 300 := by decide +kernel
  refine okSh_SC sc (by omega) fun r hr2 => ?_
  obtain ⟨⟨b0, b1⟩, s0, sL⟩ := hr r hr2
  have s1 : r.2 ≤ L := by
    rcases sL with z | z
    · omega
    · exact Int.le_of_dvd L0 z
  have lg : ∀ x : Int, 0 ≤ x → x < 2 ^ 300 → x.natAbs.log2 < 300 := fun x x0 x1 => by
    rcases Nat.eq_zero_or_pos x.natAbs with h | h
    · rw [h]; decide
    · exact (Nat.log2_lt (by omega)).mpr (abs_lt (by omega) (by omega))
  exact ⟨lg _ b0 (by generalize (10 : Int) ^ 60 = T at b1 T300; omega), lg _ s0 (by omega)⟩
theorem Good.st {sc : List Rule} (hg : Good sc) : ∀ r, r ∈ sc → 0 ≤ r.2 := fun r hr => (hg.2.choose_spec.2 r hr).2.1
theorem fit_neg (r : Rule) (n : Int) : fit r (-n) = fit r n := by
  unfold fit
  rw [Int.natAbs_neg]
  congr 2
  simp only [Int.emod_emod_of_dvd, decide_eq_decide]
  rw [← Int.dvd_iff_emod_eq_zero, ← Int.dvd_iff_emod_eq_zero, Int.dvd_neg]
/-- primes and how often at most -/
def kb (ks : List Rule) : Int := ks.foldr (fun r x => r.1 ^ (max 3 r.2).toNat * x) 1
def KOk (ks : List Rule) : Prop := ks ≠ [] ∧ (∀ r, r ∈ ks → 2 ≤ r.1 ∧ r.1 ≤ 100 ∧ 1 ≤ r.2 ∧ r.2 ≤ 190) ∧ kb ks < 2 ^ 300
instance (ks : List Rule) : Decidable (KOk ks) := by unfold KOk; infer_instance
def fst_ (s : List Rule) (n : Int) : Option Nat := s.findIdx? fun r => !fit r n
def pl : Option Nat → D
  | none => .non
  | some i => .int i
theorem enum_get {sc : List Rule} {j : Nat} {d : D} (h : (enumD 0 (sc.map rl))[j]? = some d) : ∃ r, sc[j]? = some r ∧ d = .tup [.int j, rl r] := by
  obtain ⟨x, h1, h2⟩ := enumD_get 0 _ j d h
  rw [List.getElem?_map] at h1
  cases e : sc[j]? with
  | none => rw [e] at h1; cases h1
  | some r =>
    rw [e] at h1
    cases h1
    exact ⟨r, rfl, by rw [h2, Nat.zero_add]⟩
def Upto (sc : List Rule) (n : Int) (i : Nat) : Prop := ∀ k r, k < i → sc[k]? = some r → fit r n = true
theorem upto_succ {sc : List Rule} {n : Int} {j : Nat} {r : Rule} (hu : Upto sc n j) (hr : sc[j]? = some r) (hf : fit r n = true) : Upto sc n (j + 1) := by
  intro k r2 hk e
  by_cases hkj : k = j
  · subst hkj
    rw [hr] at e
    cases e
    exact hf
  · exact hu k r2 (by omega) e
theorem fst_some {sc : List Rule} {n : Int} {j : Nat} {r : Rule} (h : Upto sc n j) (e : sc[j]? = some r) (hf : fit r n = false) : fst_ sc n = some j := by
  unfold fst_
  rw [List.findIdx?_eq_some_iff_getElem]
  obtain ⟨hj, hr⟩ := List.getElem?_eq_some_iff.mp e
  refine ⟨hj, by rw [hr, hf]; rfl, fun k hk => ?_⟩
  have := h k sc[k] hk (List.getElem?_eq_getElem (by omega))
  rw [this]
  decide
theorem fst_none {sc : List Rule} {n : Int} (h : Upto sc n sc.length) : fst_ sc n = none := by
  unfold fst_
  rw [List.findIdx?_eq_none_iff]
  intro r hr
  obtain ⟨k, hk, e⟩ := List.getElem_of_mem hr
  rw [h k r hk (by rw [List.getElem?_eq_getElem hk, e])]
  rfl
theorem all_iff {sc : List Rule} {n : Int} : (sc.all fun r => fit r n) = isN (pl (fst_ sc n)) := by
  unfold fst_
  cases e : sc.findIdx? fun r => !fit r n with
  | none =>
    rw [List.findIdx?_eq_none_iff] at e
    rw [List.all_eq_true.mpr fun r hr => by have := e r hr; simpa using this]
    rfl
  | some j =>
    rw [List.findIdx?_eq_some_iff_getElem] at e
    obtain ⟨hj, hf, _⟩ := e
    show _ = false
    rw [List.all_eq_false]
    exact ⟨_, List.getElem_mem hj, by simpa using hf⟩
theorem len_enum (sc : List Rule) : (enumD 0 (sc.map rl)).length = sc.length := by rw [enumD_len, List.length_map]
theorem kb_pos {ks : List Rule} (h : ∀ r, r ∈ ks → 2 ≤ r.1 ∧ r.1 ≤ 100 ∧ 1 ≤ r.2 ∧ r.2 ≤ 190) : 0 < kb ks := by
  induction ks with
  | nil => decide
  | cons r ks ih =>
    have h1 := (h r List.mem_cons_self).1
    have h2 := ih fun r2 h2 => h r2 (List.mem_cons_of_mem _ h2)
    show 0 < r.1 ^ (max 3 r.2).toNat * kb ks
    exact Int.mul_pos (Int.pow_pos (by omega)) h2
theorem pow_100 {b : Int} (h0 : 0 ≤ b) (h : b ≤ 100) (n : Nat) : b ^ n ≤ 100 ^ n := by
  induction n with
  | zero => rw [Int.pow_zero, Int.pow_zero]; exact Int.le_refl _
  | succ n ih =>
    rw [Int.pow_succ, Int.pow_succ]
    exact Int.mul_le_mul ih h h0 (Int.pow_nonneg (by omega))
theorem pow_mono {b : Int} (h : 1 ≤ b) {i j : Nat} (hij : i ≤ j) : b ^ i ≤ b ^ j := by
  induction hij with
  | refl => exact Int.le_refl _
  | step _ ih =>
    rw [Int.pow_succ]
    have h0 : 0 ≤ b ^ i := Int.pow_nonneg (by omega)
    have := Int.mul_le_mul_of_nonneg_left h (Int.le_trans h0 ih)
    omega
theorem fst_lt {sc : List Rule} {n : Int} {k : Nat} (h : fst_ sc n = some k) : k < sc.length := by
  unfold fst_ at h
  exact (List.findIdx?_eq_some_iff_findIdx_eq.mp h).1
theorem fst_all {sc : List Rule} {n : Int} : (sc.all fun r => fit r n) = (fst_ sc n).isNone := by
  unfold fst_
  rw [List.findIdx?_isNone]
  induction sc with
  | nil => rfl
  | cons r t ih => simp_all [List.all_cons]

def lcm_ (w s : Int) : Int := w / (Nat.gcd w.natAbs s.natAbs : Nat) * s
theorem lcm_dvd {w s : Int} (hw : 0 < w) (hs : 0 < s) (n : Int) : lcm_ w s ∣ n ↔ w ∣ n ∧ s ∣ n := by
  have hg : 0 < Nat.gcd w.natAbs s.natAbs := Nat.gcd_pos_of_pos_left _ (by omega)
  have e : lcm_ w s = (Int.lcm w s : Int) := by
    unfold lcm_ Int.lcm Nat.lcm
    rw [Int.natCast_ediv, Int.natCast_mul]
    have hd : ((Nat.gcd w.natAbs s.natAbs : Nat) : Int) ∣ w := Int.ofNat_dvd_left.mpr (Nat.gcd_dvd_left _ _)
    rw [show ((w.natAbs : Nat) : Int) = w by omega, show ((s.natAbs : Nat) : Int) = s by omega]
    obtain ⟨q, hq⟩ := hd
    have hg2 : ((Nat.gcd w.natAbs s.natAbs : Nat) : Int) ≠ 0 := by omega
    generalize ((Nat.gcd w.natAbs s.natAbs : Nat) : Int) = g at hq hg2
    subst hq
    rw [Int.mul_ediv_cancel_left _ hg2, Int.mul_assoc, Int.mul_ediv_cancel_left _ hg2]
  rw [e]
  constructor
  · intro h
    exact ⟨Int.dvd_trans (Int.dvd_lcm_left w s) h, Int.dvd_trans (Int.dvd_lcm_right w s) h⟩
  · intro ⟨h1, h2⟩
    rw [Int.ofNat_dvd_left]
    exact Nat.lcm_dvd (Int.natAbs_dvd_natAbs.mpr h1) (Int.natAbs_dvd_natAbs.mpr h2)
theorem lcm_pos {w s : Int} (hw : 0 < w) (hs : 0 < s) : 0 < lcm_ w s := by
  have h := (lcm_dvd hw hs (w * s)).mpr ⟨Int.dvd_mul_right _ _, Int.dvd_mul_left _ _⟩
  have p : 0 < w * s := Int.mul_pos hw hs
  unfold lcm_ at h ⊢
  have hg : (0 : Int) < (Nat.gcd w.natAbs s.natAbs : Nat) := by
    have := Nat.gcd_pos_of_pos_left (m := w.natAbs) s.natAbs (by omega)
    omega
  have q0 : 0 ≤ w / (Nat.gcd w.natAbs s.natAbs : Nat) := Int.ediv_nonneg (by omega) (by omega)
  have : 0 ≤ w / (Nat.gcd w.natAbs s.natAbs : Nat) * s := Int.mul_nonneg q0 (by omega)
  rcases Int.lt_or_eq_of_le this with z | z
  · exact z
  · rw [← z] at h
    have := Int.zero_dvd.mp h
    omega
def gcI (a b : Int) : Int := ((Nat.gcd a.natAbs b.natAbs : Nat) : Int)

/-! what the defs ask and tell -/
abbrev M60 : Int := 10 ^ 60
def T60 : Int := 1000000000000000000000000000000000000000000000000000000000000
def GoodT (sc : List Rule) : Prop := sc ≠ [] ∧ sc.length ≤ 40 ∧ ∃ L : Int, (0 < L ∧ L ≤ T60) ∧ GoodL L sc
abbrev numB : D → Bool := wholeB (-M60) M60
def ruleB : D → Bool
  | .tup [.int b, .int s] => (decide (0 ≤ b) && decide (b ≤ M60)) && ((decide (0 ≤ s) && decide (s ≤ M60)) && !decide (s = 1))
  | _ => false
def stp : D → Int
  | .tup [_, .int s] => s
  | _ => 0
def lcmF (ns : List Int) : Int := ns.foldl lcm_ 1
def stps (l : List D) : List Int := (l.map stp).filter fun s => decide (s ≠ 0)
def scerr : D → D
  | .tup l => if l.length ≤ 40 then (match firB "rule" (l.map ruleB) with
      | .non => if M60 < lcmF (stps l) then .str "great" else .non
      | d => d) else .str "form"
  | _ => .str "form"
abbrev Tg (d : D) : Prop := Sn 220000 6 d
abbrev Tw (d : D) : Prop := Sn 5000 3 d
def Rl (d : D) : Prop := ∃ b s : Int, d = .tup [.int b, .int s] ∧ (0 ≤ b ∧ b ≤ M60) ∧ 0 ≤ s ∧ s ≤ M60
def gam : Gam := fun n ds Q => match n, ds with
  | 5, [.int a, .int b] => (0 < a ∧ 0 < b ∧ a.natAbs < 2 ^ 8400 ∧ b.natAbs < 2 ^ 210) ∧ Q (.sh (.int (lcm_ a b)))
  | 7, [d] => plx d = true ∧ Q (.sh (.bl (whl d)))
  | 8, [d] => plx d = true ∧ Q (.sh (.bl (numB d)))
  | 9, [d] => plx d = true ∧ Q (.sh (.bl (ruleB d)))
  | 10, [.tup l] => (l.length ≤ 40 ∧ ∀ d, d ∈ l → ruleB d = true) ∧ Q (.sh (.int (lcmF (stps l))))
  | 11, [d] => plx d = true ∧ Q (.sh (scerr d))
  | 2000, [d] => plx d = true ∧ Q (.sh (scerr d))
  | 14, [.hd 0, .int m] => (0 < m ∧ m.natAbs.log2 < 9000) ∧ ∀ r : Int, 0 ≤ r → r < m → Q (.sh (.int r))
  | 15, [.hd 0, .lst l] => (0 < l.length ∧ l.length < 1000) ∧ ∀ d, d ∈ l → Q (.sh d)
  | 16, [.hd 0, l] => ∃ sc : List Rule, l = .lst (sc.map rl) ∧ sc.length < 1000 ∧ ∀ m : List Rule, m.Perm sc → Q (.ow (.lst (m.map rl)))
  | 17, [.int a, .int b] => (0 ≤ a ∧ 0 ≤ b) ∧ Q (.sh (.int (gcI a b)))
  | 18, [.lst l] => ∃ ns : List Int, l = ns.map D.int ∧ (ns.length ≤ 40 ∧ ∀ n, n ∈ ns → 0 < n ∧ n ≤ M60) ∧ Q (.sh (.int (lcmF ns)))
  | 19, [.int b, .int n] => (1 ≤ b ∧ b ≤ 100 ∧ 0 ≤ n ∧ n ≤ 200) ∧ Q (.sh (.int (b ^ n.toNat)))
  | 20, [.hd 0, l] => ∃ ks : List Rule, l = .lst (ks.map rl) ∧ KOk ks ∧ ∀ r : Int, 2 ≤ r → r ∣ kb ks → Q (.sh (.int r))
  | 21, [.hd 0] => ∀ ks : List Rule, (KOk ks ∧ kb ks ≤ T60) → Q (.sh (.lst (ks.map rl)))
  | 22, [.hd 0, .int m] => (1 ≤ m ∧ m ≤ 40) ∧ ∀ sc : List Rule, GoodT sc → Q (.sh (SC sc))
  | 23, [d, .int a, .int b] => plx d = true ∧ Q (.sh (.bl (wholeB a b d)))
  | 24, [d] => plx d = true ∧ Q (.sh (scerr d))
  | 25, [.hd 0, r] => Rl r ∧ ∀ d, Tw d → Q (.sh d)
  | 26, [.hd 0, .tup l] => (l.length ≤ 40 ∧ ∀ d, d ∈ l → Rl d) ∧ ∀ d, Tg d → Q (.sh d)
  | _, _ => False
section
variable {m a b : Int} {x d r : D} {l s f : List D} {Q : C → Prop} {w : Str} {bs : List Bool} {ns : List Int}
theorem g5 : gam 5 [.int a, .int b] Q = ((0 < a ∧ 0 < b ∧ a.natAbs < 2 ^ 8400 ∧ b.natAbs < 2 ^ 210) ∧ Q (.sh (.int (lcm_ a b)))) := rfl
theorem g7 : gam 7 [d] Q = (plx d = true ∧ Q (.sh (.bl (whl d)))) := rfl
theorem g8 : gam 8 [d] Q = (plx d = true ∧ Q (.sh (.bl (numB d)))) := rfl
theorem g9 : gam 9 [d] Q = (plx d = true ∧ Q (.sh (.bl (ruleB d)))) := rfl
theorem g10 : gam 10 [.tup l] Q = ((l.length ≤ 40 ∧ ∀ d, d ∈ l → ruleB d = true) ∧ Q (.sh (.int (lcmF (stps l))))) := rfl
theorem g11 : gam 11 [d] Q = (plx d = true ∧ Q (.sh (scerr d))) := rfl
theorem g2000 : gam 2000 [d] Q = (plx d = true ∧ Q (.sh (scerr d))) := rfl
theorem g14 : gam 14 [.hd 0, .int m] Q = ((0 < m ∧ m.natAbs.log2 < 9000) ∧ ∀ r : Int, 0 ≤ r → r < m → Q (.sh (.int r))) := rfl
theorem g15 : gam 15 [.hd 0, .lst l] Q = ((0 < l.length ∧ l.length < 1000) ∧ ∀ d, d ∈ l → Q (.sh d)) := rfl
theorem g16 : gam 16 [.hd 0, r] Q = (∃ sc : List Rule, r = .lst (sc.map rl) ∧ sc.length < 1000 ∧ ∀ m : List Rule, m.Perm sc → Q (.ow (.lst (m.map rl)))) := rfl
theorem g17 : gam 17 [.int a, .int b] Q = ((0 ≤ a ∧ 0 ≤ b) ∧ Q (.sh (.int (gcI a b)))) := rfl
theorem i18 (h : ns.length ≤ 40) (h1 : ∀ n, n ∈ ns → 0 < n ∧ n ≤ M60) (q : Q (.sh (.int (lcmF ns)))) : gam 18 [.lst (ns.map D.int)] Q := ⟨ns, rfl, ⟨h, h1⟩, q⟩
theorem g19 : gam 19 [.int b, .int m] Q = ((1 ≤ b ∧ b ≤ 100 ∧ 0 ≤ m ∧ m ≤ 200) ∧ Q (.sh (.int (b ^ m.toNat)))) := rfl
theorem g20 : gam 20 [.hd 0, r] Q = (∃ ks : List Rule, r = .lst (ks.map rl) ∧ KOk ks ∧ ∀ r : Int, 2 ≤ r → r ∣ kb ks → Q (.sh (.int r))) := rfl
theorem g21 : gam 21 [.hd 0] Q = ∀ ks : List Rule, (KOk ks ∧ kb ks ≤ T60) → Q (.sh (.lst (ks.map rl))) := rfl
theorem g22 : gam 22 [.hd 0, .int m] Q = ((1 ≤ m ∧ m ≤ 40) ∧ ∀ sc : List Rule, GoodT sc → Q (.sh (SC sc))) := rfl
theorem g23 : gam 23 [d, .int a, .int b] Q = (plx d = true ∧ Q (.sh (.bl (wholeB a b d)))) := rfl
theorem g24 : gam 24 [d] Q = (plx d = true ∧ Q (.sh (scerr d))) := rfl
theorem g25 : gam 25 [.hd 0, r] Q = (Rl r ∧ ∀ d, Tw d → Q (.sh d)) := rfl
theorem g26 : gam 26 [.hd 0, .tup l] Q = ((l.length ≤ 40 ∧ ∀ d, d ∈ l → Rl d) ∧ ∀ d, Tg d → Q (.sh d)) := rfl
end
theorem gam_ok : GamOk gam := by
  intro f ds Q Q' hq h
  unfold gam at h ⊢
  split at h <;> first | exact h.elim | exact hq _ h | exact (fun r z => hq _ (h r z)) | exact ⟨h.1, hq _ h.2⟩ | exact ⟨h.1, fun r z => hq _ (h.2 r z)⟩ | exact ⟨h.1, fun r z z2 => hq _ (h.2 r z z2)⟩ | (obtain ⟨sc, e, q⟩ := h; exact ⟨sc, e, hq _ q⟩) | (obtain ⟨sc, e, z, q⟩ := h; exact ⟨sc, e, z, hq _ q⟩) | (obtain ⟨sc, e, z, q⟩ := h; exact ⟨sc, e, z, fun m y => hq _ (q m y)⟩) | (obtain ⟨sc, e, z, q⟩ := h; exact ⟨sc, e, z, fun m y y2 => hq _ (q m y y2)⟩)
abbrev Bd (b : Ss) (env : En) (Q : C → Prop) : Prop := wSs gam b { nx := fun _ => Q (.sh .non), rt := Q } env
theorem s1000 (k : Nat) (h : k < 1000) : k ≤ sizeLine := by rw [sizeL]; omega
theorem pw10 (n : Int) (a : 0 ≤ n) (b : n ≤ 60) : PowOk 10 n := pow_s a (by omega) (by decide)
theorem E60 : (10 : Int) ^ Int.toNat 60 = M60 := rfl
theorem cM60 : (1000000000000000000000000000000000000000000000000000000000000 : Int) = M60 := by decide +kernel

theorem div_abs {a : Int} {b : Int} {k : Nat} (h0 : 0 < b) (h : a.natAbs < 2 ^ k) : (a / b).natAbs < 2 ^ k := Nat.lt_of_le_of_lt (by
  rcases Int.lt_or_le a 0 with z | z
  · have h1 : -(a.natAbs : Int) ≤ a / b := Int.le_ediv_of_mul_le h0 (by
      have := Int.mul_le_mul_of_nonneg_left (show (1 : Int) ≤ b by omega) (show (0 : Int) ≤ (a.natAbs : Int) by omega)
      rw [Int.mul_one] at this
      rw [Int.neg_mul]
      omega)
    have h2 : a / b < 1 := Int.ediv_lt_of_lt_mul h0 (by omega)
    omega
  · have h1 := Int.ediv_nonneg z (show 0 ≤ b by omega)
    have h2 := Int.ediv_le_self b z
    omega) h
theorem t15 (l : List D) (Q : C → Prop) (h : gam 15 [.hd 0, .lst l] Q) : Bd b15 [some (.sh (.hd 0)), some (.sh (.lst l))] Q := by
  obtain ⟨⟨h1, h2⟩, q⟩ := h
  unfold Bd b15
  simp only [ss_cons, ss_nil, st_asg, st_asgT, st_par, st_seti, st_setk, st_app, st_ins, st_ext, st_expr, st_ret, st_iff, st_forr, st_whl, st_pass, st_brk, st_cont, tg_nm, tg_n, tg_c, tg_co, ev_var, ev_cst, ev_bin, ev_neg, ev_nt, ev_bop, ev_cmp, ev_chn, ev_ife, ev_tup, ev_lst, ev_ix, ev_sl, ev_rv, ev_dnil, ev_dsp, ev_bi, ev_call, ev_pop, ev_popA, ev_comp, ev_isi, te_nt, te_bop, te_cmp, te_chn, te_ife, te_var, te_call, te_bi, te_ix, te_bin, te_isi, te_cst, pk_var, pk_cst, pk_bin, pk_neg, pk_nt, pk_bop, pk_cmp, pk_chn, pk_ife, pk_tup, pk_lst, pk_ix, pk_sl, pk_rv, pk_dnil, pk_dsp, pk_bi, pk_call, pk_pop, pk_popA, pk_comp, pk_isi, rt_var, rt_cst, rt_bin, rt_neg, rt_nt, rt_bop, rt_cmp, rt_chn, rt_ife, rt_tup, rt_lst, rt_ix, rt_sl, rt_rv, rt_dnil, rt_dsp, rt_bi, rt_call, rt_pop, rt_comp, rt_isi, es_nil, es_cons, cs_nil, cs_cons, ps_nil, ps_cons, o_no, o_so, c_no, c_so, i_rg1, i_rg2, i_rg3, i_sq, i_dk, i_en, i_zp, i_rev, get_v, get_s, gets_nil, gets_cons, own_iff, ownd_iff, set_nil, set_cons, o_add, o_adds, o_addl, o_addt, o_sub, o_mul, o_mull, o_multt, o_div, o_mod, o_pow, o_shl, o_shr, o_and, o_or, o_xor, q_eq, q_ne, ek_s, ek_i, ek_b, ek_n, ek_l, ek_t, deq_str, q_lt, q_le, q_gt, q_ge, q_is, q_isn, q_isb, q_isnb, q_inl, q_int, q_nil, q_nit, x_l, x_t, x_s, z_l, z_t, v_l, v_t, f_lenl, f_lent, f_lens, f_abs, f_int, f_intb, f_bool, f_boolb, f_str, f_repr, f_reprB, f_sum, f_max1, f_min1, f_minP, f_max2, f_min2, f_lstl, f_lstt, f_lstd, f_dct, f_sortd, y_d1, y_d2, p_dic, k_dic, f_tupl, f_tupt, f_sorted, f_sortet, f_sset, f_sseu, f_all, f_any, f_gcd, f_lrg1, f_lrg2, f_trg1, f_trg2, t_bl, t_int, t_non, t_lst, t_tup, t_str, List.getElem?_cons_zero, List.getElem?_cons_succ, List.set_cons_zero, List.set_cons_succ, Option.some.injEq, exists_eq_left', exists_eq_left, exists_eq_right, exists_eq_right', cd_sh, cd_ow, D.int.injEq, D.bl.injEq, D.str.injEq, D.tup.injEq, D.lst.injEq, C.ow.injEq, C.sh.injEq, List.cons.injEq, reduceCtorEq, exists_and_left, exists_and_right, exists_const, implies_true, exists_eq, exists_eq', okEq_int, okEq_bl, okEq_non, deq_int, deq_bl, List.length_cons, List.length_nil, Nat.reduceAdd, true_and, and_true, if_true, if_false, decide_eq_true_eq, Bool.true_eq_false, Bool.false_eq_true, false_and, and_false, false_or, or_false, exists_false, and_self, D.hd.injEq, exists_prop, exists_eq_or_imp, Bool.not_eq_true, -Int.reducePow, -Nat.reducePow, g14]
  refine ⟨⟨by omega, log_s (by omega)⟩, fun r r0 r1 => ?_⟩
  have hlt : r.toNat < l.length := by omega
  refine ⟨l[r.toNat], ?_, q _ (List.getElem_mem hlt)⟩
  unfold atI ixN
  rw [if_pos r0, if_pos (by omega)]
  exact List.getElem?_eq_getElem hlt
theorem t19 (b n : Int) (Q : C → Prop) (h : gam 19 [.int b, .int n] Q) : Bd b19 [some (.sh (.int b)), some (.sh (.int n)), none, none] Q := by
  obtain ⟨⟨h1, h2, h3, h4⟩, q⟩ := h
  unfold Bd b19
  simp only [ss_cons, ss_nil, st_asg, st_asgT, st_par, st_seti, st_setk, st_app, st_ins, st_ext, st_expr, st_ret, st_iff, st_forr, st_whl, st_pass, st_brk, st_cont, tg_nm, tg_n, tg_c, tg_co, ev_var, ev_cst, ev_bin, ev_neg, ev_nt, ev_bop, ev_cmp, ev_chn, ev_ife, ev_tup, ev_lst, ev_ix, ev_sl, ev_rv, ev_dnil, ev_dsp, ev_bi, ev_call, ev_pop, ev_popA, ev_comp, ev_isi, te_nt, te_bop, te_cmp, te_chn, te_ife, te_var, te_call, te_bi, te_ix, te_bin, te_isi, te_cst, pk_var, pk_cst, pk_bin, pk_neg, pk_nt, pk_bop, pk_cmp, pk_chn, pk_ife, pk_tup, pk_lst, pk_ix, pk_sl, pk_rv, pk_dnil, pk_dsp, pk_bi, pk_call, pk_pop, pk_popA, pk_comp, pk_isi, rt_var, rt_cst, rt_bin, rt_neg, rt_nt, rt_bop, rt_cmp, rt_chn, rt_ife, rt_tup, rt_lst, rt_ix, rt_sl, rt_rv, rt_dnil, rt_dsp, rt_bi, rt_call, rt_pop, rt_comp, rt_isi, es_nil, es_cons, cs_nil, cs_cons, ps_nil, ps_cons, o_no, o_so, c_no, c_so, i_rg1, i_rg2, i_rg3, i_sq, i_dk, i_en, i_zp, i_rev, get_v, get_s, gets_nil, gets_cons, own_iff, ownd_iff, set_nil, set_cons, o_add, o_adds, o_addl, o_addt, o_sub, o_mul, o_mull, o_multt, o_div, o_mod, o_pow, o_shl, o_shr, o_and, o_or, o_xor, q_eq, q_ne, ek_s, ek_i, ek_b, ek_n, ek_l, ek_t, deq_str, q_lt, q_le, q_gt, q_ge, q_is, q_isn, q_isb, q_isnb, q_inl, q_int, q_nil, q_nit, x_l, x_t, x_s, z_l, z_t, v_l, v_t, f_lenl, f_lent, f_lens, f_abs, f_int, f_intb, f_bool, f_boolb, f_str, f_repr, f_reprB, f_sum, f_max1, f_min1, f_minP, f_max2, f_min2, f_lstl, f_lstt, f_lstd, f_dct, f_sortd, y_d1, y_d2, p_dic, k_dic, f_tupl, f_tupt, f_sorted, f_sortet, f_sset, f_sseu, f_all, f_any, f_gcd, f_lrg1, f_lrg2, f_trg1, f_trg2, t_bl, t_int, t_non, t_lst, t_tup, t_str, List.getElem?_cons_zero, List.getElem?_cons_succ, List.set_cons_zero, List.set_cons_succ, Option.some.injEq, exists_eq_left', exists_eq_left, exists_eq_right, exists_eq_right', cd_sh, cd_ow, D.int.injEq, D.bl.injEq, D.str.injEq, D.tup.injEq, D.lst.injEq, C.ow.injEq, C.sh.injEq, List.cons.injEq, reduceCtorEq, exists_and_left, exists_and_right, exists_const, implies_true, exists_eq, exists_eq', okEq_int, okEq_bl, okEq_non, deq_int, deq_bl, List.length_cons, List.length_nil, Nat.reduceAdd, true_and, and_true, if_true, if_false, decide_eq_true_eq, Bool.true_eq_false, Bool.false_eq_true, false_and, and_false, false_or, or_false, exists_false, and_self, D.hd.injEq, exists_prop, exists_eq_or_imp, Bool.not_eq_true, -Int.reducePow, -Nat.reducePow]
  refine ⟨⟨by omega, by omega⟩, ?_⟩
  refine for_inv gam_ok (fun i e => ∃ o, e = [some (.sh (.int b)), some (.sh (.int n)), some (.sh (.int (b ^ i))), o]) _ 0 _ ⟨none, by simp⟩ (fun j d e hd ⟨o, he⟩ => ?_) fun e ⟨o, he⟩ => ?_
  · subst he
    simp only [ss_cons, ss_nil, st_asg, st_asgT, st_par, st_seti, st_setk, st_app, st_ins, st_ext, st_expr, st_ret, st_iff, st_forr, st_whl, st_pass, st_brk, st_cont, tg_nm, tg_n, tg_c, tg_co, ev_var, ev_cst, ev_bin, ev_neg, ev_nt, ev_bop, ev_cmp, ev_chn, ev_ife, ev_tup, ev_lst, ev_ix, ev_sl, ev_rv, ev_dnil, ev_dsp, ev_bi, ev_call, ev_pop, ev_popA, ev_comp, ev_isi, te_nt, te_bop, te_cmp, te_chn, te_ife, te_var, te_call, te_bi, te_ix, te_bin, te_isi, te_cst, pk_var, pk_cst, pk_bin, pk_neg, pk_nt, pk_bop, pk_cmp, pk_chn, pk_ife, pk_tup, pk_lst, pk_ix, pk_sl, pk_rv, pk_dnil, pk_dsp, pk_bi, pk_call, pk_pop, pk_popA, pk_comp, pk_isi, rt_var, rt_cst, rt_bin, rt_neg, rt_nt, rt_bop, rt_cmp, rt_chn, rt_ife, rt_tup, rt_lst, rt_ix, rt_sl, rt_rv, rt_dnil, rt_dsp, rt_bi, rt_call, rt_pop, rt_comp, rt_isi, es_nil, es_cons, cs_nil, cs_cons, ps_nil, ps_cons, o_no, o_so, c_no, c_so, i_rg1, i_rg2, i_rg3, i_sq, i_dk, i_en, i_zp, i_rev, get_v, get_s, gets_nil, gets_cons, own_iff, ownd_iff, set_nil, set_cons, o_add, o_adds, o_addl, o_addt, o_sub, o_mul, o_mull, o_multt, o_div, o_mod, o_pow, o_shl, o_shr, o_and, o_or, o_xor, q_eq, q_ne, ek_s, ek_i, ek_b, ek_n, ek_l, ek_t, deq_str, q_lt, q_le, q_gt, q_ge, q_is, q_isn, q_isb, q_isnb, q_inl, q_int, q_nil, q_nit, x_l, x_t, x_s, z_l, z_t, v_l, v_t, f_lenl, f_lent, f_lens, f_abs, f_int, f_intb, f_bool, f_boolb, f_str, f_repr, f_reprB, f_sum, f_max1, f_min1, f_minP, f_max2, f_min2, f_lstl, f_lstt, f_lstd, f_dct, f_sortd, y_d1, y_d2, p_dic, k_dic, f_tupl, f_tupt, f_sorted, f_sortet, f_sset, f_sseu, f_all, f_any, f_gcd, f_lrg1, f_lrg2, f_trg1, f_trg2, t_bl, t_int, t_non, t_lst, t_tup, t_str, List.getElem?_cons_zero, List.getElem?_cons_succ, List.set_cons_zero, List.set_cons_succ, Option.some.injEq, exists_eq_left', exists_eq_left, exists_eq_right, exists_eq_right', cd_sh, cd_ow, D.int.injEq, D.bl.injEq, D.str.injEq, D.tup.injEq, D.lst.injEq, C.ow.injEq, C.sh.injEq, List.cons.injEq, reduceCtorEq, exists_and_left, exists_and_right, exists_const, implies_true, exists_eq, exists_eq', okEq_int, okEq_bl, okEq_non, deq_int, deq_bl, List.length_cons, List.length_nil, Nat.reduceAdd, true_and, and_true, if_true, if_false, decide_eq_true_eq, Bool.true_eq_false, Bool.false_eq_true, false_and, and_false, false_or, or_false, exists_false, and_self, D.hd.injEq, exists_prop, exists_eq_or_imp, Bool.not_eq_true, -Int.reducePow, -Nat.reducePow]
    exact ⟨mul_r (by omega), (Int.pow_succ b (0 + j)).symm⟩
  · subst he
    simp only [ss_cons, ss_nil, st_asg, st_asgT, st_par, st_seti, st_setk, st_app, st_ins, st_ext, st_expr, st_ret, st_iff, st_forr, st_whl, st_pass, st_brk, st_cont, tg_nm, tg_n, tg_c, tg_co, ev_var, ev_cst, ev_bin, ev_neg, ev_nt, ev_bop, ev_cmp, ev_chn, ev_ife, ev_tup, ev_lst, ev_ix, ev_sl, ev_rv, ev_dnil, ev_dsp, ev_bi, ev_call, ev_pop, ev_popA, ev_comp, ev_isi, te_nt, te_bop, te_cmp, te_chn, te_ife, te_var, te_call, te_bi, te_ix, te_bin, te_isi, te_cst, pk_var, pk_cst, pk_bin, pk_neg, pk_nt, pk_bop, pk_cmp, pk_chn, pk_ife, pk_tup, pk_lst, pk_ix, pk_sl, pk_rv, pk_dnil, pk_dsp, pk_bi, pk_call, pk_pop, pk_popA, pk_comp, pk_isi, rt_var, rt_cst, rt_bin, rt_neg, rt_nt, rt_bop, rt_cmp, rt_chn, rt_ife, rt_tup, rt_lst, rt_ix, rt_sl, rt_rv, rt_dnil, rt_dsp, rt_bi, rt_call, rt_pop, rt_comp, rt_isi, es_nil, es_cons, cs_nil, cs_cons, ps_nil, ps_cons, o_no, o_so, c_no, c_so, i_rg1, i_rg2, i_rg3, i_sq, i_dk, i_en, i_zp, i_rev, get_v, get_s, gets_nil, gets_cons, own_iff, ownd_iff, set_nil, set_cons, o_add, o_adds, o_addl, o_addt, o_sub, o_mul, o_mull, o_multt, o_div, o_mod, o_pow, o_shl, o_shr, o_and, o_or, o_xor, q_eq, q_ne, ek_s, ek_i, ek_b, ek_n, ek_l, ek_t, deq_str, q_lt, q_le, q_gt, q_ge, q_is, q_isn, q_isb, q_isnb, q_inl, q_int, q_nil, q_nit, x_l, x_t, x_s, z_l, z_t, v_l, v_t, f_lenl, f_lent, f_lens, f_abs, f_int, f_intb, f_bool, f_boolb, f_str, f_repr, f_reprB, f_sum, f_max1, f_min1, f_minP, f_max2, f_min2, f_lstl, f_lstt, f_lstd, f_dct, f_sortd, y_d1, y_d2, p_dic, k_dic, f_tupl, f_tupt, f_sorted, f_sortet, f_sset, f_sseu, f_all, f_any, f_gcd, f_lrg1, f_lrg2, f_trg1, f_trg2, t_bl, t_int, t_non, t_lst, t_tup, t_str, List.getElem?_cons_zero, List.getElem?_cons_succ, List.set_cons_zero, List.set_cons_succ, Option.some.injEq, exists_eq_left', exists_eq_left, exists_eq_right, exists_eq_right', cd_sh, cd_ow, D.int.injEq, D.bl.injEq, D.str.injEq, D.tup.injEq, D.lst.injEq, C.ow.injEq, C.sh.injEq, List.cons.injEq, reduceCtorEq, exists_and_left, exists_and_right, exists_const, implies_true, exists_eq, exists_eq', okEq_int, okEq_bl, okEq_non, deq_int, deq_bl, List.length_cons, List.length_nil, Nat.reduceAdd, true_and, and_true, if_true, if_false, decide_eq_true_eq, Bool.true_eq_false, Bool.false_eq_true, false_and, and_false, false_or, or_false, exists_false, and_self, D.hd.injEq, exists_prop, exists_eq_or_imp, Bool.not_eq_true, -Int.reducePow, -Nat.reducePow, List.length_map, List.length_range, Nat.zero_add]
    exact q
def I16 (l : D) (sc : List Rule) (m : Nat) (e : En) : Prop := ∃ a b : List Rule, (m = a.length ∧ (a ++ b).Perm sc) ∧ e = [some (.sh (.hd 0)), some (.sh l), some (.ow (.lst (a.map rl))), some (.ow (.lst (b.map rl)))]
theorem t16 (sc : List Rule) (Q : C → Prop) (hl : sc.length < 1000) (q : ∀ m : List Rule, m.Perm sc → Q (.ow (.lst (m.map rl)))) : Bd b16 [some (.sh (.hd 0)), some (.sh (.lst (sc.map rl))), none, none] Q := by
  unfold Bd b16
  simp only [ss_cons, ss_nil, st_asg, st_asgT, st_par, st_seti, st_setk, st_app, st_ins, st_ext, st_expr, st_ret, st_iff, st_forr, st_whl, st_pass, st_brk, st_cont, tg_nm, tg_n, tg_c, tg_co, ev_var, ev_cst, ev_bin, ev_neg, ev_nt, ev_bop, ev_cmp, ev_chn, ev_ife, ev_tup, ev_lst, ev_ix, ev_sl, ev_rv, ev_dnil, ev_dsp, ev_bi, ev_call, ev_pop, ev_popA, ev_comp, ev_isi, te_nt, te_bop, te_cmp, te_chn, te_ife, te_var, te_call, te_bi, te_ix, te_bin, te_isi, te_cst, pk_var, pk_cst, pk_bin, pk_neg, pk_nt, pk_bop, pk_cmp, pk_chn, pk_ife, pk_tup, pk_lst, pk_ix, pk_sl, pk_rv, pk_dnil, pk_dsp, pk_bi, pk_call, pk_pop, pk_popA, pk_comp, pk_isi, rt_var, rt_cst, rt_bin, rt_neg, rt_nt, rt_bop, rt_cmp, rt_chn, rt_ife, rt_tup, rt_lst, rt_ix, rt_sl, rt_rv, rt_dnil, rt_dsp, rt_bi, rt_call, rt_pop, rt_comp, rt_isi, es_nil, es_cons, cs_nil, cs_cons, ps_nil, ps_cons, o_no, o_so, c_no, c_so, i_rg1, i_rg2, i_rg3, i_sq, i_dk, i_en, i_zp, i_rev, get_v, get_s, gets_nil, gets_cons, own_iff, ownd_iff, set_nil, set_cons, o_add, o_adds, o_addl, o_addt, o_sub, o_mul, o_mull, o_multt, o_div, o_mod, o_pow, o_shl, o_shr, o_and, o_or, o_xor, q_eq, q_ne, ek_s, ek_i, ek_b, ek_n, ek_l, ek_t, deq_str, q_lt, q_le, q_gt, q_ge, q_is, q_isn, q_isb, q_isnb, q_inl, q_int, q_nil, q_nit, x_l, x_t, x_s, z_l, z_t, v_l, v_t, f_lenl, f_lent, f_lens, f_abs, f_int, f_intb, f_bool, f_boolb, f_str, f_repr, f_reprB, f_sum, f_max1, f_min1, f_minP, f_max2, f_min2, f_lstl, f_lstt, f_lstd, f_dct, f_sortd, y_d1, y_d2, p_dic, k_dic, f_tupl, f_tupt, f_sorted, f_sortet, f_sset, f_sseu, f_all, f_any, f_gcd, f_lrg1, f_lrg2, f_trg1, f_trg2, t_bl, t_int, t_non, t_lst, t_tup, t_str, List.getElem?_cons_zero, List.getElem?_cons_succ, List.set_cons_zero, List.set_cons_succ, Option.some.injEq, exists_eq_left', exists_eq_left, exists_eq_right, exists_eq_right', cd_sh, cd_ow, D.int.injEq, D.bl.injEq, D.str.injEq, D.tup.injEq, D.lst.injEq, C.ow.injEq, C.sh.injEq, List.cons.injEq, reduceCtorEq, exists_and_left, exists_and_right, exists_const, implies_true, exists_eq, exists_eq', okEq_int, okEq_bl, okEq_non, deq_int, deq_bl, List.length_cons, List.length_nil, Nat.reduceAdd, true_and, and_true, if_true, if_false, decide_eq_true_eq, Bool.true_eq_false, Bool.false_eq_true, false_and, and_false, false_or, or_false, exists_false, and_self, D.hd.injEq, exists_prop, exists_eq_or_imp, Bool.not_eq_true, -Int.reducePow, -Nat.reducePow]
  refine ⟨by rw [sizeL]; decide, ?_⟩
  refine whl_inv gam_ok (I16 (.lst (sc.map rl)) sc) (fun m e ⟨a, b, ⟨hm, hp⟩, he⟩ => ?_) (n := sc.length) ⟨sc, [], ⟨rfl, by rw [List.append_nil]⟩, rfl⟩
  subst he
  have hlen := hp.length_eq
  rw [List.length_append] at hlen
  simp only [ss_cons, ss_nil, st_asg, st_asgT, st_par, st_seti, st_setk, st_app, st_ins, st_ext, st_expr, st_ret, st_iff, st_forr, st_whl, st_pass, st_brk, st_cont, tg_nm, tg_n, tg_c, tg_co, ev_var, ev_cst, ev_bin, ev_neg, ev_nt, ev_bop, ev_cmp, ev_chn, ev_ife, ev_tup, ev_lst, ev_ix, ev_sl, ev_rv, ev_dnil, ev_dsp, ev_bi, ev_call, ev_pop, ev_popA, ev_comp, ev_isi, te_nt, te_bop, te_cmp, te_chn, te_ife, te_var, te_call, te_bi, te_ix, te_bin, te_isi, te_cst, pk_var, pk_cst, pk_bin, pk_neg, pk_nt, pk_bop, pk_cmp, pk_chn, pk_ife, pk_tup, pk_lst, pk_ix, pk_sl, pk_rv, pk_dnil, pk_dsp, pk_bi, pk_call, pk_pop, pk_popA, pk_comp, pk_isi, rt_var, rt_cst, rt_bin, rt_neg, rt_nt, rt_bop, rt_cmp, rt_chn, rt_ife, rt_tup, rt_lst, rt_ix, rt_sl, rt_rv, rt_dnil, rt_dsp, rt_bi, rt_call, rt_pop, rt_comp, rt_isi, es_nil, es_cons, cs_nil, cs_cons, ps_nil, ps_cons, o_no, o_so, c_no, c_so, i_rg1, i_rg2, i_rg3, i_sq, i_dk, i_en, i_zp, i_rev, get_v, get_s, gets_nil, gets_cons, own_iff, ownd_iff, set_nil, set_cons, o_add, o_adds, o_addl, o_addt, o_sub, o_mul, o_mull, o_multt, o_div, o_mod, o_pow, o_shl, o_shr, o_and, o_or, o_xor, q_eq, q_ne, ek_s, ek_i, ek_b, ek_n, ek_l, ek_t, deq_str, q_lt, q_le, q_gt, q_ge, q_is, q_isn, q_isb, q_isnb, q_inl, q_int, q_nil, q_nit, x_l, x_t, x_s, z_l, z_t, v_l, v_t, f_lenl, f_lent, f_lens, f_abs, f_int, f_intb, f_bool, f_boolb, f_str, f_repr, f_reprB, f_sum, f_max1, f_min1, f_minP, f_max2, f_min2, f_lstl, f_lstt, f_lstd, f_dct, f_sortd, y_d1, y_d2, p_dic, k_dic, f_tupl, f_tupt, f_sorted, f_sortet, f_sset, f_sseu, f_all, f_any, f_gcd, f_lrg1, f_lrg2, f_trg1, f_trg2, t_bl, t_int, t_non, t_lst, t_tup, t_str, List.getElem?_cons_zero, List.getElem?_cons_succ, List.set_cons_zero, List.set_cons_succ, Option.some.injEq, exists_eq_left', exists_eq_left, exists_eq_right, exists_eq_right', cd_sh, cd_ow, D.int.injEq, D.bl.injEq, D.str.injEq, D.tup.injEq, D.lst.injEq, C.ow.injEq, C.sh.injEq, List.cons.injEq, reduceCtorEq, exists_and_left, exists_and_right, exists_const, implies_true, exists_eq, exists_eq', okEq_int, okEq_bl, okEq_non, deq_int, deq_bl, List.length_cons, List.length_nil, Nat.reduceAdd, true_and, and_true, if_true, if_false, decide_eq_true_eq, Bool.true_eq_false, Bool.false_eq_true, false_and, and_false, false_or, or_false, exists_false, and_self, D.hd.injEq, exists_prop, exists_eq_or_imp, Bool.not_eq_true, -Int.reducePow, -Nat.reducePow, g14, deq_nil]
  refine ⟨by rw [sizeL]; decide, ⟨okEq_rules a, okEq_rules []⟩, ?_⟩
  cases a with
  | nil =>
    simp only [List.map_nil, List.isEmpty_nil, Bool.not_true, Bool.false_eq_true, if_false]
    exact q b hp
  | cons r0 a =>
    simp only [List.map_cons, List.isEmpty_cons, Bool.not_false, if_true]
    have e0 : (rl r0 :: a.map rl) = (r0 :: a).map rl := rfl
    rw [e0]
    have pos : 0 < (r0 :: a).length := Nat.succ_pos _
    generalize r0 :: a = a at hm hp hlen pos ⊢
    have lm : (a.map rl).length = a.length := List.length_map ..
    refine ⟨⟨by omega, log_s (by omega)⟩, fun r r0' r1 => ?_⟩
    have hr : r.toNat < a.length := by omega
    have hix : ixN (a.map rl).length r = some r.toNat := by
      unfold ixN
      rw [if_pos r0', if_pos (by omega)]
    refine ⟨by omega, by omega, r.toNat, (ixN_seq hix).1, rl a[r.toNat], ?_, by rw [List.length_map, sizeL]; omega, (a.eraseIdx r.toNat).length, ?_, a.eraseIdx r.toNat, b ++ [a[r.toNat]], ⟨rfl, ?_⟩, ?_⟩
    · rw [List.getElem?_map, List.getElem?_eq_getElem hr]
      rfl
    · rw [List.length_eraseIdx, if_pos hr]
      omega
    · refine List.Perm.trans ?_ hp
      have p1 := erase_perm a r.toNat hr
      refine List.Perm.trans ?_ (List.Perm.append_right b p1)
      rw [← List.append_assoc]
      exact (List.perm_append_singleton _ _)
    · rw [erase_map, List.map_append]
      rfl
def I17 (a b : Int) (m : Nat) (e : En) : Prop := ∃ x y : Int, (0 ≤ x ∧ 0 ≤ y ∧ m = y.toNat ∧ Int.gcd x y = Int.gcd a b) ∧ e = [some (.sh (.int x)), some (.sh (.int y))]
theorem t17 (a b : Int) (Q : C → Prop) (h : gam 17 [.int a, .int b] Q) : Bd b17 [some (.sh (.int a)), some (.sh (.int b))] Q := by
  obtain ⟨⟨h1, h2⟩, q⟩ := h
  unfold Bd b17
  simp only [ss_cons, ss_nil, st_asg, st_asgT, st_par, st_seti, st_setk, st_app, st_ins, st_ext, st_expr, st_ret, st_iff, st_forr, st_whl, st_pass, st_brk, st_cont, tg_nm, tg_n, tg_c, tg_co, ev_var, ev_cst, ev_bin, ev_neg, ev_nt, ev_bop, ev_cmp, ev_chn, ev_ife, ev_tup, ev_lst, ev_ix, ev_sl, ev_rv, ev_dnil, ev_dsp, ev_bi, ev_call, ev_pop, ev_popA, ev_comp, ev_isi, te_nt, te_bop, te_cmp, te_chn, te_ife, te_var, te_call, te_bi, te_ix, te_bin, te_isi, te_cst, pk_var, pk_cst, pk_bin, pk_neg, pk_nt, pk_bop, pk_cmp, pk_chn, pk_ife, pk_tup, pk_lst, pk_ix, pk_sl, pk_rv, pk_dnil, pk_dsp, pk_bi, pk_call, pk_pop, pk_popA, pk_comp, pk_isi, rt_var, rt_cst, rt_bin, rt_neg, rt_nt, rt_bop, rt_cmp, rt_chn, rt_ife, rt_tup, rt_lst, rt_ix, rt_sl, rt_rv, rt_dnil, rt_dsp, rt_bi, rt_call, rt_pop, rt_comp, rt_isi, es_nil, es_cons, cs_nil, cs_cons, ps_nil, ps_cons, o_no, o_so, c_no, c_so, i_rg1, i_rg2, i_rg3, i_sq, i_dk, i_en, i_zp, i_rev, get_v, get_s, gets_nil, gets_cons, own_iff, ownd_iff, set_nil, set_cons, o_add, o_adds, o_addl, o_addt, o_sub, o_mul, o_mull, o_multt, o_div, o_mod, o_pow, o_shl, o_shr, o_and, o_or, o_xor, q_eq, q_ne, ek_s, ek_i, ek_b, ek_n, ek_l, ek_t, deq_str, q_lt, q_le, q_gt, q_ge, q_is, q_isn, q_isb, q_isnb, q_inl, q_int, q_nil, q_nit, x_l, x_t, x_s, z_l, z_t, v_l, v_t, f_lenl, f_lent, f_lens, f_abs, f_int, f_intb, f_bool, f_boolb, f_str, f_repr, f_reprB, f_sum, f_max1, f_min1, f_minP, f_max2, f_min2, f_lstl, f_lstt, f_lstd, f_dct, f_sortd, y_d1, y_d2, p_dic, k_dic, f_tupl, f_tupt, f_sorted, f_sortet, f_sset, f_sseu, f_all, f_any, f_gcd, f_lrg1, f_lrg2, f_trg1, f_trg2, t_bl, t_int, t_non, t_lst, t_tup, t_str, List.getElem?_cons_zero, List.getElem?_cons_succ, List.set_cons_zero, List.set_cons_succ, Option.some.injEq, exists_eq_left', exists_eq_left, exists_eq_right, exists_eq_right', cd_sh, cd_ow, D.int.injEq, D.bl.injEq, D.str.injEq, D.tup.injEq, D.lst.injEq, C.ow.injEq, C.sh.injEq, List.cons.injEq, reduceCtorEq, exists_and_left, exists_and_right, exists_const, implies_true, exists_eq, exists_eq', okEq_int, okEq_bl, okEq_non, deq_int, deq_bl, List.length_cons, List.length_nil, Nat.reduceAdd, true_and, and_true, if_true, if_false, decide_eq_true_eq, Bool.true_eq_false, Bool.false_eq_true, false_and, and_false, false_or, or_false, exists_false, and_self, D.hd.injEq, exists_prop, exists_eq_or_imp, Bool.not_eq_true, -Int.reducePow, -Nat.reducePow]
  refine whl_inv gam_ok (I17 a b) (fun m e ⟨x, y, ⟨x0, y0, hm, hz⟩, he⟩ => ?_) (n := b.toNat) ⟨a, b, ⟨h1, by omega, rfl, rfl⟩, rfl⟩
  subst he
  simp only [ss_cons, ss_nil, st_asg, st_asgT, st_par, st_seti, st_setk, st_app, st_ins, st_ext, st_expr, st_ret, st_iff, st_forr, st_whl, st_pass, st_brk, st_cont, tg_nm, tg_n, tg_c, tg_co, ev_var, ev_cst, ev_bin, ev_neg, ev_nt, ev_bop, ev_cmp, ev_chn, ev_ife, ev_tup, ev_lst, ev_ix, ev_sl, ev_rv, ev_dnil, ev_dsp, ev_bi, ev_call, ev_pop, ev_popA, ev_comp, ev_isi, te_nt, te_bop, te_cmp, te_chn, te_ife, te_var, te_call, te_bi, te_ix, te_bin, te_isi, te_cst, pk_var, pk_cst, pk_bin, pk_neg, pk_nt, pk_bop, pk_cmp, pk_chn, pk_ife, pk_tup, pk_lst, pk_ix, pk_sl, pk_rv, pk_dnil, pk_dsp, pk_bi, pk_call, pk_pop, pk_popA, pk_comp, pk_isi, rt_var, rt_cst, rt_bin, rt_neg, rt_nt, rt_bop, rt_cmp, rt_chn, rt_ife, rt_tup, rt_lst, rt_ix, rt_sl, rt_rv, rt_dnil, rt_dsp, rt_bi, rt_call, rt_pop, rt_comp, rt_isi, es_nil, es_cons, cs_nil, cs_cons, ps_nil, ps_cons, o_no, o_so, c_no, c_so, i_rg1, i_rg2, i_rg3, i_sq, i_dk, i_en, i_zp, i_rev, get_v, get_s, gets_nil, gets_cons, own_iff, ownd_iff, set_nil, set_cons, o_add, o_adds, o_addl, o_addt, o_sub, o_mul, o_mull, o_multt, o_div, o_mod, o_pow, o_shl, o_shr, o_and, o_or, o_xor, q_eq, q_ne, ek_s, ek_i, ek_b, ek_n, ek_l, ek_t, deq_str, q_lt, q_le, q_gt, q_ge, q_is, q_isn, q_isb, q_isnb, q_inl, q_int, q_nil, q_nit, x_l, x_t, x_s, z_l, z_t, v_l, v_t, f_lenl, f_lent, f_lens, f_abs, f_int, f_intb, f_bool, f_boolb, f_str, f_repr, f_reprB, f_sum, f_max1, f_min1, f_minP, f_max2, f_min2, f_lstl, f_lstt, f_lstd, f_dct, f_sortd, y_d1, y_d2, p_dic, k_dic, f_tupl, f_tupt, f_sorted, f_sortet, f_sset, f_sseu, f_all, f_any, f_gcd, f_lrg1, f_lrg2, f_trg1, f_trg2, t_bl, t_int, t_non, t_lst, t_tup, t_str, List.getElem?_cons_zero, List.getElem?_cons_succ, List.set_cons_zero, List.set_cons_succ, Option.some.injEq, exists_eq_left', exists_eq_left, exists_eq_right, exists_eq_right', cd_sh, cd_ow, D.int.injEq, D.bl.injEq, D.str.injEq, D.tup.injEq, D.lst.injEq, C.ow.injEq, C.sh.injEq, List.cons.injEq, reduceCtorEq, exists_and_left, exists_and_right, exists_const, implies_true, exists_eq, exists_eq', okEq_int, okEq_bl, okEq_non, deq_int, deq_bl, List.length_cons, List.length_nil, Nat.reduceAdd, true_and, and_true, if_true, if_false, decide_eq_true_eq, Bool.true_eq_false, Bool.false_eq_true, false_and, and_false, false_or, or_false, exists_false, and_self, D.hd.injEq, exists_prop, exists_eq_or_imp, Bool.not_eq_true, -Int.reducePow, -Nat.reducePow]
  by_cases c : 0 < y
  · simp only [c, decide_true, if_true]
    have e1 := Int.emod_lt_of_pos x c
    have e0 := Int.emod_nonneg x (show y ≠ 0 by omega)
    refine ⟨trivial, (x % y).toNat, by omega, y, x % y, ⟨by omega, e0, rfl, ?_⟩, rfl⟩
    rw [← hz, Int.gcd_comm x y]
    obtain ⟨m1, rfl⟩ : ∃ k : Nat, x = k := ⟨x.toNat, by omega⟩
    obtain ⟨m2, rfl⟩ : ∃ k : Nat, y = k := ⟨y.toNat, by omega⟩
    rw [← Int.natCast_emod, Int.gcd_natCast_natCast, Int.gcd_natCast_natCast, Nat.gcd_comm m2, ← Nat.gcd_rec, Nat.gcd_comm]
  · simp only [c, decide_false, Bool.false_eq_true, if_false]
    have yz : y = 0 := by omega
    subst yz
    rw [Int.gcd_zero_right] at hz
    have q2 : Q (.sh (.int ((Int.gcd a b : Nat) : Int))) := q
    rw [← hz] at q2
    have : ((x.natAbs : Nat) : Int) = x := by omega
    rw [this] at q2
    exact q2
def I20 (l : D) (ks : List Rule) (i : Nat) (e : En) : Prop := ∃ (f : Int) (o1 o2 : Option C), (1 ≤ f ∧ f * kb (ks.drop i) ∣ kb ks) ∧ e = [some (.sh (.hd 0)), some (.sh l), some (.sh (.int f)), o1, o2]
theorem t20 (ks : List Rule) (Q : C → Prop) (hk : KOk ks) (q : ∀ r : Int, 2 ≤ r → r ∣ kb ks → Q (.sh (.int r))) : Bd b20 [some (.sh (.hd 0)), some (.sh (.lst (ks.map rl))), none, none, none] Q := by
  obtain ⟨k1, k2, k3⟩ := hk
  have kp := kb_pos k2
  unfold Bd b20
  simp only [ss_cons, ss_nil, st_asg, st_asgT, st_par, st_seti, st_setk, st_app, st_ins, st_ext, st_expr, st_ret, st_iff, st_forr, st_whl, st_pass, st_brk, st_cont, tg_nm, tg_n, tg_c, tg_co, ev_var, ev_cst, ev_bin, ev_neg, ev_nt, ev_bop, ev_cmp, ev_chn, ev_ife, ev_tup, ev_lst, ev_ix, ev_sl, ev_rv, ev_dnil, ev_dsp, ev_bi, ev_call, ev_pop, ev_popA, ev_comp, ev_isi, te_nt, te_bop, te_cmp, te_chn, te_ife, te_var, te_call, te_bi, te_ix, te_bin, te_isi, te_cst, pk_var, pk_cst, pk_bin, pk_neg, pk_nt, pk_bop, pk_cmp, pk_chn, pk_ife, pk_tup, pk_lst, pk_ix, pk_sl, pk_rv, pk_dnil, pk_dsp, pk_bi, pk_call, pk_pop, pk_popA, pk_comp, pk_isi, rt_var, rt_cst, rt_bin, rt_neg, rt_nt, rt_bop, rt_cmp, rt_chn, rt_ife, rt_tup, rt_lst, rt_ix, rt_sl, rt_rv, rt_dnil, rt_dsp, rt_bi, rt_call, rt_pop, rt_comp, rt_isi, es_nil, es_cons, cs_nil, cs_cons, ps_nil, ps_cons, o_no, o_so, c_no, c_so, i_rg1, i_rg2, i_rg3, i_sq, i_dk, i_en, i_zp, i_rev, get_v, get_s, gets_nil, gets_cons, own_iff, ownd_iff, set_nil, set_cons, o_add, o_adds, o_addl, o_addt, o_sub, o_mul, o_mull, o_multt, o_div, o_mod, o_pow, o_shl, o_shr, o_and, o_or, o_xor, q_eq, q_ne, ek_s, ek_i, ek_b, ek_n, ek_l, ek_t, deq_str, q_lt, q_le, q_gt, q_ge, q_is, q_isn, q_isb, q_isnb, q_inl, q_int, q_nil, q_nit, x_l, x_t, x_s, z_l, z_t, v_l, v_t, f_lenl, f_lent, f_lens, f_abs, f_int, f_intb, f_bool, f_boolb, f_str, f_repr, f_reprB, f_sum, f_max1, f_min1, f_minP, f_max2, f_min2, f_lstl, f_lstt, f_lstd, f_dct, f_sortd, y_d1, y_d2, p_dic, k_dic, f_tupl, f_tupt, f_sorted, f_sortet, f_sset, f_sseu, f_all, f_any, f_gcd, f_lrg1, f_lrg2, f_trg1, f_trg2, t_bl, t_int, t_non, t_lst, t_tup, t_str, List.getElem?_cons_zero, List.getElem?_cons_succ, List.set_cons_zero, List.set_cons_succ, Option.some.injEq, exists_eq_left', exists_eq_left, exists_eq_right, exists_eq_right', cd_sh, cd_ow, D.int.injEq, D.bl.injEq, D.str.injEq, D.tup.injEq, D.lst.injEq, C.ow.injEq, C.sh.injEq, List.cons.injEq, reduceCtorEq, exists_and_left, exists_and_right, exists_const, implies_true, exists_eq, exists_eq', okEq_int, okEq_bl, okEq_non, deq_int, deq_bl, List.length_cons, List.length_nil, Nat.reduceAdd, true_and, and_true, if_true, if_false, decide_eq_true_eq, Bool.true_eq_false, Bool.false_eq_true, false_and, and_false, false_or, or_false, exists_false, and_self, D.hd.injEq, exists_prop, exists_eq_or_imp, Bool.not_eq_true, -Int.reducePow, -Nat.reducePow]
  refine for_inv gam_ok (I20 (.lst (ks.map rl)) ks) _ 0 _ ⟨1, none, none, ⟨by omega, by rw [List.drop_zero, Int.one_mul]; exact Int.dvd_refl _⟩, rfl⟩ (fun j d e hd ⟨f, o1, o2, ⟨f0, f1⟩, he⟩ => ?_) fun e ⟨f, o1, o2, ⟨f0, f1⟩, he⟩ => ?_
  · subst he
    obtain ⟨r, hr, rfl⟩ := map_get hd
    obtain ⟨a1, a2, a3, a4⟩ := k2 r (mem_get hr)
    rw [Nat.zero_add] at f1 ⊢
    simp only [ss_cons, ss_nil, st_asg, st_asgT, st_par, st_seti, st_setk, st_app, st_ins, st_ext, st_expr, st_ret, st_iff, st_forr, st_whl, st_pass, st_brk, st_cont, tg_nm, tg_n, tg_c, tg_co, ev_var, ev_cst, ev_bin, ev_neg, ev_nt, ev_bop, ev_cmp, ev_chn, ev_ife, ev_tup, ev_lst, ev_ix, ev_sl, ev_rv, ev_dnil, ev_dsp, ev_bi, ev_call, ev_pop, ev_popA, ev_comp, ev_isi, te_nt, te_bop, te_cmp, te_chn, te_ife, te_var, te_call, te_bi, te_ix, te_bin, te_isi, te_cst, pk_var, pk_cst, pk_bin, pk_neg, pk_nt, pk_bop, pk_cmp, pk_chn, pk_ife, pk_tup, pk_lst, pk_ix, pk_sl, pk_rv, pk_dnil, pk_dsp, pk_bi, pk_call, pk_pop, pk_popA, pk_comp, pk_isi, rt_var, rt_cst, rt_bin, rt_neg, rt_nt, rt_bop, rt_cmp, rt_chn, rt_ife, rt_tup, rt_lst, rt_ix, rt_sl, rt_rv, rt_dnil, rt_dsp, rt_bi, rt_call, rt_pop, rt_comp, rt_isi, es_nil, es_cons, cs_nil, cs_cons, ps_nil, ps_cons, o_no, o_so, c_no, c_so, i_rg1, i_rg2, i_rg3, i_sq, i_dk, i_en, i_zp, i_rev, get_v, get_s, gets_nil, gets_cons, own_iff, ownd_iff, set_nil, set_cons, o_add, o_adds, o_addl, o_addt, o_sub, o_mul, o_mull, o_multt, o_div, o_mod, o_pow, o_shl, o_shr, o_and, o_or, o_xor, q_eq, q_ne, ek_s, ek_i, ek_b, ek_n, ek_l, ek_t, deq_str, q_lt, q_le, q_gt, q_ge, q_is, q_isn, q_isb, q_isnb, q_inl, q_int, q_nil, q_nit, x_l, x_t, x_s, z_l, z_t, v_l, v_t, f_lenl, f_lent, f_lens, f_abs, f_int, f_intb, f_bool, f_boolb, f_str, f_repr, f_reprB, f_sum, f_max1, f_min1, f_minP, f_max2, f_min2, f_lstl, f_lstt, f_lstd, f_dct, f_sortd, y_d1, y_d2, p_dic, k_dic, f_tupl, f_tupt, f_sorted, f_sortet, f_sset, f_sseu, f_all, f_any, f_gcd, f_lrg1, f_lrg2, f_trg1, f_trg2, t_bl, t_int, t_non, t_lst, t_tup, t_str, List.getElem?_cons_zero, List.getElem?_cons_succ, List.set_cons_zero, List.set_cons_succ, Option.some.injEq, exists_eq_left', exists_eq_left, exists_eq_right, exists_eq_right', cd_sh, cd_ow, D.int.injEq, D.bl.injEq, D.str.injEq, D.tup.injEq, D.lst.injEq, C.ow.injEq, C.sh.injEq, List.cons.injEq, reduceCtorEq, exists_and_left, exists_and_right, exists_const, implies_true, exists_eq, exists_eq', okEq_int, okEq_bl, okEq_non, deq_int, deq_bl, List.length_cons, List.length_nil, Nat.reduceAdd, true_and, and_true, if_true, if_false, decide_eq_true_eq, Bool.true_eq_false, Bool.false_eq_true, false_and, and_false, false_or, or_false, exists_false, and_self, D.hd.injEq, exists_prop, exists_eq_or_imp, Bool.not_eq_true, -Int.reducePow, -Nat.reducePow, rl, g14, g15]
    refine ⟨by rw [sizeL]; decide, ⟨by decide, by decide⟩, fun d hd => ?_⟩
    obtain ⟨x, rfl, x0, x1⟩ : ∃ x : Int, d = .int x ∧ 0 < x ∧ x ≤ max 3 r.2 + 1 := by
      simp only [List.mem_cons, List.not_mem_nil, or_false] at hd
      rcases hd with rfl | rfl | rfl | rfl <;> exact ⟨_, rfl, by omega, by omega⟩
    simp only [ss_cons, ss_nil, st_asg, st_asgT, st_par, st_seti, st_setk, st_app, st_ins, st_ext, st_expr, st_ret, st_iff, st_forr, st_whl, st_pass, st_brk, st_cont, tg_nm, tg_n, tg_c, tg_co, ev_var, ev_cst, ev_bin, ev_neg, ev_nt, ev_bop, ev_cmp, ev_chn, ev_ife, ev_tup, ev_lst, ev_ix, ev_sl, ev_rv, ev_dnil, ev_dsp, ev_bi, ev_call, ev_pop, ev_popA, ev_comp, ev_isi, te_nt, te_bop, te_cmp, te_chn, te_ife, te_var, te_call, te_bi, te_ix, te_bin, te_isi, te_cst, pk_var, pk_cst, pk_bin, pk_neg, pk_nt, pk_bop, pk_cmp, pk_chn, pk_ife, pk_tup, pk_lst, pk_ix, pk_sl, pk_rv, pk_dnil, pk_dsp, pk_bi, pk_call, pk_pop, pk_popA, pk_comp, pk_isi, rt_var, rt_cst, rt_bin, rt_neg, rt_nt, rt_bop, rt_cmp, rt_chn, rt_ife, rt_tup, rt_lst, rt_ix, rt_sl, rt_rv, rt_dnil, rt_dsp, rt_bi, rt_call, rt_pop, rt_comp, rt_isi, es_nil, es_cons, cs_nil, cs_cons, ps_nil, ps_cons, o_no, o_so, c_no, c_so, i_rg1, i_rg2, i_rg3, i_sq, i_dk, i_en, i_zp, i_rev, get_v, get_s, gets_nil, gets_cons, own_iff, ownd_iff, set_nil, set_cons, o_add, o_adds, o_addl, o_addt, o_sub, o_mul, o_mull, o_multt, o_div, o_mod, o_pow, o_shl, o_shr, o_and, o_or, o_xor, q_eq, q_ne, ek_s, ek_i, ek_b, ek_n, ek_l, ek_t, deq_str, q_lt, q_le, q_gt, q_ge, q_is, q_isn, q_isb, q_isnb, q_inl, q_int, q_nil, q_nit, x_l, x_t, x_s, z_l, z_t, v_l, v_t, f_lenl, f_lent, f_lens, f_abs, f_int, f_intb, f_bool, f_boolb, f_str, f_repr, f_reprB, f_sum, f_max1, f_min1, f_minP, f_max2, f_min2, f_lstl, f_lstt, f_lstd, f_dct, f_sortd, y_d1, y_d2, p_dic, k_dic, f_tupl, f_tupt, f_sorted, f_sortet, f_sset, f_sseu, f_all, f_any, f_gcd, f_lrg1, f_lrg2, f_trg1, f_trg2, t_bl, t_int, t_non, t_lst, t_tup, t_str, List.getElem?_cons_zero, List.getElem?_cons_succ, List.set_cons_zero, List.set_cons_succ, Option.some.injEq, exists_eq_left', exists_eq_left, exists_eq_right, exists_eq_right', cd_sh, cd_ow, D.int.injEq, D.bl.injEq, D.str.injEq, D.tup.injEq, D.lst.injEq, C.ow.injEq, C.sh.injEq, List.cons.injEq, reduceCtorEq, exists_and_left, exists_and_right, exists_const, implies_true, exists_eq, exists_eq', okEq_int, okEq_bl, okEq_non, deq_int, deq_bl, List.length_cons, List.length_nil, Nat.reduceAdd, true_and, and_true, if_true, if_false, decide_eq_true_eq, Bool.true_eq_false, Bool.false_eq_true, false_and, and_false, false_or, or_false, exists_false, and_self, D.hd.injEq, exists_prop, exists_eq_or_imp, Bool.not_eq_true, -Int.reducePow, -Nat.reducePow, g14]
    refine ⟨⟨x0, log_s (by omega)⟩, fun n n0 n1 => ?_⟩
    have hlt := (List.getElem?_eq_some_iff.mp hr)
    obtain ⟨hj, hje⟩ := hlt
    have hdrop : ks.drop j = r :: ks.drop (j + 1) := by
      rw [List.drop_eq_getElem_cons hj, hje]
    rw [hdrop] at f1
    have f1' : f * (r.1 ^ (max 3 r.2).toNat * kb (ks.drop (j + 1))) ∣ kb ks := f1
    have fle := Int.le_of_dvd kp (Int.dvd_trans (Int.dvd_mul_right f _) f1')
    have pe : r.1 ^ n.toNat ∣ r.1 ^ (max 3 r.2).toNat := by
      refine ⟨r.1 ^ ((max 3 r.2).toNat - n.toNat), ?_⟩
      rw [← Int.pow_add]
      congr 1
      omega
    have fd : (f * r.1 ^ n.toNat) * kb (ks.drop (j + 1)) ∣ kb ks := by
      refine Int.dvd_trans ?_ f1'
      rw [Int.mul_assoc]
      exact Int.mul_dvd_mul (Int.dvd_refl f) (Int.mul_dvd_mul pe (Int.dvd_refl _))
    have pp : 0 < r.1 ^ n.toNat := Int.pow_pos (by omega)
    have p1 := pow_100 (show 0 ≤ r.1 by omega) a2 n.toNat
    have p2 := pow_mono (b := 100) (by omega) (show n.toNat ≤ 200 by omega)
    have p3 : (100 : Int) ^ 200 < 2 ^ 1400 := by decide +kernel
    have hp : (r.1 ^ n.toNat).natAbs < 2 ^ 1400 := by
      generalize (100 : Int) ^ 200 = T at p2 p3
      generalize (100 : Int) ^ n.toNat = U at p1 p2
      generalize r.1 ^ n.toNat = X at pp p1
      exact abs_lt (by omega) (by omega)
    have hf : f.natAbs < 2 ^ 300 := abs_lt (by omega) (by omega)
    have f2 : 1 ≤ f * r.1 ^ n.toNat := by
      have := Int.mul_pos (show 0 < f by omega) pp
      omega
    exact ⟨⟨by omega, a2, n0, by omega⟩, (wide_mul hf hp (by decide) (by decide) (by decide)).ok, _, _, _, ⟨f2, fd⟩, rfl⟩
  · subst he
    simp only [ss_cons, ss_nil, st_asg, st_asgT, st_par, st_seti, st_setk, st_app, st_ins, st_ext, st_expr, st_ret, st_iff, st_forr, st_whl, st_pass, st_brk, st_cont, tg_nm, tg_n, tg_c, tg_co, ev_var, ev_cst, ev_bin, ev_neg, ev_nt, ev_bop, ev_cmp, ev_chn, ev_ife, ev_tup, ev_lst, ev_ix, ev_sl, ev_rv, ev_dnil, ev_dsp, ev_bi, ev_call, ev_pop, ev_popA, ev_comp, ev_isi, te_nt, te_bop, te_cmp, te_chn, te_ife, te_var, te_call, te_bi, te_ix, te_bin, te_isi, te_cst, pk_var, pk_cst, pk_bin, pk_neg, pk_nt, pk_bop, pk_cmp, pk_chn, pk_ife, pk_tup, pk_lst, pk_ix, pk_sl, pk_rv, pk_dnil, pk_dsp, pk_bi, pk_call, pk_pop, pk_popA, pk_comp, pk_isi, rt_var, rt_cst, rt_bin, rt_neg, rt_nt, rt_bop, rt_cmp, rt_chn, rt_ife, rt_tup, rt_lst, rt_ix, rt_sl, rt_rv, rt_dnil, rt_dsp, rt_bi, rt_call, rt_pop, rt_comp, rt_isi, es_nil, es_cons, cs_nil, cs_cons, ps_nil, ps_cons, o_no, o_so, c_no, c_so, i_rg1, i_rg2, i_rg3, i_sq, i_dk, i_en, i_zp, i_rev, get_v, get_s, gets_nil, gets_cons, own_iff, ownd_iff, set_nil, set_cons, o_add, o_adds, o_addl, o_addt, o_sub, o_mul, o_mull, o_multt, o_div, o_mod, o_pow, o_shl, o_shr, o_and, o_or, o_xor, q_eq, q_ne, ek_s, ek_i, ek_b, ek_n, ek_l, ek_t, deq_str, q_lt, q_le, q_gt, q_ge, q_is, q_isn, q_isb, q_isnb, q_inl, q_int, q_nil, q_nit, x_l, x_t, x_s, z_l, z_t, v_l, v_t, f_lenl, f_lent, f_lens, f_abs, f_int, f_intb, f_bool, f_boolb, f_str, f_repr, f_reprB, f_sum, f_max1, f_min1, f_minP, f_max2, f_min2, f_lstl, f_lstt, f_lstd, f_dct, f_sortd, y_d1, y_d2, p_dic, k_dic, f_tupl, f_tupt, f_sorted, f_sortet, f_sset, f_sseu, f_all, f_any, f_gcd, f_lrg1, f_lrg2, f_trg1, f_trg2, t_bl, t_int, t_non, t_lst, t_tup, t_str, List.getElem?_cons_zero, List.getElem?_cons_succ, List.set_cons_zero, List.set_cons_succ, Option.some.injEq, exists_eq_left', exists_eq_left, exists_eq_right, exists_eq_right', cd_sh, cd_ow, D.int.injEq, D.bl.injEq, D.str.injEq, D.tup.injEq, D.lst.injEq, C.ow.injEq, C.sh.injEq, List.cons.injEq, reduceCtorEq, exists_and_left, exists_and_right, exists_const, implies_true, exists_eq, exists_eq', okEq_int, okEq_bl, okEq_non, deq_int, deq_bl, List.length_cons, List.length_nil, Nat.reduceAdd, true_and, and_true, if_true, if_false, decide_eq_true_eq, Bool.true_eq_false, Bool.false_eq_true, false_and, and_false, false_or, or_false, exists_false, and_self, D.hd.injEq, exists_prop, exists_eq_or_imp, Bool.not_eq_true, -Int.reducePow, -Nat.reducePow]
    rw [List.length_map, Nat.zero_add, List.drop_length] at f1
    have f2 : f ∣ kb ks := Int.dvd_trans (Int.dvd_mul_right f _) f1
    by_cases c : 1 < f
    · simp only [c, decide_true, if_true]
      exact q f (by omega) f2
    · simp only [c, decide_false, Bool.false_eq_true, if_false]
      cases ks with
      | nil => exact absurd rfl k1
      | cons r ks =>
        obtain ⟨a1, a2, a3, a4⟩ := k2 r List.mem_cons_self
        refine ⟨rl r, atI0 _ _, .int r.1, atI0 _ _, q r.1 a1 ?_⟩
        show r.1 ∣ r.1 ^ (max 3 r.2).toNat * kb ks
        obtain ⟨n, hn⟩ : ∃ n, (max 3 r.2).toNat = n + 1 := ⟨(max 3 r.2).toNat - 1, by omega⟩
        rw [hn, Int.pow_succ, Int.mul_comm (r.1 ^ n), Int.mul_assoc]
        exact Int.dvd_mul_right _ _
theorem t21 (Q : C → Prop) (q : ∀ ks : List Rule, (KOk ks ∧ kb ks ≤ T60) → Q (.sh (.lst (ks.map rl)))) : Bd b21 [some (.sh (.hd 0)), none] Q := by
  unfold Bd b21
  simp only [ss_cons, ss_nil, st_asg, st_asgT, st_par, st_seti, st_setk, st_app, st_ins, st_ext, st_expr, st_ret, st_iff, st_forr, st_whl, st_pass, st_brk, st_cont, tg_nm, tg_n, tg_c, tg_co, ev_var, ev_cst, ev_bin, ev_neg, ev_nt, ev_bop, ev_cmp, ev_chn, ev_ife, ev_tup, ev_lst, ev_ix, ev_sl, ev_rv, ev_dnil, ev_dsp, ev_bi, ev_call, ev_pop, ev_popA, ev_comp, ev_isi, te_nt, te_bop, te_cmp, te_chn, te_ife, te_var, te_call, te_bi, te_ix, te_bin, te_isi, te_cst, pk_var, pk_cst, pk_bin, pk_neg, pk_nt, pk_bop, pk_cmp, pk_chn, pk_ife, pk_tup, pk_lst, pk_ix, pk_sl, pk_rv, pk_dnil, pk_dsp, pk_bi, pk_call, pk_pop, pk_popA, pk_comp, pk_isi, rt_var, rt_cst, rt_bin, rt_neg, rt_nt, rt_bop, rt_cmp, rt_chn, rt_ife, rt_tup, rt_lst, rt_ix, rt_sl, rt_rv, rt_dnil, rt_dsp, rt_bi, rt_call, rt_pop, rt_comp, rt_isi, es_nil, es_cons, cs_nil, cs_cons, ps_nil, ps_cons, o_no, o_so, c_no, c_so, i_rg1, i_rg2, i_rg3, i_sq, i_dk, i_en, i_zp, i_rev, get_v, get_s, gets_nil, gets_cons, own_iff, ownd_iff, set_nil, set_cons, o_add, o_adds, o_addl, o_addt, o_sub, o_mul, o_mull, o_multt, o_div, o_mod, o_pow, o_shl, o_shr, o_and, o_or, o_xor, q_eq, q_ne, ek_s, ek_i, ek_b, ek_n, ek_l, ek_t, deq_str, q_lt, q_le, q_gt, q_ge, q_is, q_isn, q_isb, q_isnb, q_inl, q_int, q_nil, q_nit, x_l, x_t, x_s, z_l, z_t, v_l, v_t, f_lenl, f_lent, f_lens, f_abs, f_int, f_intb, f_bool, f_boolb, f_str, f_repr, f_reprB, f_sum, f_max1, f_min1, f_minP, f_max2, f_min2, f_lstl, f_lstt, f_lstd, f_dct, f_sortd, y_d1, y_d2, p_dic, k_dic, f_tupl, f_tupt, f_sorted, f_sortet, f_sset, f_sseu, f_all, f_any, f_gcd, f_lrg1, f_lrg2, f_trg1, f_trg2, t_bl, t_int, t_non, t_lst, t_tup, t_str, List.getElem?_cons_zero, List.getElem?_cons_succ, List.set_cons_zero, List.set_cons_succ, Option.some.injEq, exists_eq_left', exists_eq_left, exists_eq_right, exists_eq_right', cd_sh, cd_ow, D.int.injEq, D.bl.injEq, D.str.injEq, D.tup.injEq, D.lst.injEq, C.ow.injEq, C.sh.injEq, List.cons.injEq, reduceCtorEq, exists_and_left, exists_and_right, exists_const, implies_true, exists_eq, exists_eq', okEq_int, okEq_bl, okEq_non, deq_int, deq_bl, List.length_cons, List.length_nil, Nat.reduceAdd, true_and, and_true, if_true, if_false, decide_eq_true_eq, Bool.true_eq_false, Bool.false_eq_true, false_and, and_false, false_or, or_false, exists_false, and_self, D.hd.injEq, exists_prop, exists_eq_or_imp, Bool.not_eq_true, -Int.reducePow, -Nat.reducePow, g15]
  simp only [sizeL, Nat.reduceLeDiff, List.cons_append, List.nil_append, List.length_cons, List.length_nil, Nat.reduceAdd, Nat.reduceLT, true_and]
  intro d hd
  obtain ⟨ks, hk, rfl⟩ : ∃ ks : List Rule, (KOk ks ∧ kb ks ≤ T60) ∧ d = .lst (ks.map rl) := by
    simp only [List.mem_cons, List.not_mem_nil, or_false] at hd
    rcases hd with rfl | rfl | rfl | rfl | rfl | rfl | rfl | rfl | rfl
    · exact ⟨[(2, 60), (5, 60)], by decide +kernel, rfl⟩
    · exact ⟨[(2, 190)], by decide +kernel, rfl⟩
    · exact ⟨[(2, 70), (3, 70)], by decide +kernel, rfl⟩
    · exact ⟨[(2, 40), (3, 40), (5, 40)], by decide +kernel, rfl⟩
    · exact ⟨[(7, 60)], by decide +kernel, rfl⟩
    · exact ⟨[(97, 30)], by decide +kernel, rfl⟩
    · exact ⟨[(2, 6), (3, 4), (5, 2), (7, 2), (11, 1), (13, 1), (17, 1), (19, 1)], by decide +kernel, rfl⟩
    · exact ⟨[(2, 4), (3, 2)], by decide +kernel, rfl⟩
    · exact ⟨[(10, 60)], by decide +kernel, rfl⟩
  exact q ks hk
def I22 (most top many : Int) (ks : D) (L : Int) (i : Nat) (e : En) : Prop := ∃ (sc : List Rule) (o6 o7 o8 o9 : Option C), (sc.length = i ∧ GoodL L sc) ∧ e = [some (.sh (.hd 0)), some (.sh (.int most)), some (.sh ks), some (.ow (.lst (sc.map rl))), some (.sh (.int top)), some (.sh (.int many)), o6, o7, o8, o9]
theorem t22 (most : Int) (Q : C → Prop) (h : gam 22 [.hd 0, .int most] Q) : Bd b22 [some (.sh (.hd 0)), some (.sh (.int most)), none, none, none, none, none, none, none, none] Q := by
  obtain ⟨⟨h1, h2⟩, q⟩ := h
  have e6 : (10 : Int) ^ Int.toNat 6 = 1000000 := by decide
  have e18 : (10 : Int) ^ Int.toNat 18 = 1000000000000000000 := by decide
  have pw : ∀ n : Int, 0 ≤ n → n ≤ 60 → PowOk 10 n := fun n a b => pow_s a (by omega) (by decide)
  unfold Bd b22
  simp only [ss_cons, ss_nil, st_asg, st_asgT, st_par, st_seti, st_setk, st_app, st_ins, st_ext, st_expr, st_ret, st_iff, st_forr, st_whl, st_pass, st_brk, st_cont, tg_nm, tg_n, tg_c, tg_co, ev_var, ev_cst, ev_bin, ev_neg, ev_nt, ev_bop, ev_cmp, ev_chn, ev_ife, ev_tup, ev_lst, ev_ix, ev_sl, ev_rv, ev_dnil, ev_dsp, ev_bi, ev_call, ev_pop, ev_popA, ev_comp, ev_isi, te_nt, te_bop, te_cmp, te_chn, te_ife, te_var, te_call, te_bi, te_ix, te_bin, te_isi, te_cst, pk_var, pk_cst, pk_bin, pk_neg, pk_nt, pk_bop, pk_cmp, pk_chn, pk_ife, pk_tup, pk_lst, pk_ix, pk_sl, pk_rv, pk_dnil, pk_dsp, pk_bi, pk_call, pk_pop, pk_popA, pk_comp, pk_isi, rt_var, rt_cst, rt_bin, rt_neg, rt_nt, rt_bop, rt_cmp, rt_chn, rt_ife, rt_tup, rt_lst, rt_ix, rt_sl, rt_rv, rt_dnil, rt_dsp, rt_bi, rt_call, rt_pop, rt_comp, rt_isi, es_nil, es_cons, cs_nil, cs_cons, ps_nil, ps_cons, o_no, o_so, c_no, c_so, i_rg1, i_rg2, i_rg3, i_sq, i_dk, i_en, i_zp, i_rev, get_v, get_s, gets_nil, gets_cons, own_iff, ownd_iff, set_nil, set_cons, o_add, o_adds, o_addl, o_addt, o_sub, o_mul, o_mull, o_multt, o_div, o_mod, o_pow, o_shl, o_shr, o_and, o_or, o_xor, q_eq, q_ne, ek_s, ek_i, ek_b, ek_n, ek_l, ek_t, deq_str, q_lt, q_le, q_gt, q_ge, q_is, q_isn, q_isb, q_isnb, q_inl, q_int, q_nil, q_nit, x_l, x_t, x_s, z_l, z_t, v_l, v_t, f_lenl, f_lent, f_lens, f_abs, f_int, f_intb, f_bool, f_boolb, f_str, f_repr, f_reprB, f_sum, f_max1, f_min1, f_minP, f_max2, f_min2, f_lstl, f_lstt, f_lstd, f_dct, f_sortd, y_d1, y_d2, p_dic, k_dic, f_tupl, f_tupt, f_sorted, f_sortet, f_sset, f_sseu, f_all, f_any, f_gcd, f_lrg1, f_lrg2, f_trg1, f_trg2, t_bl, t_int, t_non, t_lst, t_tup, t_str, List.getElem?_cons_zero, List.getElem?_cons_succ, List.set_cons_zero, List.set_cons_succ, Option.some.injEq, exists_eq_left', exists_eq_left, exists_eq_right, exists_eq_right', cd_sh, cd_ow, D.int.injEq, D.bl.injEq, D.str.injEq, D.tup.injEq, D.lst.injEq, C.ow.injEq, C.sh.injEq, List.cons.injEq, reduceCtorEq, exists_and_left, exists_and_right, exists_const, implies_true, exists_eq, exists_eq', okEq_int, okEq_bl, okEq_non, deq_int, deq_bl, List.length_cons, List.length_nil, Nat.reduceAdd, true_and, and_true, if_true, if_false, decide_eq_true_eq, Bool.true_eq_false, Bool.false_eq_true, false_and, and_false, false_or, or_false, exists_false, and_self, D.hd.injEq, exists_prop, exists_eq_or_imp, Bool.not_eq_true, -Int.reducePow, -Nat.reducePow, g15, g21]
  intro ks ⟨hk, hT⟩
  have e60 : (10 : Int) ^ Int.toNat 60 = 10 ^ 60 := rfl
  refine ⟨by rw [sizeL]; decide, pw 6 (by decide) (by decide), pw 18 (by decide) (by decide), pw 60 (by decide) (by decide), pw 60 (by decide) (by decide), by rw [sizeL]; decide, ⟨by decide, by decide⟩, fun d hd => ?_⟩
  obtain ⟨top, rfl, p0, p1⟩ : ∃ x : Int, d = .int x ∧ 1 ≤ x ∧ x ≤ 10 ^ 60 := by
    simp only [List.mem_cons, List.not_mem_nil, or_false, e6, e18, e60] at hd
    rcases hd with rfl | rfl | rfl | rfl <;> exact ⟨_, rfl, by decide, by decide +kernel⟩
  unfold b22_1
  simp only [ss_cons, ss_nil, st_asg, st_asgT, st_par, st_seti, st_setk, st_app, st_ins, st_ext, st_expr, st_ret, st_iff, st_forr, st_whl, st_pass, st_brk, st_cont, tg_nm, tg_n, tg_c, tg_co, ev_var, ev_cst, ev_bin, ev_neg, ev_nt, ev_bop, ev_cmp, ev_chn, ev_ife, ev_tup, ev_lst, ev_ix, ev_sl, ev_rv, ev_dnil, ev_dsp, ev_bi, ev_call, ev_pop, ev_popA, ev_comp, ev_isi, te_nt, te_bop, te_cmp, te_chn, te_ife, te_var, te_call, te_bi, te_ix, te_bin, te_isi, te_cst, pk_var, pk_cst, pk_bin, pk_neg, pk_nt, pk_bop, pk_cmp, pk_chn, pk_ife, pk_tup, pk_lst, pk_ix, pk_sl, pk_rv, pk_dnil, pk_dsp, pk_bi, pk_call, pk_pop, pk_popA, pk_comp, pk_isi, rt_var, rt_cst, rt_bin, rt_neg, rt_nt, rt_bop, rt_cmp, rt_chn, rt_ife, rt_tup, rt_lst, rt_ix, rt_sl, rt_rv, rt_dnil, rt_dsp, rt_bi, rt_call, rt_pop, rt_comp, rt_isi, es_nil, es_cons, cs_nil, cs_cons, ps_nil, ps_cons, o_no, o_so, c_no, c_so, i_rg1, i_rg2, i_rg3, i_sq, i_dk, i_en, i_zp, i_rev, get_v, get_s, gets_nil, gets_cons, own_iff, ownd_iff, set_nil, set_cons, o_add, o_adds, o_addl, o_addt, o_sub, o_mul, o_mull, o_multt, o_div, o_mod, o_pow, o_shl, o_shr, o_and, o_or, o_xor, q_eq, q_ne, ek_s, ek_i, ek_b, ek_n, ek_l, ek_t, deq_str, q_lt, q_le, q_gt, q_ge, q_is, q_isn, q_isb, q_isnb, q_inl, q_int, q_nil, q_nit, x_l, x_t, x_s, z_l, z_t, v_l, v_t, f_lenl, f_lent, f_lens, f_abs, f_int, f_intb, f_bool, f_boolb, f_str, f_repr, f_reprB, f_sum, f_max1, f_min1, f_minP, f_max2, f_min2, f_lstl, f_lstt, f_lstd, f_dct, f_sortd, y_d1, y_d2, p_dic, k_dic, f_tupl, f_tupt, f_sorted, f_sortet, f_sset, f_sseu, f_all, f_any, f_gcd, f_lrg1, f_lrg2, f_trg1, f_trg2, t_bl, t_int, t_non, t_lst, t_tup, t_str, List.getElem?_cons_zero, List.getElem?_cons_succ, List.set_cons_zero, List.set_cons_succ, Option.some.injEq, exists_eq_left', exists_eq_left, exists_eq_right, exists_eq_right', cd_sh, cd_ow, D.int.injEq, D.bl.injEq, D.str.injEq, D.tup.injEq, D.lst.injEq, C.ow.injEq, C.sh.injEq, List.cons.injEq, reduceCtorEq, exists_and_left, exists_and_right, exists_const, implies_true, exists_eq, exists_eq', okEq_int, okEq_bl, okEq_non, deq_int, deq_bl, List.length_cons, List.length_nil, Nat.reduceAdd, true_and, and_true, if_true, if_false, decide_eq_true_eq, Bool.true_eq_false, Bool.false_eq_true, false_and, and_false, false_or, or_false, exists_false, and_self, D.hd.injEq, exists_prop, exists_eq_or_imp, Bool.not_eq_true, -Int.reducePow, -Nat.reducePow, g15]
  refine ⟨div_s (by decide) (by decide), by rw [sizeL]; decide, ⟨by decide, by decide⟩, fun d hd => ?_⟩
  obtain ⟨m, rfl, m0, m1⟩ : ∃ x : Int, d = .int x ∧ x ≤ 40 ∧ 0 ≤ x := by
    simp only [List.mem_cons, List.not_mem_nil, or_false] at hd
    rcases hd with rfl | rfl | rfl | rfl | rfl <;> exact ⟨_, rfl, by omega, by omega⟩
  simp only [ss_cons, ss_nil, st_asg, st_asgT, st_par, st_seti, st_setk, st_app, st_ins, st_ext, st_expr, st_ret, st_iff, st_forr, st_whl, st_pass, st_brk, st_cont, tg_nm, tg_n, tg_c, tg_co, ev_var, ev_cst, ev_bin, ev_neg, ev_nt, ev_bop, ev_cmp, ev_chn, ev_ife, ev_tup, ev_lst, ev_ix, ev_sl, ev_rv, ev_dnil, ev_dsp, ev_bi, ev_call, ev_pop, ev_popA, ev_comp, ev_isi, te_nt, te_bop, te_cmp, te_chn, te_ife, te_var, te_call, te_bi, te_ix, te_bin, te_isi, te_cst, pk_var, pk_cst, pk_bin, pk_neg, pk_nt, pk_bop, pk_cmp, pk_chn, pk_ife, pk_tup, pk_lst, pk_ix, pk_sl, pk_rv, pk_dnil, pk_dsp, pk_bi, pk_call, pk_pop, pk_popA, pk_comp, pk_isi, rt_var, rt_cst, rt_bin, rt_neg, rt_nt, rt_bop, rt_cmp, rt_chn, rt_ife, rt_tup, rt_lst, rt_ix, rt_sl, rt_rv, rt_dnil, rt_dsp, rt_bi, rt_call, rt_pop, rt_comp, rt_isi, es_nil, es_cons, cs_nil, cs_cons, ps_nil, ps_cons, o_no, o_so, c_no, c_so, i_rg1, i_rg2, i_rg3, i_sq, i_dk, i_en, i_zp, i_rev, get_v, get_s, gets_nil, gets_cons, own_iff, ownd_iff, set_nil, set_cons, o_add, o_adds, o_addl, o_addt, o_sub, o_mul, o_mull, o_multt, o_div, o_mod, o_pow, o_shl, o_shr, o_and, o_or, o_xor, q_eq, q_ne, ek_s, ek_i, ek_b, ek_n, ek_l, ek_t, deq_str, q_lt, q_le, q_gt, q_ge, q_is, q_isn, q_isb, q_isnb, q_inl, q_int, q_nil, q_nit, x_l, x_t, x_s, z_l, z_t, v_l, v_t, f_lenl, f_lent, f_lens, f_abs, f_int, f_intb, f_bool, f_boolb, f_str, f_repr, f_reprB, f_sum, f_max1, f_min1, f_minP, f_max2, f_min2, f_lstl, f_lstt, f_lstd, f_dct, f_sortd, y_d1, y_d2, p_dic, k_dic, f_tupl, f_tupt, f_sorted, f_sortet, f_sset, f_sseu, f_all, f_any, f_gcd, f_lrg1, f_lrg2, f_trg1, f_trg2, t_bl, t_int, t_non, t_lst, t_tup, t_str, List.getElem?_cons_zero, List.getElem?_cons_succ, List.set_cons_zero, List.set_cons_succ, Option.some.injEq, exists_eq_left', exists_eq_left, exists_eq_right, exists_eq_right', cd_sh, cd_ow, D.int.injEq, D.bl.injEq, D.str.injEq, D.tup.injEq, D.lst.injEq, C.ow.injEq, C.sh.injEq, List.cons.injEq, reduceCtorEq, exists_and_left, exists_and_right, exists_const, implies_true, exists_eq, exists_eq', okEq_int, okEq_bl, okEq_non, deq_int, deq_bl, List.length_cons, List.length_nil, Nat.reduceAdd, true_and, and_true, if_true, if_false, decide_eq_true_eq, Bool.true_eq_false, Bool.false_eq_true, false_and, and_false, false_or, or_false, exists_false, and_self, D.hd.injEq, exists_prop, exists_eq_or_imp, Bool.not_eq_true, -Int.reducePow, -Nat.reducePow]
  have mp : 1 ≤ max 1 m ∧ max 1 m ≤ 40 := by omega
  generalize max 1 m = many at mp ⊢
  obtain ⟨k1, k2, k3⟩ := id hk
  have kp := kb_pos k2
  unfold b22_2
  simp only [ss_cons, ss_nil, st_asg, st_asgT, st_par, st_seti, st_setk, st_app, st_ins, st_ext, st_expr, st_ret, st_iff, st_forr, st_whl, st_pass, st_brk, st_cont, tg_nm, tg_n, tg_c, tg_co, ev_var, ev_cst, ev_bin, ev_neg, ev_nt, ev_bop, ev_cmp, ev_chn, ev_ife, ev_tup, ev_lst, ev_ix, ev_sl, ev_rv, ev_dnil, ev_dsp, ev_bi, ev_call, ev_pop, ev_popA, ev_comp, ev_isi, te_nt, te_bop, te_cmp, te_chn, te_ife, te_var, te_call, te_bi, te_ix, te_bin, te_isi, te_cst, pk_var, pk_cst, pk_bin, pk_neg, pk_nt, pk_bop, pk_cmp, pk_chn, pk_ife, pk_tup, pk_lst, pk_ix, pk_sl, pk_rv, pk_dnil, pk_dsp, pk_bi, pk_call, pk_pop, pk_popA, pk_comp, pk_isi, rt_var, rt_cst, rt_bin, rt_neg, rt_nt, rt_bop, rt_cmp, rt_chn, rt_ife, rt_tup, rt_lst, rt_ix, rt_sl, rt_rv, rt_dnil, rt_dsp, rt_bi, rt_call, rt_pop, rt_comp, rt_isi, es_nil, es_cons, cs_nil, cs_cons, ps_nil, ps_cons, o_no, o_so, c_no, c_so, i_rg1, i_rg2, i_rg3, i_sq, i_dk, i_en, i_zp, i_rev, get_v, get_s, gets_nil, gets_cons, own_iff, ownd_iff, set_nil, set_cons, o_add, o_adds, o_addl, o_addt, o_sub, o_mul, o_mull, o_multt, o_div, o_mod, o_pow, o_shl, o_shr, o_and, o_or, o_xor, q_eq, q_ne, ek_s, ek_i, ek_b, ek_n, ek_l, ek_t, deq_str, q_lt, q_le, q_gt, q_ge, q_is, q_isn, q_isb, q_isnb, q_inl, q_int, q_nil, q_nit, x_l, x_t, x_s, z_l, z_t, v_l, v_t, f_lenl, f_lent, f_lens, f_abs, f_int, f_intb, f_bool, f_boolb, f_str, f_repr, f_reprB, f_sum, f_max1, f_min1, f_minP, f_max2, f_min2, f_lstl, f_lstt, f_lstd, f_dct, f_sortd, y_d1, y_d2, p_dic, k_dic, f_tupl, f_tupt, f_sorted, f_sortet, f_sset, f_sseu, f_all, f_any, f_gcd, f_lrg1, f_lrg2, f_trg1, f_trg2, t_bl, t_int, t_non, t_lst, t_tup, t_str, List.getElem?_cons_zero, List.getElem?_cons_succ, List.set_cons_zero, List.set_cons_succ, Option.some.injEq, exists_eq_left', exists_eq_left, exists_eq_right, exists_eq_right', cd_sh, cd_ow, D.int.injEq, D.bl.injEq, D.str.injEq, D.tup.injEq, D.lst.injEq, C.ow.injEq, C.sh.injEq, List.cons.injEq, reduceCtorEq, exists_and_left, exists_and_right, exists_const, implies_true, exists_eq, exists_eq', okEq_int, okEq_bl, okEq_non, deq_int, deq_bl, List.length_cons, List.length_nil, Nat.reduceAdd, true_and, and_true, if_true, if_false, decide_eq_true_eq, Bool.true_eq_false, Bool.false_eq_true, false_and, and_false, false_or, or_false, exists_false, and_self, D.hd.injEq, exists_prop, exists_eq_or_imp, Bool.not_eq_true, -Int.reducePow, -Nat.reducePow]
  refine ⟨⟨by omega, by omega⟩, ?_⟩
  refine for_inv gam_ok (I22 most top many (.lst (ks.map rl)) (kb ks)) _ 0 _ ⟨[], _, _, _, _, ⟨rfl, fun r hr => nomatch hr⟩, rfl⟩ (fun j d e hd ⟨sc, o6, o7, o8, o9, ⟨sl, sg⟩, he⟩ => ?_) fun e ⟨sc, o6, o7, o8, o9, ⟨sl, sg⟩, he⟩ => ?_
  · subst he
    have hj : j < 40 := by
      have := (List.getElem?_eq_some_iff.mp hd).1
      rw [List.length_map, List.length_range] at this
      omega
    rw [tg_nm, ss_cons]
    simp only [ss_nil, st_asg, st_asgT, st_par, st_seti, st_setk, st_app, st_ins, st_ext, st_expr, st_ret, st_iff, st_forr, st_whl, st_pass, st_brk, st_cont, tg_nm, tg_n, tg_c, tg_co, ev_var, ev_cst, ev_bin, ev_neg, ev_nt, ev_bop, ev_cmp, ev_chn, ev_ife, ev_tup, ev_lst, ev_ix, ev_sl, ev_rv, ev_dnil, ev_dsp, ev_bi, ev_call, ev_pop, ev_popA, ev_comp, ev_isi, te_nt, te_bop, te_cmp, te_chn, te_ife, te_var, te_call, te_bi, te_ix, te_bin, te_isi, te_cst, pk_var, pk_cst, pk_bin, pk_neg, pk_nt, pk_bop, pk_cmp, pk_chn, pk_ife, pk_tup, pk_lst, pk_ix, pk_sl, pk_rv, pk_dnil, pk_dsp, pk_bi, pk_call, pk_pop, pk_popA, pk_comp, pk_isi, rt_var, rt_cst, rt_bin, rt_neg, rt_nt, rt_bop, rt_cmp, rt_chn, rt_ife, rt_tup, rt_lst, rt_ix, rt_sl, rt_rv, rt_dnil, rt_dsp, rt_bi, rt_call, rt_pop, rt_comp, rt_isi, es_nil, es_cons, cs_nil, cs_cons, ps_nil, ps_cons, o_no, o_so, c_no, c_so, i_rg1, i_rg2, i_rg3, i_sq, i_dk, i_en, i_zp, i_rev, get_v, get_s, gets_nil, gets_cons, own_iff, ownd_iff, set_nil, set_cons, o_add, o_adds, o_addl, o_addt, o_sub, o_mul, o_mull, o_multt, o_div, o_mod, o_pow, o_shl, o_shr, o_and, o_or, o_xor, q_eq, q_ne, ek_s, ek_i, ek_b, ek_n, ek_l, ek_t, deq_str, q_lt, q_le, q_gt, q_ge, q_is, q_isn, q_isb, q_isnb, q_inl, q_int, q_nil, q_nit, x_l, x_t, x_s, z_l, z_t, v_l, v_t, f_lenl, f_lent, f_lens, f_abs, f_int, f_intb, f_bool, f_boolb, f_str, f_repr, f_reprB, f_sum, f_max1, f_min1, f_minP, f_max2, f_min2, f_lstl, f_lstt, f_lstd, f_dct, f_sortd, y_d1, y_d2, p_dic, k_dic, f_tupl, f_tupt, f_sorted, f_sortet, f_sset, f_sseu, f_all, f_any, f_gcd, f_lrg1, f_lrg2, f_trg1, f_trg2, t_bl, t_int, t_non, t_lst, t_tup, t_str, List.getElem?_cons_zero, List.getElem?_cons_succ, List.set_cons_zero, List.set_cons_succ, Option.some.injEq, exists_eq_left', exists_eq_left, exists_eq_right, exists_eq_right', cd_sh, cd_ow, D.int.injEq, D.bl.injEq, D.str.injEq, D.tup.injEq, D.lst.injEq, C.ow.injEq, C.sh.injEq, List.cons.injEq, reduceCtorEq, exists_and_left, exists_and_right, exists_const, implies_true, exists_eq, exists_eq', okEq_int, okEq_bl, okEq_non, deq_int, deq_bl, List.length_cons, List.length_nil, Nat.reduceAdd, true_and, and_true, if_true, if_false, decide_eq_true_eq, Bool.true_eq_false, Bool.false_eq_true, false_and, and_false, false_or, or_false, exists_false, and_self, D.hd.injEq, exists_prop, exists_eq_or_imp, Bool.not_eq_true, -Int.reducePow, -Nat.reducePow]
    refine ⟨ks, rfl, hk, fun s s2 sd => ?_⟩
    have sb := Int.le_of_dvd kp sd
    have sa : s.natAbs < 2 ^ 300 := abs_lt (by omega) (by omega)
    -- behind the times
    have rest : ∀ (tm : Int), tm.natAbs < 2 ^ 300 → wSs gam (.cons (.asg (.nm 9) (.bin .Add (.bin .Mult (.var 7) (.var 8)) (.call 15 (.cons (.var 0) (.cons (.lst (.cons (.cst (.int 0)) (.cons (.cst (.int 0)) (.cons (.neg (.cst (.int 1))) (.cons (.cst (.int 1)) (.cons (.call 14 (.cons (.var 0) (.cons (.var 7) .nil))) .nil)))))) .nil)))))
        (.cons (.iff (.bop true (.cmp .NotEq (.var 3) (.lst .nil)) (.cmp .Eq (.call 14 (.cons (.var 0) (.cons (.cst (.int 8)) .nil))) (.cst (.int 0)))) (.cons (.asg (.nm 9) (.ix (.ix (.var 3) (.neg (.cst (.int 1)))) (.cst (.int 0)))) .nil) .nil)
        (.cons (.app 3 (.tup (.cons (.bi .min2 (.cons (.bin .Pow (.cst (.int 10)) (.cst (.int 60))) (.cons (.bi .max2 (.cons (.cst (.int 0)) (.cons (.var 9) .nil))) .nil))) (.cons (.var 7) .nil)))) .nil)))
        { nx := I22 most top many (.lst (ks.map rl)) (kb ks) (0 + j + 1), rt := Q, bk := fun env1 => wSs gam b22_3 { nx := fun _ => Q (.sh .non), rt := Q } env1, ct := I22 most top many (.lst (ks.map rl)) (kb ks) (0 + j + 1) }
        [some (.sh (.hd 0)), some (.sh (.int most)), some (.sh (.lst (ks.map rl))), some (.ow (.lst (sc.map rl))), some (.sh (.int top)), some (.sh (.int many)), some (.sh d), some (.sh (.int s)), some (.sh (.int tm)), o9] := by
      intro tm ht
      have last : ∀ bd : Int, wSs gam (.cons (.app 3 (.tup (.cons (.bi .min2 (.cons (.bin .Pow (.cst (.int 10)) (.cst (.int 60))) (.cons (.bi .max2 (.cons (.cst (.int 0)) (.cons (.var 9) .nil))) .nil))) (.cons (.var 7) .nil)))) .nil)
          { nx := I22 most top many (.lst (ks.map rl)) (kb ks) (0 + j + 1), rt := Q, bk := fun env1 => wSs gam b22_3 { nx := fun _ => Q (.sh .non), rt := Q } env1, ct := I22 most top many (.lst (ks.map rl)) (kb ks) (0 + j + 1) }
          [some (.sh (.hd 0)), some (.sh (.int most)), some (.sh (.lst (ks.map rl))), some (.ow (.lst (sc.map rl))), some (.sh (.int top)), some (.sh (.int many)), some (.sh d), some (.sh (.int s)), some (.sh (.int tm)), some (.sh (.int bd))] := by
        intro bd
        simp only [ss_cons, ss_nil, st_asg, st_asgT, st_par, st_seti, st_setk, st_app, st_ins, st_ext, st_expr, st_ret, st_iff, st_forr, st_whl, st_pass, st_brk, st_cont, tg_nm, tg_n, tg_c, tg_co, ev_var, ev_cst, ev_bin, ev_neg, ev_nt, ev_bop, ev_cmp, ev_chn, ev_ife, ev_tup, ev_lst, ev_ix, ev_sl, ev_rv, ev_dnil, ev_dsp, ev_bi, ev_call, ev_pop, ev_popA, ev_comp, ev_isi, te_nt, te_bop, te_cmp, te_chn, te_ife, te_var, te_call, te_bi, te_ix, te_bin, te_isi, te_cst, pk_var, pk_cst, pk_bin, pk_neg, pk_nt, pk_bop, pk_cmp, pk_chn, pk_ife, pk_tup, pk_lst, pk_ix, pk_sl, pk_rv, pk_dnil, pk_dsp, pk_bi, pk_call, pk_pop, pk_popA, pk_comp, pk_isi, rt_var, rt_cst, rt_bin, rt_neg, rt_nt, rt_bop, rt_cmp, rt_chn, rt_ife, rt_tup, rt_lst, rt_ix, rt_sl, rt_rv, rt_dnil, rt_dsp, rt_bi, rt_call, rt_pop, rt_comp, rt_isi, es_nil, es_cons, cs_nil, cs_cons, ps_nil, ps_cons, o_no, o_so, c_no, c_so, i_rg1, i_rg2, i_rg3, i_sq, i_dk, i_en, i_zp, i_rev, get_v, get_s, gets_nil, gets_cons, own_iff, ownd_iff, set_nil, set_cons, o_add, o_adds, o_addl, o_addt, o_sub, o_mul, o_mull, o_multt, o_div, o_mod, o_pow, o_shl, o_shr, o_and, o_or, o_xor, q_eq, q_ne, ek_s, ek_i, ek_b, ek_n, ek_l, ek_t, deq_str, q_lt, q_le, q_gt, q_ge, q_is, q_isn, q_isb, q_isnb, q_inl, q_int, q_nil, q_nit, x_l, x_t, x_s, z_l, z_t, v_l, v_t, f_lenl, f_lent, f_lens, f_abs, f_int, f_intb, f_bool, f_boolb, f_str, f_repr, f_reprB, f_sum, f_max1, f_min1, f_minP, f_max2, f_min2, f_lstl, f_lstt, f_lstd, f_dct, f_sortd, y_d1, y_d2, p_dic, k_dic, f_tupl, f_tupt, f_sorted, f_sortet, f_sset, f_sseu, f_all, f_any, f_gcd, f_lrg1, f_lrg2, f_trg1, f_trg2, t_bl, t_int, t_non, t_lst, t_tup, t_str, List.getElem?_cons_zero, List.getElem?_cons_succ, List.set_cons_zero, List.set_cons_succ, Option.some.injEq, exists_eq_left', exists_eq_left, exists_eq_right, exists_eq_right', cd_sh, cd_ow, D.int.injEq, D.bl.injEq, D.str.injEq, D.tup.injEq, D.lst.injEq, C.ow.injEq, C.sh.injEq, List.cons.injEq, reduceCtorEq, exists_and_left, exists_and_right, exists_const, implies_true, exists_eq, exists_eq', okEq_int, okEq_bl, okEq_non, deq_int, deq_bl, List.length_cons, List.length_nil, Nat.reduceAdd, true_and, and_true, if_true, if_false, decide_eq_true_eq, Bool.true_eq_false, Bool.false_eq_true, false_and, and_false, false_or, or_false, exists_false, and_self, D.hd.injEq, exists_prop, exists_eq_or_imp, Bool.not_eq_true, -Int.reducePow, -Nat.reducePow]
        have hmin : 0 ≤ min ((10 : Int) ^ Int.toNat 60) (max 0 bd) ∧ min ((10 : Int) ^ Int.toNat 60) (max 0 bd) ≤ 10 ^ 60 := by
          rw [e60]
          have : (0 : Int) < 10 ^ 60 := by decide +kernel
          generalize (10 : Int) ^ 60 = T at this ⊢
          omega
        refine ⟨pw 60 (by decide) (by decide), by rw [sizeL]; decide, by rw [List.length_map, sizeL]; omega, sc ++ [(_, s)], _, _, _, _, ⟨by rw [List.length_append, List.length_singleton]; omega, fun r hr => ?_⟩, by rw [List.map_append]; rfl⟩
        rcases List.mem_append.mp hr with hr | hr
        · exact sg r hr
        · rw [List.mem_singleton] at hr
          rw [hr]
          exact ⟨hmin, by omega, .inr sd⟩
      rw [ss_cons]
      simp only [ss_nil, st_asg, st_asgT, st_par, st_seti, st_setk, st_app, st_ins, st_ext, st_expr, st_ret, st_iff, st_forr, st_whl, st_pass, st_brk, st_cont, tg_nm, tg_n, tg_c, tg_co, ev_var, ev_cst, ev_bin, ev_neg, ev_nt, ev_bop, ev_cmp, ev_chn, ev_ife, ev_tup, ev_lst, ev_ix, ev_sl, ev_rv, ev_dnil, ev_dsp, ev_bi, ev_call, ev_pop, ev_popA, ev_comp, ev_isi, te_nt, te_bop, te_cmp, te_chn, te_ife, te_var, te_call, te_bi, te_ix, te_bin, te_isi, te_cst, pk_var, pk_cst, pk_bin, pk_neg, pk_nt, pk_bop, pk_cmp, pk_chn, pk_ife, pk_tup, pk_lst, pk_ix, pk_sl, pk_rv, pk_dnil, pk_dsp, pk_bi, pk_call, pk_pop, pk_popA, pk_comp, pk_isi, rt_var, rt_cst, rt_bin, rt_neg, rt_nt, rt_bop, rt_cmp, rt_chn, rt_ife, rt_tup, rt_lst, rt_ix, rt_sl, rt_rv, rt_dnil, rt_dsp, rt_bi, rt_call, rt_pop, rt_comp, rt_isi, es_nil, es_cons, cs_nil, cs_cons, ps_nil, ps_cons, o_no, o_so, c_no, c_so, i_rg1, i_rg2, i_rg3, i_sq, i_dk, i_en, i_zp, i_rev, get_v, get_s, gets_nil, gets_cons, own_iff, ownd_iff, set_nil, set_cons, o_add, o_adds, o_addl, o_addt, o_sub, o_mul, o_mull, o_multt, o_div, o_mod, o_pow, o_shl, o_shr, o_and, o_or, o_xor, q_eq, q_ne, ek_s, ek_i, ek_b, ek_n, ek_l, ek_t, deq_str, q_lt, q_le, q_gt, q_ge, q_is, q_isn, q_isb, q_isnb, q_inl, q_int, q_nil, q_nit, x_l, x_t, x_s, z_l, z_t, v_l, v_t, f_lenl, f_lent, f_lens, f_abs, f_int, f_intb, f_bool, f_boolb, f_str, f_repr, f_reprB, f_sum, f_max1, f_min1, f_minP, f_max2, f_min2, f_lstl, f_lstt, f_lstd, f_dct, f_sortd, y_d1, y_d2, p_dic, k_dic, f_tupl, f_tupt, f_sorted, f_sortet, f_sset, f_sseu, f_all, f_any, f_gcd, f_lrg1, f_lrg2, f_trg1, f_trg2, t_bl, t_int, t_non, t_lst, t_tup, t_str, List.getElem?_cons_zero, List.getElem?_cons_succ, List.set_cons_zero, List.set_cons_succ, Option.some.injEq, exists_eq_left', exists_eq_left, exists_eq_right, exists_eq_right', cd_sh, cd_ow, D.int.injEq, D.bl.injEq, D.str.injEq, D.tup.injEq, D.lst.injEq, C.ow.injEq, C.sh.injEq, List.cons.injEq, reduceCtorEq, exists_and_left, exists_and_right, exists_const, implies_true, exists_eq, exists_eq', okEq_int, okEq_bl, okEq_non, deq_int, deq_bl, List.length_cons, List.length_nil, Nat.reduceAdd, true_and, and_true, if_true, if_false, decide_eq_true_eq, Bool.true_eq_false, Bool.false_eq_true, false_and, and_false, false_or, or_false, exists_false, and_self, D.hd.injEq, exists_prop, exists_eq_or_imp, Bool.not_eq_true, -Int.reducePow, -Nat.reducePow, g14, g15]
      refine ⟨(wide_mul sa ht (by decide) (by decide) (by decide)).ok, ⟨by omega, Nat.lt_of_lt_of_le (PySem.Flt.log2_lt_of (by decide) sa) (by decide)⟩, fun r _ _ => ⟨by rw [sizeL]; decide, ⟨by decide, by decide⟩, fun d2 hd2 => ?_⟩⟩
      obtain ⟨x, rfl⟩ : ∃ x : Int, d2 = .int x := by
        simp only [List.mem_cons, List.not_mem_nil, or_false] at hd2
        rcases hd2 with rfl | rfl | rfl | rfl | rfl <;> exact ⟨_, rfl⟩
      simp only [ss_nil, st_asg, st_asgT, st_par, st_seti, st_setk, st_app, st_ins, st_ext, st_expr, st_ret, st_iff, st_forr, st_whl, st_pass, st_brk, st_cont, tg_nm, tg_n, tg_c, tg_co, ev_var, ev_cst, ev_bin, ev_neg, ev_nt, ev_bop, ev_cmp, ev_chn, ev_ife, ev_tup, ev_lst, ev_ix, ev_sl, ev_rv, ev_dnil, ev_dsp, ev_bi, ev_call, ev_pop, ev_popA, ev_comp, ev_isi, te_nt, te_bop, te_cmp, te_chn, te_ife, te_var, te_call, te_bi, te_ix, te_bin, te_isi, te_cst, pk_var, pk_cst, pk_bin, pk_neg, pk_nt, pk_bop, pk_cmp, pk_chn, pk_ife, pk_tup, pk_lst, pk_ix, pk_sl, pk_rv, pk_dnil, pk_dsp, pk_bi, pk_call, pk_pop, pk_popA, pk_comp, pk_isi, rt_var, rt_cst, rt_bin, rt_neg, rt_nt, rt_bop, rt_cmp, rt_chn, rt_ife, rt_tup, rt_lst, rt_ix, rt_sl, rt_rv, rt_dnil, rt_dsp, rt_bi, rt_call, rt_pop, rt_comp, rt_isi, es_nil, es_cons, cs_nil, cs_cons, ps_nil, ps_cons, o_no, o_so, c_no, c_so, i_rg1, i_rg2, i_rg3, i_sq, i_dk, i_en, i_zp, i_rev, get_v, get_s, gets_nil, gets_cons, own_iff, ownd_iff, set_nil, set_cons, o_add, o_adds, o_addl, o_addt, o_sub, o_mul, o_mull, o_multt, o_div, o_mod, o_pow, o_shl, o_shr, o_and, o_or, o_xor, q_eq, q_ne, ek_s, ek_i, ek_b, ek_n, ek_l, ek_t, deq_str, q_lt, q_le, q_gt, q_ge, q_is, q_isn, q_isb, q_isnb, q_inl, q_int, q_nil, q_nit, x_l, x_t, x_s, z_l, z_t, v_l, v_t, f_lenl, f_lent, f_lens, f_abs, f_int, f_intb, f_bool, f_boolb, f_str, f_repr, f_reprB, f_sum, f_max1, f_min1, f_minP, f_max2, f_min2, f_lstl, f_lstt, f_lstd, f_dct, f_sortd, y_d1, y_d2, p_dic, k_dic, f_tupl, f_tupt, f_sorted, f_sortet, f_sset, f_sseu, f_all, f_any, f_gcd, f_lrg1, f_lrg2, f_trg1, f_trg2, t_bl, t_int, t_non, t_lst, t_tup, t_str, List.getElem?_cons_zero, List.getElem?_cons_succ, List.set_cons_zero, List.set_cons_succ, Option.some.injEq, exists_eq_left', exists_eq_left, exists_eq_right, exists_eq_right', cd_sh, cd_ow, D.int.injEq, D.bl.injEq, D.str.injEq, D.tup.injEq, D.lst.injEq, C.ow.injEq, C.sh.injEq, List.cons.injEq, reduceCtorEq, exists_and_left, exists_and_right, exists_const, implies_true, exists_eq, exists_eq', okEq_int, okEq_bl, okEq_non, deq_int, deq_bl, List.length_cons, List.length_nil, Nat.reduceAdd, true_and, and_true, if_true, if_false, decide_eq_true_eq, Bool.true_eq_false, Bool.false_eq_true, false_and, and_false, false_or, or_false, exists_false, and_self, D.hd.injEq, exists_prop, exists_eq_or_imp, Bool.not_eq_true, -Int.reducePow, -Nat.reducePow]
      rw [ss_cons]
      simp only [ss_nil, st_asg, st_asgT, st_par, st_seti, st_setk, st_app, st_ins, st_ext, st_expr, st_ret, st_iff, st_forr, st_whl, st_pass, st_brk, st_cont, tg_nm, tg_n, tg_c, tg_co, ev_var, ev_cst, ev_bin, ev_neg, ev_nt, ev_bop, ev_cmp, ev_chn, ev_ife, ev_tup, ev_lst, ev_ix, ev_sl, ev_rv, ev_dnil, ev_dsp, ev_bi, ev_call, ev_pop, ev_popA, ev_comp, ev_isi, te_nt, te_bop, te_cmp, te_chn, te_ife, te_var, te_call, te_bi, te_ix, te_bin, te_isi, te_cst, pk_var, pk_cst, pk_bin, pk_neg, pk_nt, pk_bop, pk_cmp, pk_chn, pk_ife, pk_tup, pk_lst, pk_ix, pk_sl, pk_rv, pk_dnil, pk_dsp, pk_bi, pk_call, pk_pop, pk_popA, pk_comp, pk_isi, rt_var, rt_cst, rt_bin, rt_neg, rt_nt, rt_bop, rt_cmp, rt_chn, rt_ife, rt_tup, rt_lst, rt_ix, rt_sl, rt_rv, rt_dnil, rt_dsp, rt_bi, rt_call, rt_pop, rt_comp, rt_isi, es_nil, es_cons, cs_nil, cs_cons, ps_nil, ps_cons, o_no, o_so, c_no, c_so, i_rg1, i_rg2, i_rg3, i_sq, i_dk, i_en, i_zp, i_rev, get_v, get_s, gets_nil, gets_cons, own_iff, ownd_iff, set_nil, set_cons, o_add, o_adds, o_addl, o_addt, o_sub, o_mul, o_mull, o_multt, o_div, o_mod, o_pow, o_shl, o_shr, o_and, o_or, o_xor, q_eq, q_ne, ek_s, ek_i, ek_b, ek_n, ek_l, ek_t, deq_str, q_lt, q_le, q_gt, q_ge, q_is, q_isn, q_isb, q_isnb, q_inl, q_int, q_nil, q_nit, x_l, x_t, x_s, z_l, z_t, v_l, v_t, f_lenl, f_lent, f_lens, f_abs, f_int, f_intb, f_bool, f_boolb, f_str, f_repr, f_reprB, f_sum, f_max1, f_min1, f_minP, f_max2, f_min2, f_lstl, f_lstt, f_lstd, f_dct, f_sortd, y_d1, y_d2, p_dic, k_dic, f_tupl, f_tupt, f_sorted, f_sortet, f_sset, f_sseu, f_all, f_any, f_gcd, f_lrg1, f_lrg2, f_trg1, f_trg2, t_bl, t_int, t_non, t_lst, t_tup, t_str, List.getElem?_cons_zero, List.getElem?_cons_succ, List.set_cons_zero, List.set_cons_succ, Option.some.injEq, exists_eq_left', exists_eq_left, exists_eq_right, exists_eq_right', cd_sh, cd_ow, D.int.injEq, D.bl.injEq, D.str.injEq, D.tup.injEq, D.lst.injEq, C.ow.injEq, C.sh.injEq, List.cons.injEq, reduceCtorEq, exists_and_left, exists_and_right, exists_const, implies_true, exists_eq, exists_eq', okEq_int, okEq_bl, okEq_non, deq_int, deq_bl, List.length_cons, List.length_nil, Nat.reduceAdd, true_and, and_true, if_true, if_false, decide_eq_true_eq, Bool.true_eq_false, Bool.false_eq_true, false_and, and_false, false_or, or_false, exists_false, and_self, D.hd.injEq, exists_prop, exists_eq_or_imp, Bool.not_eq_true, -Int.reducePow, -Nat.reducePow, g14, deq_nil]
      refine ⟨by rw [sizeL]; decide, ⟨okEq_rules sc, okEq_rules []⟩, ?_⟩
      by_cases hn : sc = []
      · subst hn
        simp only [List.map_nil, List.isEmpty_nil, Bool.not_true, Bool.false_eq_true, if_false, ss_nil]
        exact last _
      · have he : (sc.map rl).isEmpty = false := by
          cases sc with
          | nil => exact absurd rfl hn
          | cons _ _ => rfl
        simp only [he, Bool.not_false, if_true]
        refine ⟨⟨by decide, log_s (by decide)⟩, fun r2 _ _ => ?_⟩
        by_cases c0 : r2 = 0
        · simp only [c0, decide_true, if_true]
          rw [ss_cons]
          simp only [ss_nil, st_asg, st_asgT, st_par, st_seti, st_setk, st_app, st_ins, st_ext, st_expr, st_ret, st_iff, st_forr, st_whl, st_pass, st_brk, st_cont, tg_nm, tg_n, tg_c, tg_co, ev_var, ev_cst, ev_bin, ev_neg, ev_nt, ev_bop, ev_cmp, ev_chn, ev_ife, ev_tup, ev_lst, ev_ix, ev_sl, ev_rv, ev_dnil, ev_dsp, ev_bi, ev_call, ev_pop, ev_popA, ev_comp, ev_isi, te_nt, te_bop, te_cmp, te_chn, te_ife, te_var, te_call, te_bi, te_ix, te_bin, te_isi, te_cst, pk_var, pk_cst, pk_bin, pk_neg, pk_nt, pk_bop, pk_cmp, pk_chn, pk_ife, pk_tup, pk_lst, pk_ix, pk_sl, pk_rv, pk_dnil, pk_dsp, pk_bi, pk_call, pk_pop, pk_popA, pk_comp, pk_isi, rt_var, rt_cst, rt_bin, rt_neg, rt_nt, rt_bop, rt_cmp, rt_chn, rt_ife, rt_tup, rt_lst, rt_ix, rt_sl, rt_rv, rt_dnil, rt_dsp, rt_bi, rt_call, rt_pop, rt_comp, rt_isi, es_nil, es_cons, cs_nil, cs_cons, ps_nil, ps_cons, o_no, o_so, c_no, c_so, i_rg1, i_rg2, i_rg3, i_sq, i_dk, i_en, i_zp, i_rev, get_v, get_s, gets_nil, gets_cons, own_iff, ownd_iff, set_nil, set_cons, o_add, o_adds, o_addl, o_addt, o_sub, o_mul, o_mull, o_multt, o_div, o_mod, o_pow, o_shl, o_shr, o_and, o_or, o_xor, q_eq, q_ne, ek_s, ek_i, ek_b, ek_n, ek_l, ek_t, deq_str, q_lt, q_le, q_gt, q_ge, q_is, q_isn, q_isb, q_isnb, q_inl, q_int, q_nil, q_nit, x_l, x_t, x_s, z_l, z_t, v_l, v_t, f_lenl, f_lent, f_lens, f_abs, f_int, f_intb, f_bool, f_boolb, f_str, f_repr, f_reprB, f_sum, f_max1, f_min1, f_minP, f_max2, f_min2, f_lstl, f_lstt, f_lstd, f_dct, f_sortd, y_d1, y_d2, p_dic, k_dic, f_tupl, f_tupt, f_sorted, f_sortet, f_sset, f_sseu, f_all, f_any, f_gcd, f_lrg1, f_lrg2, f_trg1, f_trg2, t_bl, t_int, t_non, t_lst, t_tup, t_str, List.getElem?_cons_zero, List.getElem?_cons_succ, List.set_cons_zero, List.set_cons_succ, Option.some.injEq, exists_eq_left', exists_eq_left, exists_eq_right, exists_eq_right', cd_sh, cd_ow, D.int.injEq, D.bl.injEq, D.str.injEq, D.tup.injEq, D.lst.injEq, C.ow.injEq, C.sh.injEq, List.cons.injEq, reduceCtorEq, exists_and_left, exists_and_right, exists_const, implies_true, exists_eq, exists_eq', okEq_int, okEq_bl, okEq_non, deq_int, deq_bl, List.length_cons, List.length_nil, Nat.reduceAdd, true_and, and_true, if_true, if_false, decide_eq_true_eq, Bool.true_eq_false, Bool.false_eq_true, false_and, and_false, false_or, or_false, exists_false, and_self, D.hd.injEq, exists_prop, exists_eq_or_imp, Bool.not_eq_true, -Int.reducePow, -Nat.reducePow, ss_nil]
          obtain ⟨r3, hr3⟩ : ∃ r3, atI (sc.map rl) (-1) = some (rl r3) := by
            have pos : 0 < sc.length := by
              cases sc with
              | nil => exact absurd rfl hn
              | cons _ _ => exact Nat.succ_pos _
            refine ⟨sc[sc.length - 1], ?_⟩
            unfold atI ixN
            rw [if_neg (by decide), List.length_map, if_pos (by omega)]
            show (sc.map rl)[_]? = _
            rw [List.getElem?_map, List.getElem?_eq_getElem (by omega)]
            show some (rl sc[_]) = _
            congr 3
            omega
          refine ⟨rl r3, hr3, .int r3.1, atI0 _ _, ?_⟩
          exact last _
        · simp only [c0, decide_false, Bool.false_eq_true, if_false, ss_nil]
          exact last _
    show wSs gam _ _ _
    rw [ss_cons]
    simp only [ss_nil, st_asg, st_asgT, st_par, st_seti, st_setk, st_app, st_ins, st_ext, st_expr, st_ret, st_iff, st_forr, st_whl, st_pass, st_brk, st_cont, tg_nm, tg_n, tg_c, tg_co, ev_var, ev_cst, ev_bin, ev_neg, ev_nt, ev_bop, ev_cmp, ev_chn, ev_ife, ev_tup, ev_lst, ev_ix, ev_sl, ev_rv, ev_dnil, ev_dsp, ev_bi, ev_call, ev_pop, ev_popA, ev_comp, ev_isi, te_nt, te_bop, te_cmp, te_chn, te_ife, te_var, te_call, te_bi, te_ix, te_bin, te_isi, te_cst, pk_var, pk_cst, pk_bin, pk_neg, pk_nt, pk_bop, pk_cmp, pk_chn, pk_ife, pk_tup, pk_lst, pk_ix, pk_sl, pk_rv, pk_dnil, pk_dsp, pk_bi, pk_call, pk_pop, pk_popA, pk_comp, pk_isi, rt_var, rt_cst, rt_bin, rt_neg, rt_nt, rt_bop, rt_cmp, rt_chn, rt_ife, rt_tup, rt_lst, rt_ix, rt_sl, rt_rv, rt_dnil, rt_dsp, rt_bi, rt_call, rt_pop, rt_comp, rt_isi, es_nil, es_cons, cs_nil, cs_cons, ps_nil, ps_cons, o_no, o_so, c_no, c_so, i_rg1, i_rg2, i_rg3, i_sq, i_dk, i_en, i_zp, i_rev, get_v, get_s, gets_nil, gets_cons, own_iff, ownd_iff, set_nil, set_cons, o_add, o_adds, o_addl, o_addt, o_sub, o_mul, o_mull, o_multt, o_div, o_mod, o_pow, o_shl, o_shr, o_and, o_or, o_xor, q_eq, q_ne, ek_s, ek_i, ek_b, ek_n, ek_l, ek_t, deq_str, q_lt, q_le, q_gt, q_ge, q_is, q_isn, q_isb, q_isnb, q_inl, q_int, q_nil, q_nit, x_l, x_t, x_s, z_l, z_t, v_l, v_t, f_lenl, f_lent, f_lens, f_abs, f_int, f_intb, f_bool, f_boolb, f_str, f_repr, f_reprB, f_sum, f_max1, f_min1, f_minP, f_max2, f_min2, f_lstl, f_lstt, f_lstd, f_dct, f_sortd, y_d1, y_d2, p_dic, k_dic, f_tupl, f_tupt, f_sorted, f_sortet, f_sset, f_sseu, f_all, f_any, f_gcd, f_lrg1, f_lrg2, f_trg1, f_trg2, t_bl, t_int, t_non, t_lst, t_tup, t_str, List.getElem?_cons_zero, List.getElem?_cons_succ, List.set_cons_zero, List.set_cons_succ, Option.some.injEq, exists_eq_left', exists_eq_left, exists_eq_right, exists_eq_right', cd_sh, cd_ow, D.int.injEq, D.bl.injEq, D.str.injEq, D.tup.injEq, D.lst.injEq, C.ow.injEq, C.sh.injEq, List.cons.injEq, reduceCtorEq, exists_and_left, exists_and_right, exists_const, implies_true, exists_eq, exists_eq', okEq_int, okEq_bl, okEq_non, deq_int, deq_bl, List.length_cons, List.length_nil, Nat.reduceAdd, true_and, and_true, if_true, if_false, decide_eq_true_eq, Bool.true_eq_false, Bool.false_eq_true, false_and, and_false, false_or, or_false, exists_false, and_self, D.hd.injEq, exists_prop, exists_eq_or_imp, Bool.not_eq_true, -Int.reducePow, -Nat.reducePow, g14]
    refine ⟨⟨by decide, log_s (by decide)⟩, fun r2 _ _ => ?_⟩
    by_cases c0 : r2 = 0
    · simp only [c0, decide_true, if_true, ss_nil, st_asg, st_asgT, st_par, st_seti, st_setk, st_app, st_ins, st_ext, st_expr, st_ret, st_iff, st_forr, st_whl, st_pass, st_brk, st_cont, tg_nm, tg_n, tg_c, tg_co, ev_var, ev_cst, ev_bin, ev_neg, ev_nt, ev_bop, ev_cmp, ev_chn, ev_ife, ev_tup, ev_lst, ev_ix, ev_sl, ev_rv, ev_dnil, ev_dsp, ev_bi, ev_call, ev_pop, ev_popA, ev_comp, ev_isi, te_nt, te_bop, te_cmp, te_chn, te_ife, te_var, te_call, te_bi, te_ix, te_bin, te_isi, te_cst, pk_var, pk_cst, pk_bin, pk_neg, pk_nt, pk_bop, pk_cmp, pk_chn, pk_ife, pk_tup, pk_lst, pk_ix, pk_sl, pk_rv, pk_dnil, pk_dsp, pk_bi, pk_call, pk_pop, pk_popA, pk_comp, pk_isi, rt_var, rt_cst, rt_bin, rt_neg, rt_nt, rt_bop, rt_cmp, rt_chn, rt_ife, rt_tup, rt_lst, rt_ix, rt_sl, rt_rv, rt_dnil, rt_dsp, rt_bi, rt_call, rt_pop, rt_comp, rt_isi, es_nil, es_cons, cs_nil, cs_cons, ps_nil, ps_cons, o_no, o_so, c_no, c_so, i_rg1, i_rg2, i_rg3, i_sq, i_dk, i_en, i_zp, i_rev, get_v, get_s, gets_nil, gets_cons, own_iff, ownd_iff, set_nil, set_cons, o_add, o_adds, o_addl, o_addt, o_sub, o_mul, o_mull, o_multt, o_div, o_mod, o_pow, o_shl, o_shr, o_and, o_or, o_xor, q_eq, q_ne, ek_s, ek_i, ek_b, ek_n, ek_l, ek_t, deq_str, q_lt, q_le, q_gt, q_ge, q_is, q_isn, q_isb, q_isnb, q_inl, q_int, q_nil, q_nit, x_l, x_t, x_s, z_l, z_t, v_l, v_t, f_lenl, f_lent, f_lens, f_abs, f_int, f_intb, f_bool, f_boolb, f_str, f_repr, f_reprB, f_sum, f_max1, f_min1, f_minP, f_max2, f_min2, f_lstl, f_lstt, f_lstd, f_dct, f_sortd, y_d1, y_d2, p_dic, k_dic, f_tupl, f_tupt, f_sorted, f_sortet, f_sset, f_sseu, f_all, f_any, f_gcd, f_lrg1, f_lrg2, f_trg1, f_trg2, t_bl, t_int, t_non, t_lst, t_tup, t_str, List.getElem?_cons_zero, List.getElem?_cons_succ, List.set_cons_zero, List.set_cons_succ, Option.some.injEq, exists_eq_left', exists_eq_left, exists_eq_right, exists_eq_right', cd_sh, cd_ow, D.int.injEq, D.bl.injEq, D.str.injEq, D.tup.injEq, D.lst.injEq, C.ow.injEq, C.sh.injEq, List.cons.injEq, reduceCtorEq, exists_and_left, exists_and_right, exists_const, implies_true, exists_eq, exists_eq', okEq_int, okEq_bl, okEq_non, deq_int, deq_bl, List.length_cons, List.length_nil, Nat.reduceAdd, true_and, and_true, if_true, if_false, decide_eq_true_eq, Bool.true_eq_false, Bool.false_eq_true, false_and, and_false, false_or, or_false, exists_false, and_self, D.hd.injEq, exists_prop, exists_eq_or_imp, Bool.not_eq_true, -Int.reducePow, -Nat.reducePow, g14]
      have hq : 0 ≤ top / s ∧ top / s ≤ top := ⟨Int.ediv_nonneg (by omega) (by omega), Int.ediv_le_self s (by omega)⟩
      have ht : (10 : Int) ^ 60 < 2 ^ 300 := by decide +kernel
      have hmx : (max 1 (top / s)).natAbs < 2 ^ 300 := by
        generalize (10 : Int) ^ 60 = T at p1 ht
        exact abs_lt (by omega) (by omega)
      refine ⟨wide_div (by omega) sa (by decide) (by decide), ⟨by omega, Nat.lt_of_lt_of_le (PySem.Flt.log2_lt_of (by decide) hmx) (by decide)⟩, fun r3 a b => rest r3 ?_⟩
      exact Nat.lt_of_le_of_lt (by omega) hmx
    · simp only [c0, decide_false, Bool.false_eq_true, if_false, ss_nil, st_asg, st_asgT, st_par, st_seti, st_setk, st_app, st_ins, st_ext, st_expr, st_ret, st_iff, st_forr, st_whl, st_pass, st_brk, st_cont, tg_nm, tg_n, tg_c, tg_co, ev_var, ev_cst, ev_bin, ev_neg, ev_nt, ev_bop, ev_cmp, ev_chn, ev_ife, ev_tup, ev_lst, ev_ix, ev_sl, ev_rv, ev_dnil, ev_dsp, ev_bi, ev_call, ev_pop, ev_popA, ev_comp, ev_isi, te_nt, te_bop, te_cmp, te_chn, te_ife, te_var, te_call, te_bi, te_ix, te_bin, te_isi, te_cst, pk_var, pk_cst, pk_bin, pk_neg, pk_nt, pk_bop, pk_cmp, pk_chn, pk_ife, pk_tup, pk_lst, pk_ix, pk_sl, pk_rv, pk_dnil, pk_dsp, pk_bi, pk_call, pk_pop, pk_popA, pk_comp, pk_isi, rt_var, rt_cst, rt_bin, rt_neg, rt_nt, rt_bop, rt_cmp, rt_chn, rt_ife, rt_tup, rt_lst, rt_ix, rt_sl, rt_rv, rt_dnil, rt_dsp, rt_bi, rt_call, rt_pop, rt_comp, rt_isi, es_nil, es_cons, cs_nil, cs_cons, ps_nil, ps_cons, o_no, o_so, c_no, c_so, i_rg1, i_rg2, i_rg3, i_sq, i_dk, i_en, i_zp, i_rev, get_v, get_s, gets_nil, gets_cons, own_iff, ownd_iff, set_nil, set_cons, o_add, o_adds, o_addl, o_addt, o_sub, o_mul, o_mull, o_multt, o_div, o_mod, o_pow, o_shl, o_shr, o_and, o_or, o_xor, q_eq, q_ne, ek_s, ek_i, ek_b, ek_n, ek_l, ek_t, deq_str, q_lt, q_le, q_gt, q_ge, q_is, q_isn, q_isb, q_isnb, q_inl, q_int, q_nil, q_nit, x_l, x_t, x_s, z_l, z_t, v_l, v_t, f_lenl, f_lent, f_lens, f_abs, f_int, f_intb, f_bool, f_boolb, f_str, f_repr, f_reprB, f_sum, f_max1, f_min1, f_minP, f_max2, f_min2, f_lstl, f_lstt, f_lstd, f_dct, f_sortd, y_d1, y_d2, p_dic, k_dic, f_tupl, f_tupt, f_sorted, f_sortet, f_sset, f_sseu, f_all, f_any, f_gcd, f_lrg1, f_lrg2, f_trg1, f_trg2, t_bl, t_int, t_non, t_lst, t_tup, t_str, List.getElem?_cons_zero, List.getElem?_cons_succ, List.set_cons_zero, List.set_cons_succ, Option.some.injEq, exists_eq_left', exists_eq_left, exists_eq_right, exists_eq_right', cd_sh, cd_ow, D.int.injEq, D.bl.injEq, D.str.injEq, D.tup.injEq, D.lst.injEq, C.ow.injEq, C.sh.injEq, List.cons.injEq, reduceCtorEq, exists_and_left, exists_and_right, exists_const, implies_true, exists_eq, exists_eq', okEq_int, okEq_bl, okEq_non, deq_int, deq_bl, List.length_cons, List.length_nil, Nat.reduceAdd, true_and, and_true, if_true, if_false, decide_eq_true_eq, Bool.true_eq_false, Bool.false_eq_true, false_and, and_false, false_or, or_false, exists_false, and_self, D.hd.injEq, exists_prop, exists_eq_or_imp, Bool.not_eq_true, -Int.reducePow, -Nat.reducePow, g14]
      refine ⟨⟨by decide, log_s (by decide)⟩, fun r3 a b => rest r3 ?_⟩
      exact Nat.lt_of_lt_of_le (show r3.natAbs < 40 by omega) (by decide)
  · subst he
    rw [List.length_map, List.length_range, Nat.zero_add] at sl
    have ne : sc ≠ [] := fun z => by rw [z] at sl; simp only [List.length_nil] at sl; omega
    have ret : ∀ (sc : List Rule) (o6 o7 o8 o9 : Option C), sc.length ≤ 40 → sc ≠ [] → GoodL (kb ks) sc → wSs gam b22_4 { nx := fun _ => Q (.sh .non), rt := Q } [some (.sh (.hd 0)), some (.sh (.int most)), some (.sh (.lst (ks.map rl))), some (.ow (.lst (sc.map rl))), some (.sh (.int top)), some (.sh (.int many)), o6, o7, o8, o9] := by
      intro sc o6 o7 o8 o9 hl hn hg
      unfold b22_4
      simp only [ss_cons, ss_nil, st_asg, st_asgT, st_par, st_seti, st_setk, st_app, st_ins, st_ext, st_expr, st_ret, st_iff, st_forr, st_whl, st_pass, st_brk, st_cont, tg_nm, tg_n, tg_c, tg_co, ev_var, ev_cst, ev_bin, ev_neg, ev_nt, ev_bop, ev_cmp, ev_chn, ev_ife, ev_tup, ev_lst, ev_ix, ev_sl, ev_rv, ev_dnil, ev_dsp, ev_bi, ev_call, ev_pop, ev_popA, ev_comp, ev_isi, te_nt, te_bop, te_cmp, te_chn, te_ife, te_var, te_call, te_bi, te_ix, te_bin, te_isi, te_cst, pk_var, pk_cst, pk_bin, pk_neg, pk_nt, pk_bop, pk_cmp, pk_chn, pk_ife, pk_tup, pk_lst, pk_ix, pk_sl, pk_rv, pk_dnil, pk_dsp, pk_bi, pk_call, pk_pop, pk_popA, pk_comp, pk_isi, rt_var, rt_cst, rt_bin, rt_neg, rt_nt, rt_bop, rt_cmp, rt_chn, rt_ife, rt_tup, rt_lst, rt_ix, rt_sl, rt_rv, rt_dnil, rt_dsp, rt_bi, rt_call, rt_pop, rt_comp, rt_isi, es_nil, es_cons, cs_nil, cs_cons, ps_nil, ps_cons, o_no, o_so, c_no, c_so, i_rg1, i_rg2, i_rg3, i_sq, i_dk, i_en, i_zp, i_rev, get_v, get_s, gets_nil, gets_cons, own_iff, ownd_iff, set_nil, set_cons, o_add, o_adds, o_addl, o_addt, o_sub, o_mul, o_mull, o_multt, o_div, o_mod, o_pow, o_shl, o_shr, o_and, o_or, o_xor, q_eq, q_ne, ek_s, ek_i, ek_b, ek_n, ek_l, ek_t, deq_str, q_lt, q_le, q_gt, q_ge, q_is, q_isn, q_isb, q_isnb, q_inl, q_int, q_nil, q_nit, x_l, x_t, x_s, z_l, z_t, v_l, v_t, f_lenl, f_lent, f_lens, f_abs, f_int, f_intb, f_bool, f_boolb, f_str, f_repr, f_reprB, f_sum, f_max1, f_min1, f_minP, f_max2, f_min2, f_lstl, f_lstt, f_lstd, f_dct, f_sortd, y_d1, y_d2, p_dic, k_dic, f_tupl, f_tupt, f_sorted, f_sortet, f_sset, f_sseu, f_all, f_any, f_gcd, f_lrg1, f_lrg2, f_trg1, f_trg2, t_bl, t_int, t_non, t_lst, t_tup, t_str, List.getElem?_cons_zero, List.getElem?_cons_succ, List.set_cons_zero, List.set_cons_succ, Option.some.injEq, exists_eq_left', exists_eq_left, exists_eq_right, exists_eq_right', cd_sh, cd_ow, D.int.injEq, D.bl.injEq, D.str.injEq, D.tup.injEq, D.lst.injEq, C.ow.injEq, C.sh.injEq, List.cons.injEq, reduceCtorEq, exists_and_left, exists_and_right, exists_const, implies_true, exists_eq, exists_eq', okEq_int, okEq_bl, okEq_non, deq_int, deq_bl, List.length_cons, List.length_nil, Nat.reduceAdd, true_and, and_true, if_true, if_false, decide_eq_true_eq, Bool.true_eq_false, Bool.false_eq_true, false_and, and_false, false_or, or_false, exists_false, and_self, D.hd.injEq, exists_prop, exists_eq_or_imp, Bool.not_eq_true, -Int.reducePow, -Nat.reducePow]
      refine ⟨sc, rfl, by omega, fun m hm => ?_⟩
      simp only [ss_cons, ss_nil, st_asg, st_asgT, st_par, st_seti, st_setk, st_app, st_ins, st_ext, st_expr, st_ret, st_iff, st_forr, st_whl, st_pass, st_brk, st_cont, tg_nm, tg_n, tg_c, tg_co, ev_var, ev_cst, ev_bin, ev_neg, ev_nt, ev_bop, ev_cmp, ev_chn, ev_ife, ev_tup, ev_lst, ev_ix, ev_sl, ev_rv, ev_dnil, ev_dsp, ev_bi, ev_call, ev_pop, ev_popA, ev_comp, ev_isi, te_nt, te_bop, te_cmp, te_chn, te_ife, te_var, te_call, te_bi, te_ix, te_bin, te_isi, te_cst, pk_var, pk_cst, pk_bin, pk_neg, pk_nt, pk_bop, pk_cmp, pk_chn, pk_ife, pk_tup, pk_lst, pk_ix, pk_sl, pk_rv, pk_dnil, pk_dsp, pk_bi, pk_call, pk_pop, pk_popA, pk_comp, pk_isi, rt_var, rt_cst, rt_bin, rt_neg, rt_nt, rt_bop, rt_cmp, rt_chn, rt_ife, rt_tup, rt_lst, rt_ix, rt_sl, rt_rv, rt_dnil, rt_dsp, rt_bi, rt_call, rt_pop, rt_comp, rt_isi, es_nil, es_cons, cs_nil, cs_cons, ps_nil, ps_cons, o_no, o_so, c_no, c_so, i_rg1, i_rg2, i_rg3, i_sq, i_dk, i_en, i_zp, i_rev, get_v, get_s, gets_nil, gets_cons, own_iff, ownd_iff, set_nil, set_cons, o_add, o_adds, o_addl, o_addt, o_sub, o_mul, o_mull, o_multt, o_div, o_mod, o_pow, o_shl, o_shr, o_and, o_or, o_xor, q_eq, q_ne, ek_s, ek_i, ek_b, ek_n, ek_l, ek_t, deq_str, q_lt, q_le, q_gt, q_ge, q_is, q_isn, q_isb, q_isnb, q_inl, q_int, q_nil, q_nit, x_l, x_t, x_s, z_l, z_t, v_l, v_t, f_lenl, f_lent, f_lens, f_abs, f_int, f_intb, f_bool, f_boolb, f_str, f_repr, f_reprB, f_sum, f_max1, f_min1, f_minP, f_max2, f_min2, f_lstl, f_lstt, f_lstd, f_dct, f_sortd, y_d1, y_d2, p_dic, k_dic, f_tupl, f_tupt, f_sorted, f_sortet, f_sset, f_sseu, f_all, f_any, f_gcd, f_lrg1, f_lrg2, f_trg1, f_trg2, t_bl, t_int, t_non, t_lst, t_tup, t_str, List.getElem?_cons_zero, List.getElem?_cons_succ, List.set_cons_zero, List.set_cons_succ, Option.some.injEq, exists_eq_left', exists_eq_left, exists_eq_right, exists_eq_right', cd_sh, cd_ow, D.int.injEq, D.bl.injEq, D.str.injEq, D.tup.injEq, D.lst.injEq, C.ow.injEq, C.sh.injEq, List.cons.injEq, reduceCtorEq, exists_and_left, exists_and_right, exists_const, implies_true, exists_eq, exists_eq', okEq_int, okEq_bl, okEq_non, deq_int, deq_bl, List.length_cons, List.length_nil, Nat.reduceAdd, true_and, and_true, if_true, if_false, decide_eq_true_eq, Bool.true_eq_false, Bool.false_eq_true, false_and, and_false, false_or, or_false, exists_false, and_self, D.hd.injEq, exists_prop, exists_eq_or_imp, Bool.not_eq_true, -Int.reducePow, -Nat.reducePow]
      refine q m ⟨fun z => hn (by rw [z] at hm; exact hm.nil_eq.symm), by rw [hm.length_eq]; omega, kb ks, ⟨kp, hT⟩, fun r hr => hg r (hm.mem_iff.mp hr)⟩
    unfold b22_3
    simp only [ss_cons, ss_nil, st_asg, st_asgT, st_par, st_seti, st_setk, st_app, st_ins, st_ext, st_expr, st_ret, st_iff, st_forr, st_whl, st_pass, st_brk, st_cont, tg_nm, tg_n, tg_c, tg_co, ev_var, ev_cst, ev_bin, ev_neg, ev_nt, ev_bop, ev_cmp, ev_chn, ev_ife, ev_tup, ev_lst, ev_ix, ev_sl, ev_rv, ev_dnil, ev_dsp, ev_bi, ev_call, ev_pop, ev_popA, ev_comp, ev_isi, te_nt, te_bop, te_cmp, te_chn, te_ife, te_var, te_call, te_bi, te_ix, te_bin, te_isi, te_cst, pk_var, pk_cst, pk_bin, pk_neg, pk_nt, pk_bop, pk_cmp, pk_chn, pk_ife, pk_tup, pk_lst, pk_ix, pk_sl, pk_rv, pk_dnil, pk_dsp, pk_bi, pk_call, pk_pop, pk_popA, pk_comp, pk_isi, rt_var, rt_cst, rt_bin, rt_neg, rt_nt, rt_bop, rt_cmp, rt_chn, rt_ife, rt_tup, rt_lst, rt_ix, rt_sl, rt_rv, rt_dnil, rt_dsp, rt_bi, rt_call, rt_pop, rt_comp, rt_isi, es_nil, es_cons, cs_nil, cs_cons, ps_nil, ps_cons, o_no, o_so, c_no, c_so, i_rg1, i_rg2, i_rg3, i_sq, i_dk, i_en, i_zp, i_rev, get_v, get_s, gets_nil, gets_cons, own_iff, ownd_iff, set_nil, set_cons, o_add, o_adds, o_addl, o_addt, o_sub, o_mul, o_mull, o_multt, o_div, o_mod, o_pow, o_shl, o_shr, o_and, o_or, o_xor, q_eq, q_ne, ek_s, ek_i, ek_b, ek_n, ek_l, ek_t, deq_str, q_lt, q_le, q_gt, q_ge, q_is, q_isn, q_isb, q_isnb, q_inl, q_int, q_nil, q_nit, x_l, x_t, x_s, z_l, z_t, v_l, v_t, f_lenl, f_lent, f_lens, f_abs, f_int, f_intb, f_bool, f_boolb, f_str, f_repr, f_reprB, f_sum, f_max1, f_min1, f_minP, f_max2, f_min2, f_lstl, f_lstt, f_lstd, f_dct, f_sortd, y_d1, y_d2, p_dic, k_dic, f_tupl, f_tupt, f_sorted, f_sortet, f_sset, f_sseu, f_all, f_any, f_gcd, f_lrg1, f_lrg2, f_trg1, f_trg2, t_bl, t_int, t_non, t_lst, t_tup, t_str, List.getElem?_cons_zero, List.getElem?_cons_succ, List.set_cons_zero, List.set_cons_succ, Option.some.injEq, exists_eq_left', exists_eq_left, exists_eq_right, exists_eq_right', cd_sh, cd_ow, D.int.injEq, D.bl.injEq, D.str.injEq, D.tup.injEq, D.lst.injEq, C.ow.injEq, C.sh.injEq, List.cons.injEq, reduceCtorEq, exists_and_left, exists_and_right, exists_const, implies_true, exists_eq, exists_eq', okEq_int, okEq_bl, okEq_non, deq_int, deq_bl, List.length_cons, List.length_nil, Nat.reduceAdd, true_and, and_true, if_true, if_false, decide_eq_true_eq, Bool.true_eq_false, Bool.false_eq_true, false_and, and_false, false_or, or_false, exists_false, and_self, D.hd.injEq, exists_prop, exists_eq_or_imp, Bool.not_eq_true, -Int.reducePow, -Nat.reducePow, g14, g15]
    refine ⟨⟨by decide, log_s (by decide)⟩, fun r _ _ => ?_⟩
    by_cases c0 : r = 0
    · simp only [c0, decide_true, if_true]
      have tb : (10 : Int) ^ 60 < 2 ^ 300 := by decide +kernel
      have ta : top.natAbs < 2 ^ 300 := by
        generalize (10 : Int) ^ 60 = T at p1 tb
        exact abs_lt (by omega) (by omega)
      refine ⟨⟨by omega, Nat.lt_of_lt_of_le (PySem.Flt.log2_lt_of (by decide) ta) (by decide)⟩, fun r2 a b => ⟨pw 60 (by decide) (by decide), by rw [sizeL]; decide, ⟨by decide, by decide⟩, fun d hd => ?_⟩⟩
      obtain ⟨x, rfl, x0, x1⟩ : ∃ x : Int, d = .int x ∧ 0 ≤ x ∧ x ≤ 10 ^ 60 := by
        simp only [List.mem_cons, List.not_mem_nil, or_false, e60] at hd
        have : (0 : Int) < 10 ^ 60 := by decide +kernel
        generalize (10 : Int) ^ 60 = T at p1 hd this ⊢
        rcases hd with rfl | rfl | rfl | rfl | rfl <;> exact ⟨_, rfl, by omega, by omega⟩
      have lm : (sc.map rl).length = sc.length := List.length_map ..
      refine ⟨by rw [sizeL]; decide, ⟨by omega, log_s (by omega)⟩, fun r3 a3 b5003 => ?_⟩
      have hix : ixN (sc.map rl).length r3 = some r3.toNat := by
        unfold ixN
        rw [if_pos a3, if_pos (by omega)]
      refine ⟨r3.toNat, hix, ?_⟩
      have e : (sc.map rl).set r3.toNat (.tup [.int x, .int 0]) = (sc.set r3.toNat (x, 0)).map rl := by
        rw [List.map_set]
        rfl
      rw [e]
      refine ret _ _ _ _ _ (by rw [List.length_set]; omega) (fun z => ne (by have := congrArg List.length z; rw [List.length_set] at this; exact List.length_eq_zero_iff.mp this)) fun r hr => ?_
      rcases List.mem_or_eq_of_mem_set hr with hr | hr
      · exact sg r hr
      · rw [hr]
        exact ⟨⟨x0, x1⟩, Int.le_refl _, .inl rfl⟩
    · simp only [c0, decide_false, Bool.false_eq_true, if_false]
      exact ret sc _ _ _ _ (by omega) ne sg

theorem mul_div_lcm {f n : Int} (hf : 0 < f) : f * n / gcI f n = lcm_ f n := by
  have hd : gcI f n ∣ f := Int.ofNat_dvd_left.mpr (Nat.gcd_dvd_left _ _)
  have hg : gcI f n ≠ 0 := by
    have := Nat.gcd_pos_of_pos_left (m := f.natAbs) n.natAbs (by omega)
    unfold gcI
    omega
  unfold lcm_
  show f * n / gcI f n = f / gcI f n * n
  obtain ⟨q, hq⟩ := hd
  generalize gcI f n = g at hq hg
  subst hq
  rw [Int.mul_ediv_cancel_left _ hg, Int.mul_assoc, Int.mul_ediv_cancel_left _ hg]
theorem t8 (d : D) (Q : C → Prop) (h : plx d = true) (q : Q (.sh (.bl (numB d)))) : Bd b8 [some (.sh d)] Q := by
  unfold Bd b8
  (refine go1 ?_; try simp only [ss_nil, st_asg, st_asgT, st_par, st_seti, st_setk, st_app, st_ins, st_ext, st_expr, st_ret, st_iff, st_forr, st_whl, st_pass, st_brk, st_cont, tg_nm, tg_n, tg_c, tg_co, ev_var, ev_cst, ev_bin, ev_neg, ev_nt, ev_bop, ev_cmp, ev_chn, ev_ife, ev_tup, ev_lst, ev_ix, ev_sl, ev_rv, ev_dnil, ev_dsp, ev_bi, ev_call, ev_pop, ev_popA, ev_comp, ev_isi, te_nt, te_bop, te_cmp, te_chn, te_ife, te_var, te_call, te_bi, te_ix, te_bin, te_isi, te_cst, pk_var, pk_cst, pk_bin, pk_neg, pk_nt, pk_bop, pk_cmp, pk_chn, pk_ife, pk_tup, pk_lst, pk_ix, pk_sl, pk_rv, pk_dnil, pk_dsp, pk_bi, pk_call, pk_pop, pk_popA, pk_comp, pk_isi, rt_var, rt_cst, rt_bin, rt_neg, rt_nt, rt_bop, rt_cmp, rt_chn, rt_ife, rt_tup, rt_lst, rt_ix, rt_sl, rt_rv, rt_dnil, rt_dsp, rt_bi, rt_call, rt_pop, rt_comp, rt_isi, es_nil, es_cons, cs_nil, cs_cons, ps_nil, ps_cons, o_no, o_so, c_no, c_so, i_rg1, i_rg2, i_rg3, i_sq, i_dk, i_en, i_zp, i_rev, get_v, get_s, gets_nil, gets_cons, own_iff, ownd_iff, set_nil, set_cons, o_add, o_adds, o_addl, o_addt, o_sub, o_mul, o_mull, o_multt, o_div, o_mod, o_pow, o_shl, o_shr, o_and, o_or, o_xor, q_eq, q_ne, ek_s, ek_i, ek_b, ek_n, ek_l, ek_t, deq_str, q_lt, q_le, q_gt, q_ge, q_is, q_isn, q_isb, q_isnb, q_inl, q_int, q_nil, q_nit, x_l, x_t, x_s, z_l, z_t, v_l, v_t, f_lenl, f_lent, f_lens, f_abs, f_int, f_intb, f_bool, f_boolb, f_str, f_repr, f_reprB, f_sum, f_max1, f_min1, f_minP, f_max2, f_min2, f_lstl, f_lstt, f_lstd, f_dct, f_sortd, y_d1, y_d2, p_dic, k_dic, f_tupl, f_tupt, f_sorted, f_sortet, f_sset, f_sseu, f_all, f_any, f_gcd, f_lrg1, f_lrg2, f_trg1, f_trg2, t_bl, t_int, t_non, t_lst, t_tup, t_str, List.getElem?_cons_zero, List.getElem?_cons_succ, List.set_cons_zero, List.set_cons_succ, Option.some.injEq, exists_eq_left', exists_eq_left, exists_eq_right, exists_eq_right', cd_sh, cd_ow, D.int.injEq, D.bl.injEq, D.str.injEq, D.tup.injEq, D.lst.injEq, C.ow.injEq, C.sh.injEq, List.cons.injEq, reduceCtorEq, exists_and_left, exists_and_right, exists_const, implies_true, exists_eq, exists_eq', okEq_int, okEq_bl, okEq_non, deq_int, deq_bl, List.length_cons, List.length_nil, Nat.reduceAdd, true_and, and_true, if_true, if_false, decide_eq_true_eq, Bool.true_eq_false, Bool.false_eq_true, false_and, and_false, false_or, or_false, exists_false, and_self, D.hd.injEq, exists_prop, exists_eq_or_imp, Bool.not_eq_true, -Int.reducePow, -Nat.reducePow, g7, cM60])
  refine ⟨h, ?_⟩
  cases d with
  | int i =>
    simp only [ss_nil, st_asg, st_asgT, st_par, st_seti, st_setk, st_app, st_ins, st_ext, st_expr, st_ret, st_iff, st_forr, st_whl, st_pass, st_brk, st_cont, tg_nm, tg_n, tg_c, tg_co, ev_var, ev_cst, ev_bin, ev_neg, ev_nt, ev_bop, ev_cmp, ev_chn, ev_ife, ev_tup, ev_lst, ev_ix, ev_sl, ev_rv, ev_dnil, ev_dsp, ev_bi, ev_call, ev_pop, ev_popA, ev_comp, ev_isi, te_nt, te_bop, te_cmp, te_chn, te_ife, te_var, te_call, te_bi, te_ix, te_bin, te_isi, te_cst, pk_var, pk_cst, pk_bin, pk_neg, pk_nt, pk_bop, pk_cmp, pk_chn, pk_ife, pk_tup, pk_lst, pk_ix, pk_sl, pk_rv, pk_dnil, pk_dsp, pk_bi, pk_call, pk_pop, pk_popA, pk_comp, pk_isi, rt_var, rt_cst, rt_bin, rt_neg, rt_nt, rt_bop, rt_cmp, rt_chn, rt_ife, rt_tup, rt_lst, rt_ix, rt_sl, rt_rv, rt_dnil, rt_dsp, rt_bi, rt_call, rt_pop, rt_comp, rt_isi, es_nil, es_cons, cs_nil, cs_cons, ps_nil, ps_cons, o_no, o_so, c_no, c_so, i_rg1, i_rg2, i_rg3, i_sq, i_dk, i_en, i_zp, i_rev, get_v, get_s, gets_nil, gets_cons, own_iff, ownd_iff, set_nil, set_cons, o_add, o_adds, o_addl, o_addt, o_sub, o_mul, o_mull, o_multt, o_div, o_mod, o_pow, o_shl, o_shr, o_and, o_or, o_xor, q_eq, q_ne, ek_s, ek_i, ek_b, ek_n, ek_l, ek_t, deq_str, q_lt, q_le, q_gt, q_ge, q_is, q_isn, q_isb, q_isnb, q_inl, q_int, q_nil, q_nit, x_l, x_t, x_s, z_l, z_t, v_l, v_t, f_lenl, f_lent, f_lens, f_abs, f_int, f_intb, f_bool, f_boolb, f_str, f_repr, f_reprB, f_sum, f_max1, f_min1, f_minP, f_max2, f_min2, f_lstl, f_lstt, f_lstd, f_dct, f_sortd, y_d1, y_d2, p_dic, k_dic, f_tupl, f_tupt, f_sorted, f_sortet, f_sset, f_sseu, f_all, f_any, f_gcd, f_lrg1, f_lrg2, f_trg1, f_trg2, t_bl, t_int, t_non, t_lst, t_tup, t_str, List.getElem?_cons_zero, List.getElem?_cons_succ, List.set_cons_zero, List.set_cons_succ, Option.some.injEq, exists_eq_left', exists_eq_left, exists_eq_right, exists_eq_right', cd_sh, cd_ow, D.int.injEq, D.bl.injEq, D.str.injEq, D.tup.injEq, D.lst.injEq, C.ow.injEq, C.sh.injEq, List.cons.injEq, reduceCtorEq, exists_and_left, exists_and_right, exists_const, implies_true, exists_eq, exists_eq', okEq_int, okEq_bl, okEq_non, deq_int, deq_bl, List.length_cons, List.length_nil, Nat.reduceAdd, true_and, and_true, if_true, if_false, decide_eq_true_eq, Bool.true_eq_false, Bool.false_eq_true, false_and, and_false, false_or, or_false, exists_false, and_self, D.hd.injEq, exists_prop, exists_eq_or_imp, Bool.not_eq_true, -Int.reducePow, -Nat.reducePow, whl]
    by_cases c : -M60 ≤ i
    · refine if_p c ?_
      rwa [show numB (.int i) = (decide (-M60 ≤ i) && decide (i ≤ M60)) from rfl, decide_eq_true c, Bool.true_and] at q
    · refine if_q c ?_
      rwa [show numB (.int i) = (decide (-M60 ≤ i) && decide (i ≤ M60)) from rfl, decide_eq_false c, Bool.false_and] at q
  | _ => exact q
theorem t23 (d : D) (a b : Int) (Q : C → Prop) (h : plx d = true) (q : Q (.sh (.bl (wholeB a b d)))) : Bd b23 [some (.sh d), some (.sh (.int a)), some (.sh (.int b))] Q := by
  unfold Bd b23
  (refine go1 ?_; try simp only [ss_nil, st_asg, st_asgT, st_par, st_seti, st_setk, st_app, st_ins, st_ext, st_expr, st_ret, st_iff, st_forr, st_whl, st_pass, st_brk, st_cont, tg_nm, tg_n, tg_c, tg_co, ev_var, ev_cst, ev_bin, ev_neg, ev_nt, ev_bop, ev_cmp, ev_chn, ev_ife, ev_tup, ev_lst, ev_ix, ev_sl, ev_rv, ev_dnil, ev_dsp, ev_bi, ev_call, ev_pop, ev_popA, ev_comp, ev_isi, te_nt, te_bop, te_cmp, te_chn, te_ife, te_var, te_call, te_bi, te_ix, te_bin, te_isi, te_cst, pk_var, pk_cst, pk_bin, pk_neg, pk_nt, pk_bop, pk_cmp, pk_chn, pk_ife, pk_tup, pk_lst, pk_ix, pk_sl, pk_rv, pk_dnil, pk_dsp, pk_bi, pk_call, pk_pop, pk_popA, pk_comp, pk_isi, rt_var, rt_cst, rt_bin, rt_neg, rt_nt, rt_bop, rt_cmp, rt_chn, rt_ife, rt_tup, rt_lst, rt_ix, rt_sl, rt_rv, rt_dnil, rt_dsp, rt_bi, rt_call, rt_pop, rt_comp, rt_isi, es_nil, es_cons, cs_nil, cs_cons, ps_nil, ps_cons, o_no, o_so, c_no, c_so, i_rg1, i_rg2, i_rg3, i_sq, i_dk, i_en, i_zp, i_rev, get_v, get_s, gets_nil, gets_cons, own_iff, ownd_iff, set_nil, set_cons, o_add, o_adds, o_addl, o_addt, o_sub, o_mul, o_mull, o_multt, o_div, o_mod, o_pow, o_shl, o_shr, o_and, o_or, o_xor, q_eq, q_ne, ek_s, ek_i, ek_b, ek_n, ek_l, ek_t, deq_str, q_lt, q_le, q_gt, q_ge, q_is, q_isn, q_isb, q_isnb, q_inl, q_int, q_nil, q_nit, x_l, x_t, x_s, z_l, z_t, v_l, v_t, f_lenl, f_lent, f_lens, f_abs, f_int, f_intb, f_bool, f_boolb, f_str, f_repr, f_reprB, f_sum, f_max1, f_min1, f_minP, f_max2, f_min2, f_lstl, f_lstt, f_lstd, f_dct, f_sortd, y_d1, y_d2, p_dic, k_dic, f_tupl, f_tupt, f_sorted, f_sortet, f_sset, f_sseu, f_all, f_any, f_gcd, f_lrg1, f_lrg2, f_trg1, f_trg2, t_bl, t_int, t_non, t_lst, t_tup, t_str, List.getElem?_cons_zero, List.getElem?_cons_succ, List.set_cons_zero, List.set_cons_succ, Option.some.injEq, exists_eq_left', exists_eq_left, exists_eq_right, exists_eq_right', cd_sh, cd_ow, D.int.injEq, D.bl.injEq, D.str.injEq, D.tup.injEq, D.lst.injEq, C.ow.injEq, C.sh.injEq, List.cons.injEq, reduceCtorEq, exists_and_left, exists_and_right, exists_const, implies_true, exists_eq, exists_eq', okEq_int, okEq_bl, okEq_non, deq_int, deq_bl, List.length_cons, List.length_nil, Nat.reduceAdd, true_and, and_true, if_true, if_false, decide_eq_true_eq, Bool.true_eq_false, Bool.false_eq_true, false_and, and_false, false_or, or_false, exists_false, and_self, D.hd.injEq, exists_prop, exists_eq_or_imp, Bool.not_eq_true, -Int.reducePow, -Nat.reducePow, ty_int h, ty_bool h])
  cases d with
  | int i =>
    simp only [ss_nil, st_asg, st_asgT, st_par, st_seti, st_setk, st_app, st_ins, st_ext, st_expr, st_ret, st_iff, st_forr, st_whl, st_pass, st_brk, st_cont, tg_nm, tg_n, tg_c, tg_co, ev_var, ev_cst, ev_bin, ev_neg, ev_nt, ev_bop, ev_cmp, ev_chn, ev_ife, ev_tup, ev_lst, ev_ix, ev_sl, ev_rv, ev_dnil, ev_dsp, ev_bi, ev_call, ev_pop, ev_popA, ev_comp, ev_isi, te_nt, te_bop, te_cmp, te_chn, te_ife, te_var, te_call, te_bi, te_ix, te_bin, te_isi, te_cst, pk_var, pk_cst, pk_bin, pk_neg, pk_nt, pk_bop, pk_cmp, pk_chn, pk_ife, pk_tup, pk_lst, pk_ix, pk_sl, pk_rv, pk_dnil, pk_dsp, pk_bi, pk_call, pk_pop, pk_popA, pk_comp, pk_isi, rt_var, rt_cst, rt_bin, rt_neg, rt_nt, rt_bop, rt_cmp, rt_chn, rt_ife, rt_tup, rt_lst, rt_ix, rt_sl, rt_rv, rt_dnil, rt_dsp, rt_bi, rt_call, rt_pop, rt_comp, rt_isi, es_nil, es_cons, cs_nil, cs_cons, ps_nil, ps_cons, o_no, o_so, c_no, c_so, i_rg1, i_rg2, i_rg3, i_sq, i_dk, i_en, i_zp, i_rev, get_v, get_s, gets_nil, gets_cons, own_iff, ownd_iff, set_nil, set_cons, o_add, o_adds, o_addl, o_addt, o_sub, o_mul, o_mull, o_multt, o_div, o_mod, o_pow, o_shl, o_shr, o_and, o_or, o_xor, q_eq, q_ne, ek_s, ek_i, ek_b, ek_n, ek_l, ek_t, deq_str, q_lt, q_le, q_gt, q_ge, q_is, q_isn, q_isb, q_isnb, q_inl, q_int, q_nil, q_nit, x_l, x_t, x_s, z_l, z_t, v_l, v_t, f_lenl, f_lent, f_lens, f_abs, f_int, f_intb, f_bool, f_boolb, f_str, f_repr, f_reprB, f_sum, f_max1, f_min1, f_minP, f_max2, f_min2, f_lstl, f_lstt, f_lstd, f_dct, f_sortd, y_d1, y_d2, p_dic, k_dic, f_tupl, f_tupt, f_sorted, f_sortet, f_sset, f_sseu, f_all, f_any, f_gcd, f_lrg1, f_lrg2, f_trg1, f_trg2, t_bl, t_int, t_non, t_lst, t_tup, t_str, List.getElem?_cons_zero, List.getElem?_cons_succ, List.set_cons_zero, List.set_cons_succ, Option.some.injEq, exists_eq_left', exists_eq_left, exists_eq_right, exists_eq_right', cd_sh, cd_ow, D.int.injEq, D.bl.injEq, D.str.injEq, D.tup.injEq, D.lst.injEq, C.ow.injEq, C.sh.injEq, List.cons.injEq, reduceCtorEq, exists_and_left, exists_and_right, exists_const, implies_true, exists_eq, exists_eq', okEq_int, okEq_bl, okEq_non, deq_int, deq_bl, List.length_cons, List.length_nil, Nat.reduceAdd, true_and, and_true, if_true, if_false, decide_eq_true_eq, Bool.true_eq_false, Bool.false_eq_true, false_and, and_false, false_or, or_false, exists_false, and_self, D.hd.injEq, exists_prop, exists_eq_or_imp, Bool.not_eq_true, -Int.reducePow, -Nat.reducePow, isIB, isB]
    refine if_p rfl ?_
    by_cases c : a ≤ i
    · refine if_p c ?_
      rwa [show wholeB a b (.int i) = (decide (a ≤ i) && decide (i ≤ b)) from rfl, decide_eq_true c, Bool.true_and] at q
    · refine if_q c ?_
      rwa [show wholeB a b (.int i) = (decide (a ≤ i) && decide (i ≤ b)) from rfl, decide_eq_false c, Bool.false_and] at q
  | _ => exact q
theorem gcI_bd {a b : Int} (ha : 0 < a) (hb : 0 < b) (h : b.natAbs < 2 ^ 210) : 0 < gcI a b ∧ (gcI a b).natAbs < 2 ^ 210 := by
  have p := Nat.gcd_pos_of_pos_left (m := a.natAbs) b.natAbs (by omega)
  have l := Nat.gcd_le_right (n := b.natAbs) a.natAbs (by omega)
  unfold gcI
  exact ⟨by omega, by rw [Int.natAbs_natCast]; omega⟩
theorem lcm_bd {a b : Int} (ha : 0 < a) (hb : 0 < b) {k : Nat} (h : a.natAbs < 2 ^ k) (h1 : b.natAbs < 2 ^ 200) : (lcm_ a b).natAbs < 2 ^ (k + 200) := by
  have g := (gcI_bd ha hb (Nat.lt_of_lt_of_le h1 (Nat.pow_le_pow_right (by decide) (by decide)))).1
  have e : lcm_ a b = a / gcI a b * b := rfl
  rw [e]
  exact wide_lt (div_abs g h) h1
theorem t5 (a b : Int) (Q : C → Prop) (h : 0 < a ∧ 0 < b ∧ a.natAbs < 2 ^ 8400 ∧ b.natAbs < 2 ^ 210) (q : Q (.sh (.int (lcm_ a b)))) : Bd b5 [some (.sh (.int a)), some (.sh (.int b))] Q := by
  obtain ⟨h1, h2, h3, h4⟩ := h
  obtain ⟨g1, g2⟩ := gcI_bd h1 h2 h4
  unfold Bd b5
  simp only [ss_cons, ss_nil, st_asg, st_asgT, st_par, st_seti, st_setk, st_app, st_ins, st_ext, st_expr, st_ret, st_iff, st_forr, st_whl, st_pass, st_brk, st_cont, tg_nm, tg_n, tg_c, tg_co, ev_var, ev_cst, ev_bin, ev_neg, ev_nt, ev_bop, ev_cmp, ev_chn, ev_ife, ev_tup, ev_lst, ev_ix, ev_sl, ev_rv, ev_dnil, ev_dsp, ev_bi, ev_call, ev_pop, ev_popA, ev_comp, ev_isi, te_nt, te_bop, te_cmp, te_chn, te_ife, te_var, te_call, te_bi, te_ix, te_bin, te_isi, te_cst, pk_var, pk_cst, pk_bin, pk_neg, pk_nt, pk_bop, pk_cmp, pk_chn, pk_ife, pk_tup, pk_lst, pk_ix, pk_sl, pk_rv, pk_dnil, pk_dsp, pk_bi, pk_call, pk_pop, pk_popA, pk_comp, pk_isi, rt_var, rt_cst, rt_bin, rt_neg, rt_nt, rt_bop, rt_cmp, rt_chn, rt_ife, rt_tup, rt_lst, rt_ix, rt_sl, rt_rv, rt_dnil, rt_dsp, rt_bi, rt_call, rt_pop, rt_comp, rt_isi, es_nil, es_cons, cs_nil, cs_cons, ps_nil, ps_cons, o_no, o_so, c_no, c_so, i_rg1, i_rg2, i_rg3, i_sq, i_dk, i_en, i_zp, i_rev, get_v, get_s, gets_nil, gets_cons, own_iff, ownd_iff, set_nil, set_cons, o_add, o_adds, o_addl, o_addt, o_sub, o_mul, o_mull, o_multt, o_div, o_mod, o_pow, o_shl, o_shr, o_and, o_or, o_xor, q_eq, q_ne, ek_s, ek_i, ek_b, ek_n, ek_l, ek_t, deq_str, q_lt, q_le, q_gt, q_ge, q_is, q_isn, q_isb, q_isnb, q_inl, q_int, q_nil, q_nit, x_l, x_t, x_s, z_l, z_t, v_l, v_t, f_lenl, f_lent, f_lens, f_abs, f_int, f_intb, f_bool, f_boolb, f_str, f_repr, f_reprB, f_sum, f_max1, f_min1, f_minP, f_max2, f_min2, f_lstl, f_lstt, f_lstd, f_dct, f_sortd, y_d1, y_d2, p_dic, k_dic, f_tupl, f_tupt, f_sorted, f_sortet, f_sset, f_sseu, f_all, f_any, f_gcd, f_lrg1, f_lrg2, f_trg1, f_trg2, t_bl, t_int, t_non, t_lst, t_tup, t_str, List.getElem?_cons_zero, List.getElem?_cons_succ, List.set_cons_zero, List.set_cons_succ, Option.some.injEq, exists_eq_left', exists_eq_left, exists_eq_right, exists_eq_right', cd_sh, cd_ow, D.int.injEq, D.bl.injEq, D.str.injEq, D.tup.injEq, D.lst.injEq, C.ow.injEq, C.sh.injEq, List.cons.injEq, reduceCtorEq, exists_and_left, exists_and_right, exists_const, implies_true, exists_eq, exists_eq', okEq_int, okEq_bl, okEq_non, deq_int, deq_bl, List.length_cons, List.length_nil, Nat.reduceAdd, true_and, and_true, if_true, if_false, decide_eq_true_eq, Bool.true_eq_false, Bool.false_eq_true, false_and, and_false, false_or, or_false, exists_false, and_self, D.hd.injEq, exists_prop, exists_eq_or_imp, Bool.not_eq_true, -Int.reducePow, -Nat.reducePow]
  exact ⟨wide_div g1 g2 (by decide) (by decide), (wide_mul (div_abs g1 h3) h4 (by decide) (by decide) (by decide)).ok, q⟩
theorem M60w : M60 < 2 ^ 200 := by decide +kernel
theorem abs200 {x : Int} (h : 0 ≤ x) (h1 : x ≤ M60) : x.natAbs < 2 ^ 200 := by
  have := M60w
  exact abs_lt (by omega) (by have : (0 : Int) < 2 ^ 200 := by decide +kernel
                              omega)
theorem lcmF_snoc (ns : List Int) (s : Int) : lcmF (ns ++ [s]) = lcm_ (lcmF ns) s := by
  unfold lcmF
  rw [List.foldl_append]
  rfl
theorem lcmF_pos : ∀ {ns : List Int}, (∀ n, n ∈ ns → 0 < n) → 0 < lcmF ns := by
  have key : ∀ (ns : List Int) (f : Int), 0 < f → (∀ n, n ∈ ns → 0 < n) → 0 < ns.foldl lcm_ f := by
    intro ns
    induction ns with
    | nil => exact fun f h _ => h
    | cons n ns ih => exact fun f h k => ih _ (lcm_pos h (k n List.mem_cons_self)) fun x hx => k x (List.mem_cons_of_mem _ hx)
  exact fun {ns} h => key ns 1 (by decide) h
theorem lcmF_bd : ∀ {ns : List Int}, (∀ n, n ∈ ns → 0 < n ∧ n ≤ M60) → (lcmF ns).natAbs < 2 ^ (200 * ns.length + 1) := by
  have key : ∀ (ns : List Int) (f : Int) (k : Nat), 0 < f → f.natAbs < 2 ^ k → (∀ n, n ∈ ns → 0 < n ∧ n ≤ M60) → (ns.foldl lcm_ f).natAbs < 2 ^ (200 * ns.length + k) := by
    intro ns
    induction ns with
    | nil => intro f k _ h _; rw [List.length_nil, Nat.mul_zero, Nat.zero_add]; exact h
    | cons n ns ih =>
      intro f k f0 h hn
      have n0 := hn n List.mem_cons_self
      have := ih (lcm_ f n) (k + 200) (lcm_pos f0 n0.1) (lcm_bd f0 n0.1 h (abs200 (by omega) n0.2)) fun x hx => hn x (List.mem_cons_of_mem _ hx)
      rw [List.length_cons, show 200 * (ns.length + 1) + k = 200 * ns.length + (k + 200) by omega]
      exact this
  exact fun {ns} h => key ns 1 1 (by decide) (by decide) h
theorem rule_2 (x y : D) : ruleB (.tup [x, y]) = (wholeB 0 M60 x && (wholeB 0 M60 y && match y with | .int s => !decide (s = 1) | _ => false)) := by
  cases x with
  | int a =>
    cases y with
    | int b => rfl
    | _ => simp [ruleB, wholeB]
  | _ => simp [ruleB, wholeB]
theorem rule_len {l : List D} (h : l.length ≠ 2) : ruleB (.tup l) = false := by
  match l, h with
  | [], _ => rfl
  | [d], _ => cases d <;> rfl
  | [_, _], h => exact absurd rfl h
  | d :: e :: _ :: _, _ => cases d <;> cases e <;> rfl
theorem rule_of {d : D} (h : ruleB d = true) : Rl d ∧ stp d ≠ 1 := by
  match d, h with
  | .tup [.int b, .int s], h =>
    obtain ⟨h1, h2⟩ := Bool.and_eq_true_iff.1 (show ((decide (0 ≤ b) && decide (b ≤ M60)) && ((decide (0 ≤ s) && decide (s ≤ M60)) && !decide (s = 1))) = true from h)
    obtain ⟨h2, h3⟩ := Bool.and_eq_true_iff.1 h2
    obtain ⟨a1, a2⟩ := Bool.and_eq_true_iff.1 h1
    obtain ⟨a3, a4⟩ := Bool.and_eq_true_iff.1 h2
    refine ⟨⟨b, s, rfl, ⟨of_decide_eq_true a1, of_decide_eq_true a2⟩, of_decide_eq_true a3, of_decide_eq_true a4⟩, fun e => ?_⟩
    have e2 : s = 1 := e
    rw [e2] at h3
    exact nomatch h3
theorem rule_prog (x : D) (a : Int) (y : D) (hx : x = .int a) (hn : -M60 ≤ a ∧ a ≤ M60) : ruleB (.tup [x, y]) = (whl y && match y with | .int s => (decide (0 ≤ a) && (decide (s = 0) || (decide (2 ≤ s) && decide (s ≤ M60)))) | _ => false) := by
  subst hx
  cases y with
  | int s =>
    show ((decide (0 ≤ a) && decide (a ≤ M60)) && ((decide (0 ≤ s) && decide (s ≤ M60)) && !decide (s = 1))) = _
    have m : 1 ≤ M60 := by decide +kernel
    rw [Bool.eq_iff_iff]
    simp only [whl, Bool.and_eq_true, Bool.or_eq_true, decide_eq_true_eq, Bool.not_eq_true', decide_eq_false_iff_not, true_and]
    generalize M60 = M at *
    omega
  | _ => simp [ruleB, whl]
theorem t9 (d : D) (Q : C → Prop) (h : plx d = true) (q : Q (.sh (.bl (ruleB d)))) : Bd b9 [some (.sh d)] Q := by
  have bad : ruleB d = false → ∀ nx, wSs gam l9_1 { nx := nx, rt := Q } [some (C.sh d)] := fun e nx => by
    rw [e] at q
    unfold l9_1
    (refine go1 ?_; try simp only [ss_nil, st_asg, st_asgT, st_par, st_seti, st_setk, st_app, st_ins, st_ext, st_expr, st_ret, st_iff, st_forr, st_whl, st_pass, st_brk, st_cont, tg_nm, tg_n, tg_c, tg_co, ev_var, ev_cst, ev_bin, ev_neg, ev_nt, ev_bop, ev_cmp, ev_chn, ev_ife, ev_tup, ev_lst, ev_ix, ev_sl, ev_rv, ev_dnil, ev_dsp, ev_bi, ev_call, ev_pop, ev_popA, ev_comp, ev_isi, te_nt, te_bop, te_cmp, te_chn, te_ife, te_var, te_call, te_bi, te_ix, te_bin, te_isi, te_cst, pk_var, pk_cst, pk_bin, pk_neg, pk_nt, pk_bop, pk_cmp, pk_chn, pk_ife, pk_tup, pk_lst, pk_ix, pk_sl, pk_rv, pk_dnil, pk_dsp, pk_bi, pk_call, pk_pop, pk_popA, pk_comp, pk_isi, rt_var, rt_cst, rt_bin, rt_neg, rt_nt, rt_bop, rt_cmp, rt_chn, rt_ife, rt_tup, rt_lst, rt_ix, rt_sl, rt_rv, rt_dnil, rt_dsp, rt_bi, rt_call, rt_pop, rt_comp, rt_isi, es_nil, es_cons, cs_nil, cs_cons, ps_nil, ps_cons, o_no, o_so, c_no, c_so, i_rg1, i_rg2, i_rg3, i_sq, i_dk, i_en, i_zp, i_rev, get_v, get_s, gets_nil, gets_cons, own_iff, ownd_iff, set_nil, set_cons, o_add, o_adds, o_addl, o_addt, o_sub, o_mul, o_mull, o_multt, o_div, o_mod, o_pow, o_shl, o_shr, o_and, o_or, o_xor, q_eq, q_ne, ek_s, ek_i, ek_b, ek_n, ek_l, ek_t, deq_str, q_lt, q_le, q_gt, q_ge, q_is, q_isn, q_isb, q_isnb, q_inl, q_int, q_nil, q_nit, x_l, x_t, x_s, z_l, z_t, v_l, v_t, f_lenl, f_lent, f_lens, f_abs, f_int, f_intb, f_bool, f_boolb, f_str, f_repr, f_reprB, f_sum, f_max1, f_min1, f_minP, f_max2, f_min2, f_lstl, f_lstt, f_lstd, f_dct, f_sortd, y_d1, y_d2, p_dic, k_dic, f_tupl, f_tupt, f_sorted, f_sortet, f_sset, f_sseu, f_all, f_any, f_gcd, f_lrg1, f_lrg2, f_trg1, f_trg2, t_bl, t_int, t_non, t_lst, t_tup, t_str, List.getElem?_cons_zero, List.getElem?_cons_succ, List.set_cons_zero, List.set_cons_succ, Option.some.injEq, exists_eq_left', exists_eq_left, exists_eq_right, exists_eq_right', cd_sh, cd_ow, D.int.injEq, D.bl.injEq, D.str.injEq, D.tup.injEq, D.lst.injEq, C.ow.injEq, C.sh.injEq, List.cons.injEq, reduceCtorEq, exists_and_left, exists_and_right, exists_const, implies_true, exists_eq, exists_eq', okEq_int, okEq_bl, okEq_non, deq_int, deq_bl, List.length_cons, List.length_nil, Nat.reduceAdd, true_and, and_true, if_true, if_false, decide_eq_true_eq, Bool.true_eq_false, Bool.false_eq_true, false_and, and_false, false_or, or_false, exists_false, and_self, D.hd.injEq, exists_prop, exists_eq_or_imp, Bool.not_eq_true, -Int.reducePow, -Nat.reducePow])
    exact q
  have bad3 : ruleB d = false → ∀ nx, wSs gam l9_3 { nx := nx, rt := Q } [some (C.sh d)] := fun e nx => by
    rw [e] at q
    unfold l9_3
    (refine go1 ?_; try simp only [ss_nil, st_asg, st_asgT, st_par, st_seti, st_setk, st_app, st_ins, st_ext, st_expr, st_ret, st_iff, st_forr, st_whl, st_pass, st_brk, st_cont, tg_nm, tg_n, tg_c, tg_co, ev_var, ev_cst, ev_bin, ev_neg, ev_nt, ev_bop, ev_cmp, ev_chn, ev_ife, ev_tup, ev_lst, ev_ix, ev_sl, ev_rv, ev_dnil, ev_dsp, ev_bi, ev_call, ev_pop, ev_popA, ev_comp, ev_isi, te_nt, te_bop, te_cmp, te_chn, te_ife, te_var, te_call, te_bi, te_ix, te_bin, te_isi, te_cst, pk_var, pk_cst, pk_bin, pk_neg, pk_nt, pk_bop, pk_cmp, pk_chn, pk_ife, pk_tup, pk_lst, pk_ix, pk_sl, pk_rv, pk_dnil, pk_dsp, pk_bi, pk_call, pk_pop, pk_popA, pk_comp, pk_isi, rt_var, rt_cst, rt_bin, rt_neg, rt_nt, rt_bop, rt_cmp, rt_chn, rt_ife, rt_tup, rt_lst, rt_ix, rt_sl, rt_rv, rt_dnil, rt_dsp, rt_bi, rt_call, rt_pop, rt_comp, rt_isi, es_nil, es_cons, cs_nil, cs_cons, ps_nil, ps_cons, o_no, o_so, c_no, c_so, i_rg1, i_rg2, i_rg3, i_sq, i_dk, i_en, i_zp, i_rev, get_v, get_s, gets_nil, gets_cons, own_iff, ownd_iff, set_nil, set_cons, o_add, o_adds, o_addl, o_addt, o_sub, o_mul, o_mull, o_multt, o_div, o_mod, o_pow, o_shl, o_shr, o_and, o_or, o_xor, q_eq, q_ne, ek_s, ek_i, ek_b, ek_n, ek_l, ek_t, deq_str, q_lt, q_le, q_gt, q_ge, q_is, q_isn, q_isb, q_isnb, q_inl, q_int, q_nil, q_nit, x_l, x_t, x_s, z_l, z_t, v_l, v_t, f_lenl, f_lent, f_lens, f_abs, f_int, f_intb, f_bool, f_boolb, f_str, f_repr, f_reprB, f_sum, f_max1, f_min1, f_minP, f_max2, f_min2, f_lstl, f_lstt, f_lstd, f_dct, f_sortd, y_d1, y_d2, p_dic, k_dic, f_tupl, f_tupt, f_sorted, f_sortet, f_sset, f_sseu, f_all, f_any, f_gcd, f_lrg1, f_lrg2, f_trg1, f_trg2, t_bl, t_int, t_non, t_lst, t_tup, t_str, List.getElem?_cons_zero, List.getElem?_cons_succ, List.set_cons_zero, List.set_cons_succ, Option.some.injEq, exists_eq_left', exists_eq_left, exists_eq_right, exists_eq_right', cd_sh, cd_ow, D.int.injEq, D.bl.injEq, D.str.injEq, D.tup.injEq, D.lst.injEq, C.ow.injEq, C.sh.injEq, List.cons.injEq, reduceCtorEq, exists_and_left, exists_and_right, exists_const, implies_true, exists_eq, exists_eq', okEq_int, okEq_bl, okEq_non, deq_int, deq_bl, List.length_cons, List.length_nil, Nat.reduceAdd, true_and, and_true, if_true, if_false, decide_eq_true_eq, Bool.true_eq_false, Bool.false_eq_true, false_and, and_false, false_or, or_false, exists_false, and_self, D.hd.injEq, exists_prop, exists_eq_or_imp, Bool.not_eq_true, -Int.reducePow, -Nat.reducePow])
    exact q
  unfold Bd b9
  (refine go1 ?_; try simp only [ss_nil, st_asg, st_asgT, st_par, st_seti, st_setk, st_app, st_ins, st_ext, st_expr, st_ret, st_iff, st_forr, st_whl, st_pass, st_brk, st_cont, tg_nm, tg_n, tg_c, tg_co, ev_var, ev_cst, ev_bin, ev_neg, ev_nt, ev_bop, ev_cmp, ev_chn, ev_ife, ev_tup, ev_lst, ev_ix, ev_sl, ev_rv, ev_dnil, ev_dsp, ev_bi, ev_call, ev_pop, ev_popA, ev_comp, ev_isi, te_nt, te_bop, te_cmp, te_chn, te_ife, te_var, te_call, te_bi, te_ix, te_bin, te_isi, te_cst, pk_var, pk_cst, pk_bin, pk_neg, pk_nt, pk_bop, pk_cmp, pk_chn, pk_ife, pk_tup, pk_lst, pk_ix, pk_sl, pk_rv, pk_dnil, pk_dsp, pk_bi, pk_call, pk_pop, pk_popA, pk_comp, pk_isi, rt_var, rt_cst, rt_bin, rt_neg, rt_nt, rt_bop, rt_cmp, rt_chn, rt_ife, rt_tup, rt_lst, rt_ix, rt_sl, rt_rv, rt_dnil, rt_dsp, rt_bi, rt_call, rt_pop, rt_comp, rt_isi, es_nil, es_cons, cs_nil, cs_cons, ps_nil, ps_cons, o_no, o_so, c_no, c_so, i_rg1, i_rg2, i_rg3, i_sq, i_dk, i_en, i_zp, i_rev, get_v, get_s, gets_nil, gets_cons, own_iff, ownd_iff, set_nil, set_cons, o_add, o_adds, o_addl, o_addt, o_sub, o_mul, o_mull, o_multt, o_div, o_mod, o_pow, o_shl, o_shr, o_and, o_or, o_xor, q_eq, q_ne, ek_s, ek_i, ek_b, ek_n, ek_l, ek_t, deq_str, q_lt, q_le, q_gt, q_ge, q_is, q_isn, q_isb, q_isnb, q_inl, q_int, q_nil, q_nit, x_l, x_t, x_s, z_l, z_t, v_l, v_t, f_lenl, f_lent, f_lens, f_abs, f_int, f_intb, f_bool, f_boolb, f_str, f_repr, f_reprB, f_sum, f_max1, f_min1, f_minP, f_max2, f_min2, f_lstl, f_lstt, f_lstd, f_dct, f_sortd, y_d1, y_d2, p_dic, k_dic, f_tupl, f_tupt, f_sorted, f_sortet, f_sset, f_sseu, f_all, f_any, f_gcd, f_lrg1, f_lrg2, f_trg1, f_trg2, t_bl, t_int, t_non, t_lst, t_tup, t_str, List.getElem?_cons_zero, List.getElem?_cons_succ, List.set_cons_zero, List.set_cons_succ, Option.some.injEq, exists_eq_left', exists_eq_left, exists_eq_right, exists_eq_right', cd_sh, cd_ow, D.int.injEq, D.bl.injEq, D.str.injEq, D.tup.injEq, D.lst.injEq, C.ow.injEq, C.sh.injEq, List.cons.injEq, reduceCtorEq, exists_and_left, exists_and_right, exists_const, implies_true, exists_eq, exists_eq', okEq_int, okEq_bl, okEq_non, deq_int, deq_bl, List.length_cons, List.length_nil, Nat.reduceAdd, true_and, and_true, if_true, if_false, decide_eq_true_eq, Bool.true_eq_false, Bool.false_eq_true, false_and, and_false, false_or, or_false, exists_false, and_self, D.hd.injEq, exists_prop, exists_eq_or_imp, Bool.not_eq_true, -Int.reducePow, -Nat.reducePow, ty_tup h])
  cases d with
  | tup l =>
    simp only [ss_nil, st_asg, st_asgT, st_par, st_seti, st_setk, st_app, st_ins, st_ext, st_expr, st_ret, st_iff, st_forr, st_whl, st_pass, st_brk, st_cont, tg_nm, tg_n, tg_c, tg_co, ev_var, ev_cst, ev_bin, ev_neg, ev_nt, ev_bop, ev_cmp, ev_chn, ev_ife, ev_tup, ev_lst, ev_ix, ev_sl, ev_rv, ev_dnil, ev_dsp, ev_bi, ev_call, ev_pop, ev_popA, ev_comp, ev_isi, te_nt, te_bop, te_cmp, te_chn, te_ife, te_var, te_call, te_bi, te_ix, te_bin, te_isi, te_cst, pk_var, pk_cst, pk_bin, pk_neg, pk_nt, pk_bop, pk_cmp, pk_chn, pk_ife, pk_tup, pk_lst, pk_ix, pk_sl, pk_rv, pk_dnil, pk_dsp, pk_bi, pk_call, pk_pop, pk_popA, pk_comp, pk_isi, rt_var, rt_cst, rt_bin, rt_neg, rt_nt, rt_bop, rt_cmp, rt_chn, rt_ife, rt_tup, rt_lst, rt_ix, rt_sl, rt_rv, rt_dnil, rt_dsp, rt_bi, rt_call, rt_pop, rt_comp, rt_isi, es_nil, es_cons, cs_nil, cs_cons, ps_nil, ps_cons, o_no, o_so, c_no, c_so, i_rg1, i_rg2, i_rg3, i_sq, i_dk, i_en, i_zp, i_rev, get_v, get_s, gets_nil, gets_cons, own_iff, ownd_iff, set_nil, set_cons, o_add, o_adds, o_addl, o_addt, o_sub, o_mul, o_mull, o_multt, o_div, o_mod, o_pow, o_shl, o_shr, o_and, o_or, o_xor, q_eq, q_ne, ek_s, ek_i, ek_b, ek_n, ek_l, ek_t, deq_str, q_lt, q_le, q_gt, q_ge, q_is, q_isn, q_isb, q_isnb, q_inl, q_int, q_nil, q_nit, x_l, x_t, x_s, z_l, z_t, v_l, v_t, f_lenl, f_lent, f_lens, f_abs, f_int, f_intb, f_bool, f_boolb, f_str, f_repr, f_reprB, f_sum, f_max1, f_min1, f_minP, f_max2, f_min2, f_lstl, f_lstt, f_lstd, f_dct, f_sortd, y_d1, y_d2, p_dic, k_dic, f_tupl, f_tupt, f_sorted, f_sortet, f_sset, f_sseu, f_all, f_any, f_gcd, f_lrg1, f_lrg2, f_trg1, f_trg2, t_bl, t_int, t_non, t_lst, t_tup, t_str, List.getElem?_cons_zero, List.getElem?_cons_succ, List.set_cons_zero, List.set_cons_succ, Option.some.injEq, exists_eq_left', exists_eq_left, exists_eq_right, exists_eq_right', cd_sh, cd_ow, D.int.injEq, D.bl.injEq, D.str.injEq, D.tup.injEq, D.lst.injEq, C.ow.injEq, C.sh.injEq, List.cons.injEq, reduceCtorEq, exists_and_left, exists_and_right, exists_const, implies_true, exists_eq, exists_eq', okEq_int, okEq_bl, okEq_non, deq_int, deq_bl, List.length_cons, List.length_nil, Nat.reduceAdd, true_and, and_true, if_true, if_false, decide_eq_true_eq, Bool.true_eq_false, Bool.false_eq_true, false_and, and_false, false_or, or_false, exists_false, and_self, D.hd.injEq, exists_prop, exists_eq_or_imp, Bool.not_eq_true, -Int.reducePow, -Nat.reducePow, isT, Bool.not_true, Bool.not_false, reduceIte, Bool.false_eq_true, Bool.true_eq_false, Bool.or_true, Bool.or_false, Bool.and_true, Bool.and_false, Bool.true_and, Bool.false_and, Bool.true_or, Bool.false_or]
    by_cases hl : l.length = 2
    · match l, hl with
      | [x, y], _ =>
        obtain ⟨p1, p2⟩ := plx2 h
        refine if_q (by simp) ?_
        unfold b9_2
        (refine go1 ?_; try simp only [ss_nil, st_asg, st_asgT, st_par, st_seti, st_setk, st_app, st_ins, st_ext, st_expr, st_ret, st_iff, st_forr, st_whl, st_pass, st_brk, st_cont, tg_nm, tg_n, tg_c, tg_co, ev_var, ev_cst, ev_bin, ev_neg, ev_nt, ev_bop, ev_cmp, ev_chn, ev_ife, ev_tup, ev_lst, ev_ix, ev_sl, ev_rv, ev_dnil, ev_dsp, ev_bi, ev_call, ev_pop, ev_popA, ev_comp, ev_isi, te_nt, te_bop, te_cmp, te_chn, te_ife, te_var, te_call, te_bi, te_ix, te_bin, te_isi, te_cst, pk_var, pk_cst, pk_bin, pk_neg, pk_nt, pk_bop, pk_cmp, pk_chn, pk_ife, pk_tup, pk_lst, pk_ix, pk_sl, pk_rv, pk_dnil, pk_dsp, pk_bi, pk_call, pk_pop, pk_popA, pk_comp, pk_isi, rt_var, rt_cst, rt_bin, rt_neg, rt_nt, rt_bop, rt_cmp, rt_chn, rt_ife, rt_tup, rt_lst, rt_ix, rt_sl, rt_rv, rt_dnil, rt_dsp, rt_bi, rt_call, rt_pop, rt_comp, rt_isi, es_nil, es_cons, cs_nil, cs_cons, ps_nil, ps_cons, o_no, o_so, c_no, c_so, i_rg1, i_rg2, i_rg3, i_sq, i_dk, i_en, i_zp, i_rev, get_v, get_s, gets_nil, gets_cons, own_iff, ownd_iff, set_nil, set_cons, o_add, o_adds, o_addl, o_addt, o_sub, o_mul, o_mull, o_multt, o_div, o_mod, o_pow, o_shl, o_shr, o_and, o_or, o_xor, q_eq, q_ne, ek_s, ek_i, ek_b, ek_n, ek_l, ek_t, deq_str, q_lt, q_le, q_gt, q_ge, q_is, q_isn, q_isb, q_isnb, q_inl, q_int, q_nil, q_nit, x_l, x_t, x_s, z_l, z_t, v_l, v_t, f_lenl, f_lent, f_lens, f_abs, f_int, f_intb, f_bool, f_boolb, f_str, f_repr, f_reprB, f_sum, f_max1, f_min1, f_minP, f_max2, f_min2, f_lstl, f_lstt, f_lstd, f_dct, f_sortd, y_d1, y_d2, p_dic, k_dic, f_tupl, f_tupt, f_sorted, f_sortet, f_sset, f_sseu, f_all, f_any, f_gcd, f_lrg1, f_lrg2, f_trg1, f_trg2, t_bl, t_int, t_non, t_lst, t_tup, t_str, List.getElem?_cons_zero, List.getElem?_cons_succ, List.set_cons_zero, List.set_cons_succ, Option.some.injEq, exists_eq_left', exists_eq_left, exists_eq_right, exists_eq_right', cd_sh, cd_ow, D.int.injEq, D.bl.injEq, D.str.injEq, D.tup.injEq, D.lst.injEq, C.ow.injEq, C.sh.injEq, List.cons.injEq, reduceCtorEq, exists_and_left, exists_and_right, exists_const, implies_true, exists_eq, exists_eq', okEq_int, okEq_bl, okEq_non, deq_int, deq_bl, List.length_cons, List.length_nil, Nat.reduceAdd, true_and, and_true, if_true, if_false, decide_eq_true_eq, Bool.true_eq_false, Bool.false_eq_true, false_and, and_false, false_or, or_false, exists_false, and_self, D.hd.injEq, exists_prop, exists_eq_or_imp, Bool.not_eq_true, -Int.reducePow, -Nat.reducePow, at0, at1, g7, g8])
        refine ⟨p1, ?_⟩
        refine ifnf (fun hx => ?tt) fun hx => ?ff
        case ff =>
          refine bad3 ?_ _
          cases x with
          | int a =>
            rw [rule_2]
            have : wholeB 0 M60 (.int a) = false := by
              have m : 0 ≤ M60 := by decide +kernel
              have hx2 : (decide (-M60 ≤ a) && decide (a ≤ M60)) = false := hx
              show (decide (0 ≤ a) && decide (a ≤ M60)) = false
              rw [Bool.and_eq_false_iff, decide_eq_false_iff_not, decide_eq_false_iff_not] at hx2 ⊢
              generalize M60 = M at *
              omega
            rw [this]
            rfl
          | _ => rw [rule_2]; rfl
        case tt =>
          obtain ⟨a, rfl, a1, a2⟩ := whole_int hx
          have e := rule_prog (.int a) a y rfl ⟨a1, a2⟩
          rw [e] at q bad3
          refine ⟨p2, ?_⟩
          refine ifnt (fun hy => bad3 (by rw [hy]; rfl) _) fun hy => ?_
          case _ =>
            obtain ⟨s, rfl⟩ := whl_int hy
            clear bad bad3
            rw [hy, Bool.true_and] at q
            dsimp only at q
            unfold b9_4
            (refine go1 ?_; try simp only [ss_nil, st_asg, st_asgT, st_par, st_seti, st_setk, st_app, st_ins, st_ext, st_expr, st_ret, st_iff, st_forr, st_whl, st_pass, st_brk, st_cont, tg_nm, tg_n, tg_c, tg_co, ev_var, ev_cst, ev_bin, ev_neg, ev_nt, ev_bop, ev_cmp, ev_chn, ev_ife, ev_tup, ev_lst, ev_ix, ev_sl, ev_rv, ev_dnil, ev_dsp, ev_bi, ev_call, ev_pop, ev_popA, ev_comp, ev_isi, te_nt, te_bop, te_cmp, te_chn, te_ife, te_var, te_call, te_bi, te_ix, te_bin, te_isi, te_cst, pk_var, pk_cst, pk_bin, pk_neg, pk_nt, pk_bop, pk_cmp, pk_chn, pk_ife, pk_tup, pk_lst, pk_ix, pk_sl, pk_rv, pk_dnil, pk_dsp, pk_bi, pk_call, pk_pop, pk_popA, pk_comp, pk_isi, rt_var, rt_cst, rt_bin, rt_neg, rt_nt, rt_bop, rt_cmp, rt_chn, rt_ife, rt_tup, rt_lst, rt_ix, rt_sl, rt_rv, rt_dnil, rt_dsp, rt_bi, rt_call, rt_pop, rt_comp, rt_isi, es_nil, es_cons, cs_nil, cs_cons, ps_nil, ps_cons, o_no, o_so, c_no, c_so, i_rg1, i_rg2, i_rg3, i_sq, i_dk, i_en, i_zp, i_rev, get_v, get_s, gets_nil, gets_cons, own_iff, ownd_iff, set_nil, set_cons, o_add, o_adds, o_addl, o_addt, o_sub, o_mul, o_mull, o_multt, o_div, o_mod, o_pow, o_shl, o_shr, o_and, o_or, o_xor, q_eq, q_ne, ek_s, ek_i, ek_b, ek_n, ek_l, ek_t, deq_str, q_lt, q_le, q_gt, q_ge, q_is, q_isn, q_isb, q_isnb, q_inl, q_int, q_nil, q_nit, x_l, x_t, x_s, z_l, z_t, v_l, v_t, f_lenl, f_lent, f_lens, f_abs, f_int, f_intb, f_bool, f_boolb, f_str, f_repr, f_reprB, f_sum, f_max1, f_min1, f_minP, f_max2, f_min2, f_lstl, f_lstt, f_lstd, f_dct, f_sortd, y_d1, y_d2, p_dic, k_dic, f_tupl, f_tupt, f_sorted, f_sortet, f_sset, f_sseu, f_all, f_any, f_gcd, f_lrg1, f_lrg2, f_trg1, f_trg2, t_bl, t_int, t_non, t_lst, t_tup, t_str, List.getElem?_cons_zero, List.getElem?_cons_succ, List.set_cons_zero, List.set_cons_succ, Option.some.injEq, exists_eq_left', exists_eq_left, exists_eq_right, exists_eq_right', cd_sh, cd_ow, D.int.injEq, D.bl.injEq, D.str.injEq, D.tup.injEq, D.lst.injEq, C.ow.injEq, C.sh.injEq, List.cons.injEq, reduceCtorEq, exists_and_left, exists_and_right, exists_const, implies_true, exists_eq, exists_eq', okEq_int, okEq_bl, okEq_non, deq_int, deq_bl, List.length_cons, List.length_nil, Nat.reduceAdd, true_and, and_true, if_true, if_false, decide_eq_true_eq, Bool.true_eq_false, Bool.false_eq_true, false_and, and_false, false_or, or_false, exists_false, and_self, D.hd.injEq, exists_prop, exists_eq_or_imp, Bool.not_eq_true, -Int.reducePow, -Nat.reducePow, at0, at1, cM60])
            refine if_and q fun c1 q => ?_
            by_cases c : s = 0
            · rw [decide_eq_true c, Bool.true_or] at q
              exact if_q (by rw [decide_eq_true c]; decide) (by rw [decide_eq_true c]; exact q)
            · rw [decide_eq_false c, Bool.false_or] at q
              refine if_p (by rw [decide_eq_false c]) ?_
              exact if_andF q fun c2 q => q
    · exact if_p (by simp; omega) (bad (rule_len hl) _)
  | _ => exact bad rfl _
theorem stps_snoc {l : List D} {j : Nat} {d : D} (h : l[j]? = some d) : stps (l.take (j + 1)) = stps (l.take j) ++ (if stp d = 0 then [] else [stp d]) := by
  unfold stps
  rw [List.take_add_one, h, Option.toList_some, List.map_append, List.filter_append]
  congr 1
  show List.filter _ [stp d] = _
  by_cases c : stp d = 0
  · rw [if_pos c, List.filter_cons_of_neg (by simp [c]), List.filter_nil]
  · rw [if_neg c, List.filter_cons_of_pos (by simp [c]), List.filter_nil]
theorem stps_pos {l : List D} (h : ∀ d, d ∈ l → ruleB d = true) : ∀ n, n ∈ stps l → 0 < n ∧ n ≤ M60 := by
  intro n hn
  obtain ⟨h1, h2⟩ := List.mem_filter.1 hn
  obtain ⟨d, hd, rfl⟩ := List.mem_map.1 h1
  obtain ⟨⟨b, s, rfl, _, s0, s1⟩, _⟩ := rule_of (h d hd)
  have h3 : s ≠ 0 := of_decide_eq_true h2
  show 0 < s ∧ s ≤ M60
  exact ⟨by omega, s1⟩
theorem stps_len (l : List D) : (stps l).length ≤ l.length := by
  unfold stps
  have := List.length_filter_le (fun s : Int => decide (s ≠ 0)) (l.map stp)
  rw [List.length_map] at this
  exact this
theorem bits_up {f : Int} {n : Nat} (h : f.natAbs < 2 ^ (200 * n + 1)) (hn : n ≤ 40) : f.natAbs < 2 ^ 8400 := Nat.lt_of_lt_of_le h (Nat.pow_le_pow_right (by decide) (by omega))
def I10 (l : List D) (i : Nat) (e : En) : Prop := ∃ o2 o3 : Option C, e = [some (.sh (.tup l)), some (.sh (.int (lcmF (stps (l.take i))))), o2, o3]
theorem t10 (l : List D) (Q : C → Prop) (hl : l.length ≤ 40) (h : ∀ d, d ∈ l → ruleB d = true) (q : Q (.sh (.int (lcmF (stps l))))) : Bd b10 [some (.sh (.tup l)), none, none, none] Q := by
  unfold Bd b10
  (refine go1 ?_; try simp only [ss_nil, st_asg, st_asgT, st_par, st_seti, st_setk, st_app, st_ins, st_ext, st_expr, st_ret, st_iff, st_forr, st_whl, st_pass, st_brk, st_cont, tg_nm, tg_n, tg_c, tg_co, ev_var, ev_cst, ev_bin, ev_neg, ev_nt, ev_bop, ev_cmp, ev_chn, ev_ife, ev_tup, ev_lst, ev_ix, ev_sl, ev_rv, ev_dnil, ev_dsp, ev_bi, ev_call, ev_pop, ev_popA, ev_comp, ev_isi, te_nt, te_bop, te_cmp, te_chn, te_ife, te_var, te_call, te_bi, te_ix, te_bin, te_isi, te_cst, pk_var, pk_cst, pk_bin, pk_neg, pk_nt, pk_bop, pk_cmp, pk_chn, pk_ife, pk_tup, pk_lst, pk_ix, pk_sl, pk_rv, pk_dnil, pk_dsp, pk_bi, pk_call, pk_pop, pk_popA, pk_comp, pk_isi, rt_var, rt_cst, rt_bin, rt_neg, rt_nt, rt_bop, rt_cmp, rt_chn, rt_ife, rt_tup, rt_lst, rt_ix, rt_sl, rt_rv, rt_dnil, rt_dsp, rt_bi, rt_call, rt_pop, rt_comp, rt_isi, es_nil, es_cons, cs_nil, cs_cons, ps_nil, ps_cons, o_no, o_so, c_no, c_so, i_rg1, i_rg2, i_rg3, i_sq, i_dk, i_en, i_zp, i_rev, get_v, get_s, gets_nil, gets_cons, own_iff, ownd_iff, set_nil, set_cons, o_add, o_adds, o_addl, o_addt, o_sub, o_mul, o_mull, o_multt, o_div, o_mod, o_pow, o_shl, o_shr, o_and, o_or, o_xor, q_eq, q_ne, ek_s, ek_i, ek_b, ek_n, ek_l, ek_t, deq_str, q_lt, q_le, q_gt, q_ge, q_is, q_isn, q_isb, q_isnb, q_inl, q_int, q_nil, q_nit, x_l, x_t, x_s, z_l, z_t, v_l, v_t, f_lenl, f_lent, f_lens, f_abs, f_int, f_intb, f_bool, f_boolb, f_str, f_repr, f_reprB, f_sum, f_max1, f_min1, f_minP, f_max2, f_min2, f_lstl, f_lstt, f_lstd, f_dct, f_sortd, y_d1, y_d2, p_dic, k_dic, f_tupl, f_tupt, f_sorted, f_sortet, f_sset, f_sseu, f_all, f_any, f_gcd, f_lrg1, f_lrg2, f_trg1, f_trg2, t_bl, t_int, t_non, t_lst, t_tup, t_str, List.getElem?_cons_zero, List.getElem?_cons_succ, List.set_cons_zero, List.set_cons_succ, Option.some.injEq, exists_eq_left', exists_eq_left, exists_eq_right, exists_eq_right', cd_sh, cd_ow, D.int.injEq, D.bl.injEq, D.str.injEq, D.tup.injEq, D.lst.injEq, C.ow.injEq, C.sh.injEq, List.cons.injEq, reduceCtorEq, exists_and_left, exists_and_right, exists_const, implies_true, exists_eq, exists_eq', okEq_int, okEq_bl, okEq_non, deq_int, deq_bl, List.length_cons, List.length_nil, Nat.reduceAdd, true_and, and_true, if_true, if_false, decide_eq_true_eq, Bool.true_eq_false, Bool.false_eq_true, false_and, and_false, false_or, or_false, exists_false, and_self, D.hd.injEq, exists_prop, exists_eq_or_imp, Bool.not_eq_true, -Int.reducePow, -Nat.reducePow])
  unfold b10_1
  (refine go1 ?_; try simp only [ss_nil, st_asg, st_asgT, st_par, st_seti, st_setk, st_app, st_ins, st_ext, st_expr, st_ret, st_iff, st_forr, st_whl, st_pass, st_brk, st_cont, tg_nm, tg_n, tg_c, tg_co, ev_var, ev_cst, ev_bin, ev_neg, ev_nt, ev_bop, ev_cmp, ev_chn, ev_ife, ev_tup, ev_lst, ev_ix, ev_sl, ev_rv, ev_dnil, ev_dsp, ev_bi, ev_call, ev_pop, ev_popA, ev_comp, ev_isi, te_nt, te_bop, te_cmp, te_chn, te_ife, te_var, te_call, te_bi, te_ix, te_bin, te_isi, te_cst, pk_var, pk_cst, pk_bin, pk_neg, pk_nt, pk_bop, pk_cmp, pk_chn, pk_ife, pk_tup, pk_lst, pk_ix, pk_sl, pk_rv, pk_dnil, pk_dsp, pk_bi, pk_call, pk_pop, pk_popA, pk_comp, pk_isi, rt_var, rt_cst, rt_bin, rt_neg, rt_nt, rt_bop, rt_cmp, rt_chn, rt_ife, rt_tup, rt_lst, rt_ix, rt_sl, rt_rv, rt_dnil, rt_dsp, rt_bi, rt_call, rt_pop, rt_comp, rt_isi, es_nil, es_cons, cs_nil, cs_cons, ps_nil, ps_cons, o_no, o_so, c_no, c_so, i_rg1, i_rg2, i_rg3, i_sq, i_dk, i_en, i_zp, i_rev, get_v, get_s, gets_nil, gets_cons, own_iff, ownd_iff, set_nil, set_cons, o_add, o_adds, o_addl, o_addt, o_sub, o_mul, o_mull, o_multt, o_div, o_mod, o_pow, o_shl, o_shr, o_and, o_or, o_xor, q_eq, q_ne, ek_s, ek_i, ek_b, ek_n, ek_l, ek_t, deq_str, q_lt, q_le, q_gt, q_ge, q_is, q_isn, q_isb, q_isnb, q_inl, q_int, q_nil, q_nit, x_l, x_t, x_s, z_l, z_t, v_l, v_t, f_lenl, f_lent, f_lens, f_abs, f_int, f_intb, f_bool, f_boolb, f_str, f_repr, f_reprB, f_sum, f_max1, f_min1, f_minP, f_max2, f_min2, f_lstl, f_lstt, f_lstd, f_dct, f_sortd, y_d1, y_d2, p_dic, k_dic, f_tupl, f_tupt, f_sorted, f_sortet, f_sset, f_sseu, f_all, f_any, f_gcd, f_lrg1, f_lrg2, f_trg1, f_trg2, t_bl, t_int, t_non, t_lst, t_tup, t_str, List.getElem?_cons_zero, List.getElem?_cons_succ, List.set_cons_zero, List.set_cons_succ, Option.some.injEq, exists_eq_left', exists_eq_left, exists_eq_right, exists_eq_right', cd_sh, cd_ow, D.int.injEq, D.bl.injEq, D.str.injEq, D.tup.injEq, D.lst.injEq, C.ow.injEq, C.sh.injEq, List.cons.injEq, reduceCtorEq, exists_and_left, exists_and_right, exists_const, implies_true, exists_eq, exists_eq', okEq_int, okEq_bl, okEq_non, deq_int, deq_bl, List.length_cons, List.length_nil, Nat.reduceAdd, true_and, and_true, if_true, if_false, decide_eq_true_eq, Bool.true_eq_false, Bool.false_eq_true, false_and, and_false, false_or, or_false, exists_false, and_self, D.hd.injEq, exists_prop, exists_eq_or_imp, Bool.not_eq_true, -Int.reducePow, -Nat.reducePow])
  refine for_inv gam_ok (I10 l) _ 0 _ ⟨none, none, rfl⟩ (fun j d e hd ⟨o2, o3, he⟩ => ?_) fun e ⟨o2, o3, he⟩ => ?_
  · subst he
    have jl := (List.getElem?_eq_some_iff.mp hd).1
    have hs := stps_snoc hd
    obtain ⟨⟨b, s, rfl, _, s0, s1⟩, _⟩ := rule_of (h d (List.mem_of_getElem? hd))
    have hj : ∀ d, d ∈ l.take j → ruleB d = true := fun d hd => h d (List.mem_of_mem_take hd)
    have sl := stps_len (l.take j)
    rw [List.length_take] at sl
    rw [Nat.zero_add] at *
    simp only [ss_nil, st_asg, st_asgT, st_par, st_seti, st_setk, st_app, st_ins, st_ext, st_expr, st_ret, st_iff, st_forr, st_whl, st_pass, st_brk, st_cont, tg_nm, tg_n, tg_c, tg_co, ev_var, ev_cst, ev_bin, ev_neg, ev_nt, ev_bop, ev_cmp, ev_chn, ev_ife, ev_tup, ev_lst, ev_ix, ev_sl, ev_rv, ev_dnil, ev_dsp, ev_bi, ev_call, ev_pop, ev_popA, ev_comp, ev_isi, te_nt, te_bop, te_cmp, te_chn, te_ife, te_var, te_call, te_bi, te_ix, te_bin, te_isi, te_cst, pk_var, pk_cst, pk_bin, pk_neg, pk_nt, pk_bop, pk_cmp, pk_chn, pk_ife, pk_tup, pk_lst, pk_ix, pk_sl, pk_rv, pk_dnil, pk_dsp, pk_bi, pk_call, pk_pop, pk_popA, pk_comp, pk_isi, rt_var, rt_cst, rt_bin, rt_neg, rt_nt, rt_bop, rt_cmp, rt_chn, rt_ife, rt_tup, rt_lst, rt_ix, rt_sl, rt_rv, rt_dnil, rt_dsp, rt_bi, rt_call, rt_pop, rt_comp, rt_isi, es_nil, es_cons, cs_nil, cs_cons, ps_nil, ps_cons, o_no, o_so, c_no, c_so, i_rg1, i_rg2, i_rg3, i_sq, i_dk, i_en, i_zp, i_rev, get_v, get_s, gets_nil, gets_cons, own_iff, ownd_iff, set_nil, set_cons, o_add, o_adds, o_addl, o_addt, o_sub, o_mul, o_mull, o_multt, o_div, o_mod, o_pow, o_shl, o_shr, o_and, o_or, o_xor, q_eq, q_ne, ek_s, ek_i, ek_b, ek_n, ek_l, ek_t, deq_str, q_lt, q_le, q_gt, q_ge, q_is, q_isn, q_isb, q_isnb, q_inl, q_int, q_nil, q_nit, x_l, x_t, x_s, z_l, z_t, v_l, v_t, f_lenl, f_lent, f_lens, f_abs, f_int, f_intb, f_bool, f_boolb, f_str, f_repr, f_reprB, f_sum, f_max1, f_min1, f_minP, f_max2, f_min2, f_lstl, f_lstt, f_lstd, f_dct, f_sortd, y_d1, y_d2, p_dic, k_dic, f_tupl, f_tupt, f_sorted, f_sortet, f_sset, f_sseu, f_all, f_any, f_gcd, f_lrg1, f_lrg2, f_trg1, f_trg2, t_bl, t_int, t_non, t_lst, t_tup, t_str, List.getElem?_cons_zero, List.getElem?_cons_succ, List.set_cons_zero, List.set_cons_succ, Option.some.injEq, exists_eq_left', exists_eq_left, exists_eq_right, exists_eq_right', cd_sh, cd_ow, D.int.injEq, D.bl.injEq, D.str.injEq, D.tup.injEq, D.lst.injEq, C.ow.injEq, C.sh.injEq, List.cons.injEq, reduceCtorEq, exists_and_left, exists_and_right, exists_const, implies_true, exists_eq, exists_eq', okEq_int, okEq_bl, okEq_non, deq_int, deq_bl, List.length_cons, List.length_nil, Nat.reduceAdd, true_and, and_true, if_true, if_false, decide_eq_true_eq, Bool.true_eq_false, Bool.false_eq_true, false_and, and_false, false_or, or_false, exists_false, and_self, D.hd.injEq, exists_prop, exists_eq_or_imp, Bool.not_eq_true, -Int.reducePow, -Nat.reducePow]
    unfold l10_2
    (refine go1 ?_; try simp only [ss_nil, st_asg, st_asgT, st_par, st_seti, st_setk, st_app, st_ins, st_ext, st_expr, st_ret, st_iff, st_forr, st_whl, st_pass, st_brk, st_cont, tg_nm, tg_n, tg_c, tg_co, ev_var, ev_cst, ev_bin, ev_neg, ev_nt, ev_bop, ev_cmp, ev_chn, ev_ife, ev_tup, ev_lst, ev_ix, ev_sl, ev_rv, ev_dnil, ev_dsp, ev_bi, ev_call, ev_pop, ev_popA, ev_comp, ev_isi, te_nt, te_bop, te_cmp, te_chn, te_ife, te_var, te_call, te_bi, te_ix, te_bin, te_isi, te_cst, pk_var, pk_cst, pk_bin, pk_neg, pk_nt, pk_bop, pk_cmp, pk_chn, pk_ife, pk_tup, pk_lst, pk_ix, pk_sl, pk_rv, pk_dnil, pk_dsp, pk_bi, pk_call, pk_pop, pk_popA, pk_comp, pk_isi, rt_var, rt_cst, rt_bin, rt_neg, rt_nt, rt_bop, rt_cmp, rt_chn, rt_ife, rt_tup, rt_lst, rt_ix, rt_sl, rt_rv, rt_dnil, rt_dsp, rt_bi, rt_call, rt_pop, rt_comp, rt_isi, es_nil, es_cons, cs_nil, cs_cons, ps_nil, ps_cons, o_no, o_so, c_no, c_so, i_rg1, i_rg2, i_rg3, i_sq, i_dk, i_en, i_zp, i_rev, get_v, get_s, gets_nil, gets_cons, own_iff, ownd_iff, set_nil, set_cons, o_add, o_adds, o_addl, o_addt, o_sub, o_mul, o_mull, o_multt, o_div, o_mod, o_pow, o_shl, o_shr, o_and, o_or, o_xor, q_eq, q_ne, ek_s, ek_i, ek_b, ek_n, ek_l, ek_t, deq_str, q_lt, q_le, q_gt, q_ge, q_is, q_isn, q_isb, q_isnb, q_inl, q_int, q_nil, q_nit, x_l, x_t, x_s, z_l, z_t, v_l, v_t, f_lenl, f_lent, f_lens, f_abs, f_int, f_intb, f_bool, f_boolb, f_str, f_repr, f_reprB, f_sum, f_max1, f_min1, f_minP, f_max2, f_min2, f_lstl, f_lstt, f_lstd, f_dct, f_sortd, y_d1, y_d2, p_dic, k_dic, f_tupl, f_tupt, f_sorted, f_sortet, f_sset, f_sseu, f_all, f_any, f_gcd, f_lrg1, f_lrg2, f_trg1, f_trg2, t_bl, t_int, t_non, t_lst, t_tup, t_str, List.getElem?_cons_zero, List.getElem?_cons_succ, List.set_cons_zero, List.set_cons_succ, Option.some.injEq, exists_eq_left', exists_eq_left, exists_eq_right, exists_eq_right', cd_sh, cd_ow, D.int.injEq, D.bl.injEq, D.str.injEq, D.tup.injEq, D.lst.injEq, C.ow.injEq, C.sh.injEq, List.cons.injEq, reduceCtorEq, exists_and_left, exists_and_right, exists_const, implies_true, exists_eq, exists_eq', okEq_int, okEq_bl, okEq_non, deq_int, deq_bl, List.length_cons, List.length_nil, Nat.reduceAdd, true_and, and_true, if_true, if_false, decide_eq_true_eq, Bool.true_eq_false, Bool.false_eq_true, false_and, and_false, false_or, or_false, exists_false, and_self, D.hd.injEq, exists_prop, exists_eq_or_imp, Bool.not_eq_true, -Int.reducePow, -Nat.reducePow])
    by_cases c : s = 0
    · refine if_q (by rw [decide_eq_true c]; decide) ⟨some (.sh (.int b)), some (.sh (.int s)), ?_⟩
      rw [hs, if_pos (by exact c), List.append_nil]
    · refine if_p (by rw [decide_eq_false c]; rfl) ?_
      unfold l10_3
      (refine go1 ?_; try simp only [ss_nil, st_asg, st_asgT, st_par, st_seti, st_setk, st_app, st_ins, st_ext, st_expr, st_ret, st_iff, st_forr, st_whl, st_pass, st_brk, st_cont, tg_nm, tg_n, tg_c, tg_co, ev_var, ev_cst, ev_bin, ev_neg, ev_nt, ev_bop, ev_cmp, ev_chn, ev_ife, ev_tup, ev_lst, ev_ix, ev_sl, ev_rv, ev_dnil, ev_dsp, ev_bi, ev_call, ev_pop, ev_popA, ev_comp, ev_isi, te_nt, te_bop, te_cmp, te_chn, te_ife, te_var, te_call, te_bi, te_ix, te_bin, te_isi, te_cst, pk_var, pk_cst, pk_bin, pk_neg, pk_nt, pk_bop, pk_cmp, pk_chn, pk_ife, pk_tup, pk_lst, pk_ix, pk_sl, pk_rv, pk_dnil, pk_dsp, pk_bi, pk_call, pk_pop, pk_popA, pk_comp, pk_isi, rt_var, rt_cst, rt_bin, rt_neg, rt_nt, rt_bop, rt_cmp, rt_chn, rt_ife, rt_tup, rt_lst, rt_ix, rt_sl, rt_rv, rt_dnil, rt_dsp, rt_bi, rt_call, rt_pop, rt_comp, rt_isi, es_nil, es_cons, cs_nil, cs_cons, ps_nil, ps_cons, o_no, o_so, c_no, c_so, i_rg1, i_rg2, i_rg3, i_sq, i_dk, i_en, i_zp, i_rev, get_v, get_s, gets_nil, gets_cons, own_iff, ownd_iff, set_nil, set_cons, o_add, o_adds, o_addl, o_addt, o_sub, o_mul, o_mull, o_multt, o_div, o_mod, o_pow, o_shl, o_shr, o_and, o_or, o_xor, q_eq, q_ne, ek_s, ek_i, ek_b, ek_n, ek_l, ek_t, deq_str, q_lt, q_le, q_gt, q_ge, q_is, q_isn, q_isb, q_isnb, q_inl, q_int, q_nil, q_nit, x_l, x_t, x_s, z_l, z_t, v_l, v_t, f_lenl, f_lent, f_lens, f_abs, f_int, f_intb, f_bool, f_boolb, f_str, f_repr, f_reprB, f_sum, f_max1, f_min1, f_minP, f_max2, f_min2, f_lstl, f_lstt, f_lstd, f_dct, f_sortd, y_d1, y_d2, p_dic, k_dic, f_tupl, f_tupt, f_sorted, f_sortet, f_sset, f_sseu, f_all, f_any, f_gcd, f_lrg1, f_lrg2, f_trg1, f_trg2, t_bl, t_int, t_non, t_lst, t_tup, t_str, List.getElem?_cons_zero, List.getElem?_cons_succ, List.set_cons_zero, List.set_cons_succ, Option.some.injEq, exists_eq_left', exists_eq_left, exists_eq_right, exists_eq_right', cd_sh, cd_ow, D.int.injEq, D.bl.injEq, D.str.injEq, D.tup.injEq, D.lst.injEq, C.ow.injEq, C.sh.injEq, List.cons.injEq, reduceCtorEq, exists_and_left, exists_and_right, exists_const, implies_true, exists_eq, exists_eq', okEq_int, okEq_bl, okEq_non, deq_int, deq_bl, List.length_cons, List.length_nil, Nat.reduceAdd, true_and, and_true, if_true, if_false, decide_eq_true_eq, Bool.true_eq_false, Bool.false_eq_true, false_and, and_false, false_or, or_false, exists_false, and_self, D.hd.injEq, exists_prop, exists_eq_or_imp, Bool.not_eq_true, -Int.reducePow, -Nat.reducePow, g5])
      refine ⟨⟨lcmF_pos fun n hn => (stps_pos hj n hn).1, by omega, bits_up (lcmF_bd (stps_pos hj)) (by omega), Nat.lt_of_lt_of_le (abs200 s0 s1) (Nat.pow_le_pow_right (by decide) (by decide))⟩, some (.sh (.int b)), some (.sh (.int s)), ?_⟩
      rw [hs, if_neg (by exact c), lcmF_snoc]
      rfl
  · subst he
    rw [Nat.zero_add, List.take_length]
    unfold b10_4
    (refine go1 ?_; try simp only [ss_nil, st_asg, st_asgT, st_par, st_seti, st_setk, st_app, st_ins, st_ext, st_expr, st_ret, st_iff, st_forr, st_whl, st_pass, st_brk, st_cont, tg_nm, tg_n, tg_c, tg_co, ev_var, ev_cst, ev_bin, ev_neg, ev_nt, ev_bop, ev_cmp, ev_chn, ev_ife, ev_tup, ev_lst, ev_ix, ev_sl, ev_rv, ev_dnil, ev_dsp, ev_bi, ev_call, ev_pop, ev_popA, ev_comp, ev_isi, te_nt, te_bop, te_cmp, te_chn, te_ife, te_var, te_call, te_bi, te_ix, te_bin, te_isi, te_cst, pk_var, pk_cst, pk_bin, pk_neg, pk_nt, pk_bop, pk_cmp, pk_chn, pk_ife, pk_tup, pk_lst, pk_ix, pk_sl, pk_rv, pk_dnil, pk_dsp, pk_bi, pk_call, pk_pop, pk_popA, pk_comp, pk_isi, rt_var, rt_cst, rt_bin, rt_neg, rt_nt, rt_bop, rt_cmp, rt_chn, rt_ife, rt_tup, rt_lst, rt_ix, rt_sl, rt_rv, rt_dnil, rt_dsp, rt_bi, rt_call, rt_pop, rt_comp, rt_isi, es_nil, es_cons, cs_nil, cs_cons, ps_nil, ps_cons, o_no, o_so, c_no, c_so, i_rg1, i_rg2, i_rg3, i_sq, i_dk, i_en, i_zp, i_rev, get_v, get_s, gets_nil, gets_cons, own_iff, ownd_iff, set_nil, set_cons, o_add, o_adds, o_addl, o_addt, o_sub, o_mul, o_mull, o_multt, o_div, o_mod, o_pow, o_shl, o_shr, o_and, o_or, o_xor, q_eq, q_ne, ek_s, ek_i, ek_b, ek_n, ek_l, ek_t, deq_str, q_lt, q_le, q_gt, q_ge, q_is, q_isn, q_isb, q_isnb, q_inl, q_int, q_nil, q_nit, x_l, x_t, x_s, z_l, z_t, v_l, v_t, f_lenl, f_lent, f_lens, f_abs, f_int, f_intb, f_bool, f_boolb, f_str, f_repr, f_reprB, f_sum, f_max1, f_min1, f_minP, f_max2, f_min2, f_lstl, f_lstt, f_lstd, f_dct, f_sortd, y_d1, y_d2, p_dic, k_dic, f_tupl, f_tupt, f_sorted, f_sortet, f_sset, f_sseu, f_all, f_any, f_gcd, f_lrg1, f_lrg2, f_trg1, f_trg2, t_bl, t_int, t_non, t_lst, t_tup, t_str, List.getElem?_cons_zero, List.getElem?_cons_succ, List.set_cons_zero, List.set_cons_succ, Option.some.injEq, exists_eq_left', exists_eq_left, exists_eq_right, exists_eq_right', cd_sh, cd_ow, D.int.injEq, D.bl.injEq, D.str.injEq, D.tup.injEq, D.lst.injEq, C.ow.injEq, C.sh.injEq, List.cons.injEq, reduceCtorEq, exists_and_left, exists_and_right, exists_const, implies_true, exists_eq, exists_eq', okEq_int, okEq_bl, okEq_non, deq_int, deq_bl, List.length_cons, List.length_nil, Nat.reduceAdd, true_and, and_true, if_true, if_false, decide_eq_true_eq, Bool.true_eq_false, Bool.false_eq_true, false_and, and_false, false_or, or_false, exists_false, and_self, D.hd.injEq, exists_prop, exists_eq_or_imp, Bool.not_eq_true, -Int.reducePow, -Nat.reducePow])
    exact q
theorem scerr_tup {l : List D} (h : l.length ≤ 40) : scerr (.tup l) = (match firB "rule" (l.map ruleB) with
      | .non => if M60 < lcmF (stps l) then .str "great" else .non
      | d => d) := if_pos h
def I11 (l : List D) (i : Nat) (e : En) : Prop := ∃ o1 o2 : Option C, Up ruleB l i ∧ e = [some (.sh (.tup l)), o1, o2]
theorem up_all {p : D → Bool} {l : List D} (h : Up p l l.length) : ∀ d, d ∈ l → p d = true := fun d hd => by
  obtain ⟨i, hi, e⟩ := List.getElem_of_mem hd
  exact h i d hi (by rw [List.getElem?_eq_getElem hi, e])
theorem t11 (d : D) (Q : C → Prop) (h : plx d = true) (q : Q (.sh (scerr d))) : Bd b11 [some (.sh d), none, none] Q := by
  have bad : scerr d = .str "form" → ∀ nx, wSs gam l11_1 { nx := nx, rt := Q } [some (C.sh d), none, none] := fun e nx => by
    rw [e] at q
    unfold l11_1
    (refine go1 ?_; try simp only [ss_nil, st_asg, st_asgT, st_par, st_seti, st_setk, st_app, st_ins, st_ext, st_expr, st_ret, st_iff, st_forr, st_whl, st_pass, st_brk, st_cont, tg_nm, tg_n, tg_c, tg_co, ev_var, ev_cst, ev_bin, ev_neg, ev_nt, ev_bop, ev_cmp, ev_chn, ev_ife, ev_tup, ev_lst, ev_ix, ev_sl, ev_rv, ev_dnil, ev_dsp, ev_bi, ev_call, ev_pop, ev_popA, ev_comp, ev_isi, te_nt, te_bop, te_cmp, te_chn, te_ife, te_var, te_call, te_bi, te_ix, te_bin, te_isi, te_cst, pk_var, pk_cst, pk_bin, pk_neg, pk_nt, pk_bop, pk_cmp, pk_chn, pk_ife, pk_tup, pk_lst, pk_ix, pk_sl, pk_rv, pk_dnil, pk_dsp, pk_bi, pk_call, pk_pop, pk_popA, pk_comp, pk_isi, rt_var, rt_cst, rt_bin, rt_neg, rt_nt, rt_bop, rt_cmp, rt_chn, rt_ife, rt_tup, rt_lst, rt_ix, rt_sl, rt_rv, rt_dnil, rt_dsp, rt_bi, rt_call, rt_pop, rt_comp, rt_isi, es_nil, es_cons, cs_nil, cs_cons, ps_nil, ps_cons, o_no, o_so, c_no, c_so, i_rg1, i_rg2, i_rg3, i_sq, i_dk, i_en, i_zp, i_rev, get_v, get_s, gets_nil, gets_cons, own_iff, ownd_iff, set_nil, set_cons, o_add, o_adds, o_addl, o_addt, o_sub, o_mul, o_mull, o_multt, o_div, o_mod, o_pow, o_shl, o_shr, o_and, o_or, o_xor, q_eq, q_ne, ek_s, ek_i, ek_b, ek_n, ek_l, ek_t, deq_str, q_lt, q_le, q_gt, q_ge, q_is, q_isn, q_isb, q_isnb, q_inl, q_int, q_nil, q_nit, x_l, x_t, x_s, z_l, z_t, v_l, v_t, f_lenl, f_lent, f_lens, f_abs, f_int, f_intb, f_bool, f_boolb, f_str, f_repr, f_reprB, f_sum, f_max1, f_min1, f_minP, f_max2, f_min2, f_lstl, f_lstt, f_lstd, f_dct, f_sortd, y_d1, y_d2, p_dic, k_dic, f_tupl, f_tupt, f_sorted, f_sortet, f_sset, f_sseu, f_all, f_any, f_gcd, f_lrg1, f_lrg2, f_trg1, f_trg2, t_bl, t_int, t_non, t_lst, t_tup, t_str, List.getElem?_cons_zero, List.getElem?_cons_succ, List.set_cons_zero, List.set_cons_succ, Option.some.injEq, exists_eq_left', exists_eq_left, exists_eq_right, exists_eq_right', cd_sh, cd_ow, D.int.injEq, D.bl.injEq, D.str.injEq, D.tup.injEq, D.lst.injEq, C.ow.injEq, C.sh.injEq, List.cons.injEq, reduceCtorEq, exists_and_left, exists_and_right, exists_const, implies_true, exists_eq, exists_eq', okEq_int, okEq_bl, okEq_non, deq_int, deq_bl, List.length_cons, List.length_nil, Nat.reduceAdd, true_and, and_true, if_true, if_false, decide_eq_true_eq, Bool.true_eq_false, Bool.false_eq_true, false_and, and_false, false_or, or_false, exists_false, and_self, D.hd.injEq, exists_prop, exists_eq_or_imp, Bool.not_eq_true, -Int.reducePow, -Nat.reducePow])
    exact q
  unfold Bd b11
  (refine go1 ?_; try simp only [ss_nil, st_asg, st_asgT, st_par, st_seti, st_setk, st_app, st_ins, st_ext, st_expr, st_ret, st_iff, st_forr, st_whl, st_pass, st_brk, st_cont, tg_nm, tg_n, tg_c, tg_co, ev_var, ev_cst, ev_bin, ev_neg, ev_nt, ev_bop, ev_cmp, ev_chn, ev_ife, ev_tup, ev_lst, ev_ix, ev_sl, ev_rv, ev_dnil, ev_dsp, ev_bi, ev_call, ev_pop, ev_popA, ev_comp, ev_isi, te_nt, te_bop, te_cmp, te_chn, te_ife, te_var, te_call, te_bi, te_ix, te_bin, te_isi, te_cst, pk_var, pk_cst, pk_bin, pk_neg, pk_nt, pk_bop, pk_cmp, pk_chn, pk_ife, pk_tup, pk_lst, pk_ix, pk_sl, pk_rv, pk_dnil, pk_dsp, pk_bi, pk_call, pk_pop, pk_popA, pk_comp, pk_isi, rt_var, rt_cst, rt_bin, rt_neg, rt_nt, rt_bop, rt_cmp, rt_chn, rt_ife, rt_tup, rt_lst, rt_ix, rt_sl, rt_rv, rt_dnil, rt_dsp, rt_bi, rt_call, rt_pop, rt_comp, rt_isi, es_nil, es_cons, cs_nil, cs_cons, ps_nil, ps_cons, o_no, o_so, c_no, c_so, i_rg1, i_rg2, i_rg3, i_sq, i_dk, i_en, i_zp, i_rev, get_v, get_s, gets_nil, gets_cons, own_iff, ownd_iff, set_nil, set_cons, o_add, o_adds, o_addl, o_addt, o_sub, o_mul, o_mull, o_multt, o_div, o_mod, o_pow, o_shl, o_shr, o_and, o_or, o_xor, q_eq, q_ne, ek_s, ek_i, ek_b, ek_n, ek_l, ek_t, deq_str, q_lt, q_le, q_gt, q_ge, q_is, q_isn, q_isb, q_isnb, q_inl, q_int, q_nil, q_nit, x_l, x_t, x_s, z_l, z_t, v_l, v_t, f_lenl, f_lent, f_lens, f_abs, f_int, f_intb, f_bool, f_boolb, f_str, f_repr, f_reprB, f_sum, f_max1, f_min1, f_minP, f_max2, f_min2, f_lstl, f_lstt, f_lstd, f_dct, f_sortd, y_d1, y_d2, p_dic, k_dic, f_tupl, f_tupt, f_sorted, f_sortet, f_sset, f_sseu, f_all, f_any, f_gcd, f_lrg1, f_lrg2, f_trg1, f_trg2, t_bl, t_int, t_non, t_lst, t_tup, t_str, List.getElem?_cons_zero, List.getElem?_cons_succ, List.set_cons_zero, List.set_cons_succ, Option.some.injEq, exists_eq_left', exists_eq_left, exists_eq_right, exists_eq_right', cd_sh, cd_ow, D.int.injEq, D.bl.injEq, D.str.injEq, D.tup.injEq, D.lst.injEq, C.ow.injEq, C.sh.injEq, List.cons.injEq, reduceCtorEq, exists_and_left, exists_and_right, exists_const, implies_true, exists_eq, exists_eq', okEq_int, okEq_bl, okEq_non, deq_int, deq_bl, List.length_cons, List.length_nil, Nat.reduceAdd, true_and, and_true, if_true, if_false, decide_eq_true_eq, Bool.true_eq_false, Bool.false_eq_true, false_and, and_false, false_or, or_false, exists_false, and_self, D.hd.injEq, exists_prop, exists_eq_or_imp, Bool.not_eq_true, -Int.reducePow, -Nat.reducePow, ty_tup h])
  cases d with
  | tup l =>
    simp only [ss_nil, st_asg, st_asgT, st_par, st_seti, st_setk, st_app, st_ins, st_ext, st_expr, st_ret, st_iff, st_forr, st_whl, st_pass, st_brk, st_cont, tg_nm, tg_n, tg_c, tg_co, ev_var, ev_cst, ev_bin, ev_neg, ev_nt, ev_bop, ev_cmp, ev_chn, ev_ife, ev_tup, ev_lst, ev_ix, ev_sl, ev_rv, ev_dnil, ev_dsp, ev_bi, ev_call, ev_pop, ev_popA, ev_comp, ev_isi, te_nt, te_bop, te_cmp, te_chn, te_ife, te_var, te_call, te_bi, te_ix, te_bin, te_isi, te_cst, pk_var, pk_cst, pk_bin, pk_neg, pk_nt, pk_bop, pk_cmp, pk_chn, pk_ife, pk_tup, pk_lst, pk_ix, pk_sl, pk_rv, pk_dnil, pk_dsp, pk_bi, pk_call, pk_pop, pk_popA, pk_comp, pk_isi, rt_var, rt_cst, rt_bin, rt_neg, rt_nt, rt_bop, rt_cmp, rt_chn, rt_ife, rt_tup, rt_lst, rt_ix, rt_sl, rt_rv, rt_dnil, rt_dsp, rt_bi, rt_call, rt_pop, rt_comp, rt_isi, es_nil, es_cons, cs_nil, cs_cons, ps_nil, ps_cons, o_no, o_so, c_no, c_so, i_rg1, i_rg2, i_rg3, i_sq, i_dk, i_en, i_zp, i_rev, get_v, get_s, gets_nil, gets_cons, own_iff, ownd_iff, set_nil, set_cons, o_add, o_adds, o_addl, o_addt, o_sub, o_mul, o_mull, o_multt, o_div, o_mod, o_pow, o_shl, o_shr, o_and, o_or, o_xor, q_eq, q_ne, ek_s, ek_i, ek_b, ek_n, ek_l, ek_t, deq_str, q_lt, q_le, q_gt, q_ge, q_is, q_isn, q_isb, q_isnb, q_inl, q_int, q_nil, q_nit, x_l, x_t, x_s, z_l, z_t, v_l, v_t, f_lenl, f_lent, f_lens, f_abs, f_int, f_intb, f_bool, f_boolb, f_str, f_repr, f_reprB, f_sum, f_max1, f_min1, f_minP, f_max2, f_min2, f_lstl, f_lstt, f_lstd, f_dct, f_sortd, y_d1, y_d2, p_dic, k_dic, f_tupl, f_tupt, f_sorted, f_sortet, f_sset, f_sseu, f_all, f_any, f_gcd, f_lrg1, f_lrg2, f_trg1, f_trg2, t_bl, t_int, t_non, t_lst, t_tup, t_str, List.getElem?_cons_zero, List.getElem?_cons_succ, List.set_cons_zero, List.set_cons_succ, Option.some.injEq, exists_eq_left', exists_eq_left, exists_eq_right, exists_eq_right', cd_sh, cd_ow, D.int.injEq, D.bl.injEq, D.str.injEq, D.tup.injEq, D.lst.injEq, C.ow.injEq, C.sh.injEq, List.cons.injEq, reduceCtorEq, exists_and_left, exists_and_right, exists_const, implies_true, exists_eq, exists_eq', okEq_int, okEq_bl, okEq_non, deq_int, deq_bl, List.length_cons, List.length_nil, Nat.reduceAdd, true_and, and_true, if_true, if_false, decide_eq_true_eq, Bool.true_eq_false, Bool.false_eq_true, false_and, and_false, false_or, or_false, exists_false, and_self, D.hd.injEq, exists_prop, exists_eq_or_imp, Bool.not_eq_true, -Int.reducePow, -Nat.reducePow, isT, Bool.not_true, Bool.not_false, reduceIte, Bool.false_eq_true, Bool.true_eq_false, Bool.or_true, Bool.or_false, Bool.and_true, Bool.and_false, Bool.true_and, Bool.false_and, Bool.true_or, Bool.false_or]
    by_cases hl : l.length ≤ 40
    · refine if_q (by omega) ?_
      rw [scerr_tup hl] at q
      unfold b11_2
      (refine go1 ?_; try simp only [ss_nil, st_asg, st_asgT, st_par, st_seti, st_setk, st_app, st_ins, st_ext, st_expr, st_ret, st_iff, st_forr, st_whl, st_pass, st_brk, st_cont, tg_nm, tg_n, tg_c, tg_co, ev_var, ev_cst, ev_bin, ev_neg, ev_nt, ev_bop, ev_cmp, ev_chn, ev_ife, ev_tup, ev_lst, ev_ix, ev_sl, ev_rv, ev_dnil, ev_dsp, ev_bi, ev_call, ev_pop, ev_popA, ev_comp, ev_isi, te_nt, te_bop, te_cmp, te_chn, te_ife, te_var, te_call, te_bi, te_ix, te_bin, te_isi, te_cst, pk_var, pk_cst, pk_bin, pk_neg, pk_nt, pk_bop, pk_cmp, pk_chn, pk_ife, pk_tup, pk_lst, pk_ix, pk_sl, pk_rv, pk_dnil, pk_dsp, pk_bi, pk_call, pk_pop, pk_popA, pk_comp, pk_isi, rt_var, rt_cst, rt_bin, rt_neg, rt_nt, rt_bop, rt_cmp, rt_chn, rt_ife, rt_tup, rt_lst, rt_ix, rt_sl, rt_rv, rt_dnil, rt_dsp, rt_bi, rt_call, rt_pop, rt_comp, rt_isi, es_nil, es_cons, cs_nil, cs_cons, ps_nil, ps_cons, o_no, o_so, c_no, c_so, i_rg1, i_rg2, i_rg3, i_sq, i_dk, i_en, i_zp, i_rev, get_v, get_s, gets_nil, gets_cons, own_iff, ownd_iff, set_nil, set_cons, o_add, o_adds, o_addl, o_addt, o_sub, o_mul, o_mull, o_multt, o_div, o_mod, o_pow, o_shl, o_shr, o_and, o_or, o_xor, q_eq, q_ne, ek_s, ek_i, ek_b, ek_n, ek_l, ek_t, deq_str, q_lt, q_le, q_gt, q_ge, q_is, q_isn, q_isb, q_isnb, q_inl, q_int, q_nil, q_nit, x_l, x_t, x_s, z_l, z_t, v_l, v_t, f_lenl, f_lent, f_lens, f_abs, f_int, f_intb, f_bool, f_boolb, f_str, f_repr, f_reprB, f_sum, f_max1, f_min1, f_minP, f_max2, f_min2, f_lstl, f_lstt, f_lstd, f_dct, f_sortd, y_d1, y_d2, p_dic, k_dic, f_tupl, f_tupt, f_sorted, f_sortet, f_sset, f_sseu, f_all, f_any, f_gcd, f_lrg1, f_lrg2, f_trg1, f_trg2, t_bl, t_int, t_non, t_lst, t_tup, t_str, List.getElem?_cons_zero, List.getElem?_cons_succ, List.set_cons_zero, List.set_cons_succ, Option.some.injEq, exists_eq_left', exists_eq_left, exists_eq_right, exists_eq_right', cd_sh, cd_ow, D.int.injEq, D.bl.injEq, D.str.injEq, D.tup.injEq, D.lst.injEq, C.ow.injEq, C.sh.injEq, List.cons.injEq, reduceCtorEq, exists_and_left, exists_and_right, exists_const, implies_true, exists_eq, exists_eq', okEq_int, okEq_bl, okEq_non, deq_int, deq_bl, List.length_cons, List.length_nil, Nat.reduceAdd, true_and, and_true, if_true, if_false, decide_eq_true_eq, Bool.true_eq_false, Bool.false_eq_true, false_and, and_false, false_or, or_false, exists_false, and_self, D.hd.injEq, exists_prop, exists_eq_or_imp, Bool.not_eq_true, -Int.reducePow, -Nat.reducePow])
      refine for_inv gam_ok (I11 l) _ 0 _ ⟨none, none, fun k d hk => absurd hk (Nat.not_lt_zero k), rfl⟩ (fun j d e hd ⟨o1, o2, hu, he⟩ => ?_) fun e ⟨o1, o2, hu, he⟩ => ?_
      · subst he
        obtain ⟨x, hx, rfl⟩ := enum_at hd
        have px := plx_mem h x (List.mem_of_getElem? hx)
        rw [Nat.zero_add] at *
        simp only [ss_nil, st_asg, st_asgT, st_par, st_seti, st_setk, st_app, st_ins, st_ext, st_expr, st_ret, st_iff, st_forr, st_whl, st_pass, st_brk, st_cont, tg_nm, tg_n, tg_c, tg_co, ev_var, ev_cst, ev_bin, ev_neg, ev_nt, ev_bop, ev_cmp, ev_chn, ev_ife, ev_tup, ev_lst, ev_ix, ev_sl, ev_rv, ev_dnil, ev_dsp, ev_bi, ev_call, ev_pop, ev_popA, ev_comp, ev_isi, te_nt, te_bop, te_cmp, te_chn, te_ife, te_var, te_call, te_bi, te_ix, te_bin, te_isi, te_cst, pk_var, pk_cst, pk_bin, pk_neg, pk_nt, pk_bop, pk_cmp, pk_chn, pk_ife, pk_tup, pk_lst, pk_ix, pk_sl, pk_rv, pk_dnil, pk_dsp, pk_bi, pk_call, pk_pop, pk_popA, pk_comp, pk_isi, rt_var, rt_cst, rt_bin, rt_neg, rt_nt, rt_bop, rt_cmp, rt_chn, rt_ife, rt_tup, rt_lst, rt_ix, rt_sl, rt_rv, rt_dnil, rt_dsp, rt_bi, rt_call, rt_pop, rt_comp, rt_isi, es_nil, es_cons, cs_nil, cs_cons, ps_nil, ps_cons, o_no, o_so, c_no, c_so, i_rg1, i_rg2, i_rg3, i_sq, i_dk, i_en, i_zp, i_rev, get_v, get_s, gets_nil, gets_cons, own_iff, ownd_iff, set_nil, set_cons, o_add, o_adds, o_addl, o_addt, o_sub, o_mul, o_mull, o_multt, o_div, o_mod, o_pow, o_shl, o_shr, o_and, o_or, o_xor, q_eq, q_ne, ek_s, ek_i, ek_b, ek_n, ek_l, ek_t, deq_str, q_lt, q_le, q_gt, q_ge, q_is, q_isn, q_isb, q_isnb, q_inl, q_int, q_nil, q_nit, x_l, x_t, x_s, z_l, z_t, v_l, v_t, f_lenl, f_lent, f_lens, f_abs, f_int, f_intb, f_bool, f_boolb, f_str, f_repr, f_reprB, f_sum, f_max1, f_min1, f_minP, f_max2, f_min2, f_lstl, f_lstt, f_lstd, f_dct, f_sortd, y_d1, y_d2, p_dic, k_dic, f_tupl, f_tupt, f_sorted, f_sortet, f_sset, f_sseu, f_all, f_any, f_gcd, f_lrg1, f_lrg2, f_trg1, f_trg2, t_bl, t_int, t_non, t_lst, t_tup, t_str, List.getElem?_cons_zero, List.getElem?_cons_succ, List.set_cons_zero, List.set_cons_succ, Option.some.injEq, exists_eq_left', exists_eq_left, exists_eq_right, exists_eq_right', cd_sh, cd_ow, D.int.injEq, D.bl.injEq, D.str.injEq, D.tup.injEq, D.lst.injEq, C.ow.injEq, C.sh.injEq, List.cons.injEq, reduceCtorEq, exists_and_left, exists_and_right, exists_const, implies_true, exists_eq, exists_eq', okEq_int, okEq_bl, okEq_non, deq_int, deq_bl, List.length_cons, List.length_nil, Nat.reduceAdd, true_and, and_true, if_true, if_false, decide_eq_true_eq, Bool.true_eq_false, Bool.false_eq_true, false_and, and_false, false_or, or_false, exists_false, and_self, D.hd.injEq, exists_prop, exists_eq_or_imp, Bool.not_eq_true, -Int.reducePow, -Nat.reducePow]
        unfold l11_3
        (refine go1 ?_; try simp only [ss_nil, st_asg, st_asgT, st_par, st_seti, st_setk, st_app, st_ins, st_ext, st_expr, st_ret, st_iff, st_forr, st_whl, st_pass, st_brk, st_cont, tg_nm, tg_n, tg_c, tg_co, ev_var, ev_cst, ev_bin, ev_neg, ev_nt, ev_bop, ev_cmp, ev_chn, ev_ife, ev_tup, ev_lst, ev_ix, ev_sl, ev_rv, ev_dnil, ev_dsp, ev_bi, ev_call, ev_pop, ev_popA, ev_comp, ev_isi, te_nt, te_bop, te_cmp, te_chn, te_ife, te_var, te_call, te_bi, te_ix, te_bin, te_isi, te_cst, pk_var, pk_cst, pk_bin, pk_neg, pk_nt, pk_bop, pk_cmp, pk_chn, pk_ife, pk_tup, pk_lst, pk_ix, pk_sl, pk_rv, pk_dnil, pk_dsp, pk_bi, pk_call, pk_pop, pk_popA, pk_comp, pk_isi, rt_var, rt_cst, rt_bin, rt_neg, rt_nt, rt_bop, rt_cmp, rt_chn, rt_ife, rt_tup, rt_lst, rt_ix, rt_sl, rt_rv, rt_dnil, rt_dsp, rt_bi, rt_call, rt_pop, rt_comp, rt_isi, es_nil, es_cons, cs_nil, cs_cons, ps_nil, ps_cons, o_no, o_so, c_no, c_so, i_rg1, i_rg2, i_rg3, i_sq, i_dk, i_en, i_zp, i_rev, get_v, get_s, gets_nil, gets_cons, own_iff, ownd_iff, set_nil, set_cons, o_add, o_adds, o_addl, o_addt, o_sub, o_mul, o_mull, o_multt, o_div, o_mod, o_pow, o_shl, o_shr, o_and, o_or, o_xor, q_eq, q_ne, ek_s, ek_i, ek_b, ek_n, ek_l, ek_t, deq_str, q_lt, q_le, q_gt, q_ge, q_is, q_isn, q_isb, q_isnb, q_inl, q_int, q_nil, q_nit, x_l, x_t, x_s, z_l, z_t, v_l, v_t, f_lenl, f_lent, f_lens, f_abs, f_int, f_intb, f_bool, f_boolb, f_str, f_repr, f_reprB, f_sum, f_max1, f_min1, f_minP, f_max2, f_min2, f_lstl, f_lstt, f_lstd, f_dct, f_sortd, y_d1, y_d2, p_dic, k_dic, f_tupl, f_tupt, f_sorted, f_sortet, f_sset, f_sseu, f_all, f_any, f_gcd, f_lrg1, f_lrg2, f_trg1, f_trg2, t_bl, t_int, t_non, t_lst, t_tup, t_str, List.getElem?_cons_zero, List.getElem?_cons_succ, List.set_cons_zero, List.set_cons_succ, Option.some.injEq, exists_eq_left', exists_eq_left, exists_eq_right, exists_eq_right', cd_sh, cd_ow, D.int.injEq, D.bl.injEq, D.str.injEq, D.tup.injEq, D.lst.injEq, C.ow.injEq, C.sh.injEq, List.cons.injEq, reduceCtorEq, exists_and_left, exists_and_right, exists_const, implies_true, exists_eq, exists_eq', okEq_int, okEq_bl, okEq_non, deq_int, deq_bl, List.length_cons, List.length_nil, Nat.reduceAdd, true_and, and_true, if_true, if_false, decide_eq_true_eq, Bool.true_eq_false, Bool.false_eq_true, false_and, and_false, false_or, or_false, exists_false, and_self, D.hd.injEq, exists_prop, exists_eq_or_imp, Bool.not_eq_true, -Int.reducePow, -Nat.reducePow, g9])
        refine ⟨px, ifnt (fun hs => ?_) fun hs => ⟨_, _, up_succ hu hx hs, rfl⟩⟩
        unfold l11_4
        (refine go1 ?_; try simp only [ss_nil, st_asg, st_asgT, st_par, st_seti, st_setk, st_app, st_ins, st_ext, st_expr, st_ret, st_iff, st_forr, st_whl, st_pass, st_brk, st_cont, tg_nm, tg_n, tg_c, tg_co, ev_var, ev_cst, ev_bin, ev_neg, ev_nt, ev_bop, ev_cmp, ev_chn, ev_ife, ev_tup, ev_lst, ev_ix, ev_sl, ev_rv, ev_dnil, ev_dsp, ev_bi, ev_call, ev_pop, ev_popA, ev_comp, ev_isi, te_nt, te_bop, te_cmp, te_chn, te_ife, te_var, te_call, te_bi, te_ix, te_bin, te_isi, te_cst, pk_var, pk_cst, pk_bin, pk_neg, pk_nt, pk_bop, pk_cmp, pk_chn, pk_ife, pk_tup, pk_lst, pk_ix, pk_sl, pk_rv, pk_dnil, pk_dsp, pk_bi, pk_call, pk_pop, pk_popA, pk_comp, pk_isi, rt_var, rt_cst, rt_bin, rt_neg, rt_nt, rt_bop, rt_cmp, rt_chn, rt_ife, rt_tup, rt_lst, rt_ix, rt_sl, rt_rv, rt_dnil, rt_dsp, rt_bi, rt_call, rt_pop, rt_comp, rt_isi, es_nil, es_cons, cs_nil, cs_cons, ps_nil, ps_cons, o_no, o_so, c_no, c_so, i_rg1, i_rg2, i_rg3, i_sq, i_dk, i_en, i_zp, i_rev, get_v, get_s, gets_nil, gets_cons, own_iff, ownd_iff, set_nil, set_cons, o_add, o_adds, o_addl, o_addt, o_sub, o_mul, o_mull, o_multt, o_div, o_mod, o_pow, o_shl, o_shr, o_and, o_or, o_xor, q_eq, q_ne, ek_s, ek_i, ek_b, ek_n, ek_l, ek_t, deq_str, q_lt, q_le, q_gt, q_ge, q_is, q_isn, q_isb, q_isnb, q_inl, q_int, q_nil, q_nit, x_l, x_t, x_s, z_l, z_t, v_l, v_t, f_lenl, f_lent, f_lens, f_abs, f_int, f_intb, f_bool, f_boolb, f_str, f_repr, f_reprB, f_sum, f_max1, f_min1, f_minP, f_max2, f_min2, f_lstl, f_lstt, f_lstd, f_dct, f_sortd, y_d1, y_d2, p_dic, k_dic, f_tupl, f_tupt, f_sorted, f_sortet, f_sset, f_sseu, f_all, f_any, f_gcd, f_lrg1, f_lrg2, f_trg1, f_trg2, t_bl, t_int, t_non, t_lst, t_tup, t_str, List.getElem?_cons_zero, List.getElem?_cons_succ, List.set_cons_zero, List.set_cons_succ, Option.some.injEq, exists_eq_left', exists_eq_left, exists_eq_right, exists_eq_right', cd_sh, cd_ow, D.int.injEq, D.bl.injEq, D.str.injEq, D.tup.injEq, D.lst.injEq, C.ow.injEq, C.sh.injEq, List.cons.injEq, reduceCtorEq, exists_and_left, exists_and_right, exists_const, implies_true, exists_eq, exists_eq', okEq_int, okEq_bl, okEq_non, deq_int, deq_bl, List.length_cons, List.length_nil, Nat.reduceAdd, true_and, and_true, if_true, if_false, decide_eq_true_eq, Bool.true_eq_false, Bool.false_eq_true, false_and, and_false, false_or, or_false, exists_false, and_self, D.hd.injEq, exists_prop, exists_eq_or_imp, Bool.not_eq_true, -Int.reducePow, -Nat.reducePow])
        refine ⟨s1000 _ (by decide), ?_⟩
        rw [up_at hu hx hs] at q
        exact q
      · subst he
        rw [enumD_len, Nat.zero_add] at hu
        unfold b11_5
        (refine go1 ?_; try simp only [ss_nil, st_asg, st_asgT, st_par, st_seti, st_setk, st_app, st_ins, st_ext, st_expr, st_ret, st_iff, st_forr, st_whl, st_pass, st_brk, st_cont, tg_nm, tg_n, tg_c, tg_co, ev_var, ev_cst, ev_bin, ev_neg, ev_nt, ev_bop, ev_cmp, ev_chn, ev_ife, ev_tup, ev_lst, ev_ix, ev_sl, ev_rv, ev_dnil, ev_dsp, ev_bi, ev_call, ev_pop, ev_popA, ev_comp, ev_isi, te_nt, te_bop, te_cmp, te_chn, te_ife, te_var, te_call, te_bi, te_ix, te_bin, te_isi, te_cst, pk_var, pk_cst, pk_bin, pk_neg, pk_nt, pk_bop, pk_cmp, pk_chn, pk_ife, pk_tup, pk_lst, pk_ix, pk_sl, pk_rv, pk_dnil, pk_dsp, pk_bi, pk_call, pk_pop, pk_popA, pk_comp, pk_isi, rt_var, rt_cst, rt_bin, rt_neg, rt_nt, rt_bop, rt_cmp, rt_chn, rt_ife, rt_tup, rt_lst, rt_ix, rt_sl, rt_rv, rt_dnil, rt_dsp, rt_bi, rt_call, rt_pop, rt_comp, rt_isi, es_nil, es_cons, cs_nil, cs_cons, ps_nil, ps_cons, o_no, o_so, c_no, c_so, i_rg1, i_rg2, i_rg3, i_sq, i_dk, i_en, i_zp, i_rev, get_v, get_s, gets_nil, gets_cons, own_iff, ownd_iff, set_nil, set_cons, o_add, o_adds, o_addl, o_addt, o_sub, o_mul, o_mull, o_multt, o_div, o_mod, o_pow, o_shl, o_shr, o_and, o_or, o_xor, q_eq, q_ne, ek_s, ek_i, ek_b, ek_n, ek_l, ek_t, deq_str, q_lt, q_le, q_gt, q_ge, q_is, q_isn, q_isb, q_isnb, q_inl, q_int, q_nil, q_nit, x_l, x_t, x_s, z_l, z_t, v_l, v_t, f_lenl, f_lent, f_lens, f_abs, f_int, f_intb, f_bool, f_boolb, f_str, f_repr, f_reprB, f_sum, f_max1, f_min1, f_minP, f_max2, f_min2, f_lstl, f_lstt, f_lstd, f_dct, f_sortd, y_d1, y_d2, p_dic, k_dic, f_tupl, f_tupt, f_sorted, f_sortet, f_sset, f_sseu, f_all, f_any, f_gcd, f_lrg1, f_lrg2, f_trg1, f_trg2, t_bl, t_int, t_non, t_lst, t_tup, t_str, List.getElem?_cons_zero, List.getElem?_cons_succ, List.set_cons_zero, List.set_cons_succ, Option.some.injEq, exists_eq_left', exists_eq_left, exists_eq_right, exists_eq_right', cd_sh, cd_ow, D.int.injEq, D.bl.injEq, D.str.injEq, D.tup.injEq, D.lst.injEq, C.ow.injEq, C.sh.injEq, List.cons.injEq, reduceCtorEq, exists_and_left, exists_and_right, exists_const, implies_true, exists_eq, exists_eq', okEq_int, okEq_bl, okEq_non, deq_int, deq_bl, List.length_cons, List.length_nil, Nat.reduceAdd, true_and, and_true, if_true, if_false, decide_eq_true_eq, Bool.true_eq_false, Bool.false_eq_true, false_and, and_false, false_or, or_false, exists_false, and_self, D.hd.injEq, exists_prop, exists_eq_or_imp, Bool.not_eq_true, -Int.reducePow, -Nat.reducePow, g10, cM60])
        refine ⟨⟨hl, up_all hu⟩, ?_⟩
        rw [up_end hu] at q
        dsimp only at q
        by_cases c : M60 < lcmF (stps l)
        · rw [if_pos c] at q
          exact if_p c q
        · rw [if_neg c] at q
          exact if_q c q
    · exact if_p (by omega) (bad (if_neg hl) _)
  | _ => exact bad rfl _
def I18 (ns : List Int) (i : Nat) (e : En) : Prop := ∃ o2 : Option C, e = [some (.sh (.lst (ns.map D.int))), some (.sh (.int (lcmF (ns.take i)))), o2]
theorem t18 (ns : List Int) (Q : C → Prop) (hl : ns.length ≤ 40) (h : ∀ n, n ∈ ns → 0 < n ∧ n ≤ M60) (q : Q (.sh (.int (lcmF ns)))) : Bd b18 [some (.sh (.lst (ns.map D.int))), none, none] Q := by
  unfold Bd b18
  simp only [ss_cons, ss_nil, st_asg, st_asgT, st_par, st_seti, st_setk, st_app, st_ins, st_ext, st_expr, st_ret, st_iff, st_forr, st_whl, st_pass, st_brk, st_cont, tg_nm, tg_n, tg_c, tg_co, ev_var, ev_cst, ev_bin, ev_neg, ev_nt, ev_bop, ev_cmp, ev_chn, ev_ife, ev_tup, ev_lst, ev_ix, ev_sl, ev_rv, ev_dnil, ev_dsp, ev_bi, ev_call, ev_pop, ev_popA, ev_comp, ev_isi, te_nt, te_bop, te_cmp, te_chn, te_ife, te_var, te_call, te_bi, te_ix, te_bin, te_isi, te_cst, pk_var, pk_cst, pk_bin, pk_neg, pk_nt, pk_bop, pk_cmp, pk_chn, pk_ife, pk_tup, pk_lst, pk_ix, pk_sl, pk_rv, pk_dnil, pk_dsp, pk_bi, pk_call, pk_pop, pk_popA, pk_comp, pk_isi, rt_var, rt_cst, rt_bin, rt_neg, rt_nt, rt_bop, rt_cmp, rt_chn, rt_ife, rt_tup, rt_lst, rt_ix, rt_sl, rt_rv, rt_dnil, rt_dsp, rt_bi, rt_call, rt_pop, rt_comp, rt_isi, es_nil, es_cons, cs_nil, cs_cons, ps_nil, ps_cons, o_no, o_so, c_no, c_so, i_rg1, i_rg2, i_rg3, i_sq, i_dk, i_en, i_zp, i_rev, get_v, get_s, gets_nil, gets_cons, own_iff, ownd_iff, set_nil, set_cons, o_add, o_adds, o_addl, o_addt, o_sub, o_mul, o_mull, o_multt, o_div, o_mod, o_pow, o_shl, o_shr, o_and, o_or, o_xor, q_eq, q_ne, ek_s, ek_i, ek_b, ek_n, ek_l, ek_t, deq_str, q_lt, q_le, q_gt, q_ge, q_is, q_isn, q_isb, q_isnb, q_inl, q_int, q_nil, q_nit, x_l, x_t, x_s, z_l, z_t, v_l, v_t, f_lenl, f_lent, f_lens, f_abs, f_int, f_intb, f_bool, f_boolb, f_str, f_repr, f_reprB, f_sum, f_max1, f_min1, f_minP, f_max2, f_min2, f_lstl, f_lstt, f_lstd, f_dct, f_sortd, y_d1, y_d2, p_dic, k_dic, f_tupl, f_tupt, f_sorted, f_sortet, f_sset, f_sseu, f_all, f_any, f_gcd, f_lrg1, f_lrg2, f_trg1, f_trg2, t_bl, t_int, t_non, t_lst, t_tup, t_str, List.getElem?_cons_zero, List.getElem?_cons_succ, List.set_cons_zero, List.set_cons_succ, Option.some.injEq, exists_eq_left', exists_eq_left, exists_eq_right, exists_eq_right', cd_sh, cd_ow, D.int.injEq, D.bl.injEq, D.str.injEq, D.tup.injEq, D.lst.injEq, C.ow.injEq, C.sh.injEq, List.cons.injEq, reduceCtorEq, exists_and_left, exists_and_right, exists_const, implies_true, exists_eq, exists_eq', okEq_int, okEq_bl, okEq_non, deq_int, deq_bl, List.length_cons, List.length_nil, Nat.reduceAdd, true_and, and_true, if_true, if_false, decide_eq_true_eq, Bool.true_eq_false, Bool.false_eq_true, false_and, and_false, false_or, or_false, exists_false, and_self, D.hd.injEq, exists_prop, exists_eq_or_imp, Bool.not_eq_true, -Int.reducePow, -Nat.reducePow]
  refine for_inv gam_ok (I18 ns) _ 0 _ ⟨none, rfl⟩ (fun j d e hd ⟨o, he⟩ => ?_) fun e ⟨o, he⟩ => ?_
  · subst he
    obtain ⟨n, hn, rfl⟩ := mp_get hd
    have jl := (List.getElem?_eq_some_iff.mp hn).1
    obtain ⟨n0, n1⟩ := h n (List.mem_of_getElem? hn)
    have hj : ∀ x, x ∈ ns.take j → 0 < x ∧ x ≤ M60 := fun x hx => h x (List.mem_of_mem_take hx)
    have f0 := lcmF_pos fun x hx => (hj x hx).1
    have fb := lcmF_bd hj
    rw [List.length_take] at fb
    have fb2 := bits_up fb (by omega)
    have es : ns.take (j + 1) = ns.take j ++ [n] := by rw [List.take_add_one, hn, Option.toList_some]
    rw [tg_nm, Nat.zero_add]
    have n2 : n.natAbs < 2 ^ 210 := Nat.lt_of_lt_of_le (abs200 (by omega) n1) (Nat.pow_le_pow_right (by decide) (by decide))
    obtain ⟨g1, g2⟩ := gcI_bd f0 n0 n2
    simp only [ss_cons, ss_nil, st_asg, st_asgT, st_par, st_seti, st_setk, st_app, st_ins, st_ext, st_expr, st_ret, st_iff, st_forr, st_whl, st_pass, st_brk, st_cont, tg_nm, tg_n, tg_c, tg_co, ev_var, ev_cst, ev_bin, ev_neg, ev_nt, ev_bop, ev_cmp, ev_chn, ev_ife, ev_tup, ev_lst, ev_ix, ev_sl, ev_rv, ev_dnil, ev_dsp, ev_bi, ev_call, ev_pop, ev_popA, ev_comp, ev_isi, te_nt, te_bop, te_cmp, te_chn, te_ife, te_var, te_call, te_bi, te_ix, te_bin, te_isi, te_cst, pk_var, pk_cst, pk_bin, pk_neg, pk_nt, pk_bop, pk_cmp, pk_chn, pk_ife, pk_tup, pk_lst, pk_ix, pk_sl, pk_rv, pk_dnil, pk_dsp, pk_bi, pk_call, pk_pop, pk_popA, pk_comp, pk_isi, rt_var, rt_cst, rt_bin, rt_neg, rt_nt, rt_bop, rt_cmp, rt_chn, rt_ife, rt_tup, rt_lst, rt_ix, rt_sl, rt_rv, rt_dnil, rt_dsp, rt_bi, rt_call, rt_pop, rt_comp, rt_isi, es_nil, es_cons, cs_nil, cs_cons, ps_nil, ps_cons, o_no, o_so, c_no, c_so, i_rg1, i_rg2, i_rg3, i_sq, i_dk, i_en, i_zp, i_rev, get_v, get_s, gets_nil, gets_cons, own_iff, ownd_iff, set_nil, set_cons, o_add, o_adds, o_addl, o_addt, o_sub, o_mul, o_mull, o_multt, o_div, o_mod, o_pow, o_shl, o_shr, o_and, o_or, o_xor, q_eq, q_ne, ek_s, ek_i, ek_b, ek_n, ek_l, ek_t, deq_str, q_lt, q_le, q_gt, q_ge, q_is, q_isn, q_isb, q_isnb, q_inl, q_int, q_nil, q_nit, x_l, x_t, x_s, z_l, z_t, v_l, v_t, f_lenl, f_lent, f_lens, f_abs, f_int, f_intb, f_bool, f_boolb, f_str, f_repr, f_reprB, f_sum, f_max1, f_min1, f_minP, f_max2, f_min2, f_lstl, f_lstt, f_lstd, f_dct, f_sortd, y_d1, y_d2, p_dic, k_dic, f_tupl, f_tupt, f_sorted, f_sortet, f_sset, f_sseu, f_all, f_any, f_gcd, f_lrg1, f_lrg2, f_trg1, f_trg2, t_bl, t_int, t_non, t_lst, t_tup, t_str, List.getElem?_cons_zero, List.getElem?_cons_succ, List.set_cons_zero, List.set_cons_succ, Option.some.injEq, exists_eq_left', exists_eq_left, exists_eq_right, exists_eq_right', cd_sh, cd_ow, D.int.injEq, D.bl.injEq, D.str.injEq, D.tup.injEq, D.lst.injEq, C.ow.injEq, C.sh.injEq, List.cons.injEq, reduceCtorEq, exists_and_left, exists_and_right, exists_const, implies_true, exists_eq, exists_eq', okEq_int, okEq_bl, okEq_non, deq_int, deq_bl, List.length_cons, List.length_nil, Nat.reduceAdd, true_and, and_true, if_true, if_false, decide_eq_true_eq, Bool.true_eq_false, Bool.false_eq_true, false_and, and_false, false_or, or_false, exists_false, and_self, D.hd.injEq, exists_prop, exists_eq_or_imp, Bool.not_eq_true, -Int.reducePow, -Nat.reducePow, g17]
    refine if_p n0 (if_p f0 ⟨(wide_mul fb2 n2 (by decide) (by decide) (by decide)).ok, ⟨by omega, by omega⟩, wide_div g1 g2 (by decide) (by decide), some (.sh (.int n)), ?_⟩)
    rw [mul_div_lcm f0, es, lcmF_snoc]
  · subst he
    rw [List.length_map, Nat.zero_add, List.take_length]
    simp only [ss_cons, ss_nil, st_asg, st_asgT, st_par, st_seti, st_setk, st_app, st_ins, st_ext, st_expr, st_ret, st_iff, st_forr, st_whl, st_pass, st_brk, st_cont, tg_nm, tg_n, tg_c, tg_co, ev_var, ev_cst, ev_bin, ev_neg, ev_nt, ev_bop, ev_cmp, ev_chn, ev_ife, ev_tup, ev_lst, ev_ix, ev_sl, ev_rv, ev_dnil, ev_dsp, ev_bi, ev_call, ev_pop, ev_popA, ev_comp, ev_isi, te_nt, te_bop, te_cmp, te_chn, te_ife, te_var, te_call, te_bi, te_ix, te_bin, te_isi, te_cst, pk_var, pk_cst, pk_bin, pk_neg, pk_nt, pk_bop, pk_cmp, pk_chn, pk_ife, pk_tup, pk_lst, pk_ix, pk_sl, pk_rv, pk_dnil, pk_dsp, pk_bi, pk_call, pk_pop, pk_popA, pk_comp, pk_isi, rt_var, rt_cst, rt_bin, rt_neg, rt_nt, rt_bop, rt_cmp, rt_chn, rt_ife, rt_tup, rt_lst, rt_ix, rt_sl, rt_rv, rt_dnil, rt_dsp, rt_bi, rt_call, rt_pop, rt_comp, rt_isi, es_nil, es_cons, cs_nil, cs_cons, ps_nil, ps_cons, o_no, o_so, c_no, c_so, i_rg1, i_rg2, i_rg3, i_sq, i_dk, i_en, i_zp, i_rev, get_v, get_s, gets_nil, gets_cons, own_iff, ownd_iff, set_nil, set_cons, o_add, o_adds, o_addl, o_addt, o_sub, o_mul, o_mull, o_multt, o_div, o_mod, o_pow, o_shl, o_shr, o_and, o_or, o_xor, q_eq, q_ne, ek_s, ek_i, ek_b, ek_n, ek_l, ek_t, deq_str, q_lt, q_le, q_gt, q_ge, q_is, q_isn, q_isb, q_isnb, q_inl, q_int, q_nil, q_nit, x_l, x_t, x_s, z_l, z_t, v_l, v_t, f_lenl, f_lent, f_lens, f_abs, f_int, f_intb, f_bool, f_boolb, f_str, f_repr, f_reprB, f_sum, f_max1, f_min1, f_minP, f_max2, f_min2, f_lstl, f_lstt, f_lstd, f_dct, f_sortd, y_d1, y_d2, p_dic, k_dic, f_tupl, f_tupt, f_sorted, f_sortet, f_sset, f_sseu, f_all, f_any, f_gcd, f_lrg1, f_lrg2, f_trg1, f_trg2, t_bl, t_int, t_non, t_lst, t_tup, t_str, List.getElem?_cons_zero, List.getElem?_cons_succ, List.set_cons_zero, List.set_cons_succ, Option.some.injEq, exists_eq_left', exists_eq_left, exists_eq_right, exists_eq_right', cd_sh, cd_ow, D.int.injEq, D.bl.injEq, D.str.injEq, D.tup.injEq, D.lst.injEq, C.ow.injEq, C.sh.injEq, List.cons.injEq, reduceCtorEq, exists_and_left, exists_and_right, exists_const, implies_true, exists_eq, exists_eq', okEq_int, okEq_bl, okEq_non, deq_int, deq_bl, List.length_cons, List.length_nil, Nat.reduceAdd, true_and, and_true, if_true, if_false, decide_eq_true_eq, Bool.true_eq_false, Bool.false_eq_true, false_and, and_false, false_or, or_false, exists_false, and_self, D.hd.injEq, exists_prop, exists_eq_or_imp, Bool.not_eq_true, -Int.reducePow, -Nat.reducePow]
    exact q
def I24 (l : List D) (i : Nat) (e : En) : Prop := ∃ o1 o2 : Option C, Up ruleB l i ∧ e = [some (.sh (.tup l)), o1, o2, none, none]
theorem t24 (d : D) (Q : C → Prop) (h : plx d = true) (q : Q (.sh (scerr d))) : Bd b24 [some (.sh d), none, none, none, none] Q := by
  have bad : scerr d = .str "form" → ∀ nx, wSs gam l24_1 { nx := nx, rt := Q } [some (C.sh d), none, none, none, none] := fun e nx => by
    rw [e] at q
    unfold l24_1
    (refine go1 ?_; try simp only [ss_nil, st_asg, st_asgT, st_par, st_seti, st_setk, st_app, st_ins, st_ext, st_expr, st_ret, st_iff, st_forr, st_whl, st_pass, st_brk, st_cont, tg_nm, tg_n, tg_c, tg_co, ev_var, ev_cst, ev_bin, ev_neg, ev_nt, ev_bop, ev_cmp, ev_chn, ev_ife, ev_tup, ev_lst, ev_ix, ev_sl, ev_rv, ev_dnil, ev_dsp, ev_bi, ev_call, ev_pop, ev_popA, ev_comp, ev_isi, te_nt, te_bop, te_cmp, te_chn, te_ife, te_var, te_call, te_bi, te_ix, te_bin, te_isi, te_cst, pk_var, pk_cst, pk_bin, pk_neg, pk_nt, pk_bop, pk_cmp, pk_chn, pk_ife, pk_tup, pk_lst, pk_ix, pk_sl, pk_rv, pk_dnil, pk_dsp, pk_bi, pk_call, pk_pop, pk_popA, pk_comp, pk_isi, rt_var, rt_cst, rt_bin, rt_neg, rt_nt, rt_bop, rt_cmp, rt_chn, rt_ife, rt_tup, rt_lst, rt_ix, rt_sl, rt_rv, rt_dnil, rt_dsp, rt_bi, rt_call, rt_pop, rt_comp, rt_isi, es_nil, es_cons, cs_nil, cs_cons, ps_nil, ps_cons, o_no, o_so, c_no, c_so, i_rg1, i_rg2, i_rg3, i_sq, i_dk, i_en, i_zp, i_rev, get_v, get_s, gets_nil, gets_cons, own_iff, ownd_iff, set_nil, set_cons, o_add, o_adds, o_addl, o_addt, o_sub, o_mul, o_mull, o_multt, o_div, o_mod, o_pow, o_shl, o_shr, o_and, o_or, o_xor, q_eq, q_ne, ek_s, ek_i, ek_b, ek_n, ek_l, ek_t, deq_str, q_lt, q_le, q_gt, q_ge, q_is, q_isn, q_isb, q_isnb, q_inl, q_int, q_nil, q_nit, x_l, x_t, x_s, z_l, z_t, v_l, v_t, f_lenl, f_lent, f_lens, f_abs, f_int, f_intb, f_bool, f_boolb, f_str, f_repr, f_reprB, f_sum, f_max1, f_min1, f_minP, f_max2, f_min2, f_lstl, f_lstt, f_lstd, f_dct, f_sortd, y_d1, y_d2, p_dic, k_dic, f_tupl, f_tupt, f_sorted, f_sortet, f_sset, f_sseu, f_all, f_any, f_gcd, f_lrg1, f_lrg2, f_trg1, f_trg2, t_bl, t_int, t_non, t_lst, t_tup, t_str, List.getElem?_cons_zero, List.getElem?_cons_succ, List.set_cons_zero, List.set_cons_succ, Option.some.injEq, exists_eq_left', exists_eq_left, exists_eq_right, exists_eq_right', cd_sh, cd_ow, D.int.injEq, D.bl.injEq, D.str.injEq, D.tup.injEq, D.lst.injEq, C.ow.injEq, C.sh.injEq, List.cons.injEq, reduceCtorEq, exists_and_left, exists_and_right, exists_const, implies_true, exists_eq, exists_eq', okEq_int, okEq_bl, okEq_non, deq_int, deq_bl, List.length_cons, List.length_nil, Nat.reduceAdd, true_and, and_true, if_true, if_false, decide_eq_true_eq, Bool.true_eq_false, Bool.false_eq_true, false_and, and_false, false_or, or_false, exists_false, and_self, D.hd.injEq, exists_prop, exists_eq_or_imp, Bool.not_eq_true, -Int.reducePow, -Nat.reducePow])
    exact q
  unfold Bd b24
  (refine go1 ?_; try simp only [ss_nil, st_asg, st_asgT, st_par, st_seti, st_setk, st_app, st_ins, st_ext, st_expr, st_ret, st_iff, st_forr, st_whl, st_pass, st_brk, st_cont, tg_nm, tg_n, tg_c, tg_co, ev_var, ev_cst, ev_bin, ev_neg, ev_nt, ev_bop, ev_cmp, ev_chn, ev_ife, ev_tup, ev_lst, ev_ix, ev_sl, ev_rv, ev_dnil, ev_dsp, ev_bi, ev_call, ev_pop, ev_popA, ev_comp, ev_isi, te_nt, te_bop, te_cmp, te_chn, te_ife, te_var, te_call, te_bi, te_ix, te_bin, te_isi, te_cst, pk_var, pk_cst, pk_bin, pk_neg, pk_nt, pk_bop, pk_cmp, pk_chn, pk_ife, pk_tup, pk_lst, pk_ix, pk_sl, pk_rv, pk_dnil, pk_dsp, pk_bi, pk_call, pk_pop, pk_popA, pk_comp, pk_isi, rt_var, rt_cst, rt_bin, rt_neg, rt_nt, rt_bop, rt_cmp, rt_chn, rt_ife, rt_tup, rt_lst, rt_ix, rt_sl, rt_rv, rt_dnil, rt_dsp, rt_bi, rt_call, rt_pop, rt_comp, rt_isi, es_nil, es_cons, cs_nil, cs_cons, ps_nil, ps_cons, o_no, o_so, c_no, c_so, i_rg1, i_rg2, i_rg3, i_sq, i_dk, i_en, i_zp, i_rev, get_v, get_s, gets_nil, gets_cons, own_iff, ownd_iff, set_nil, set_cons, o_add, o_adds, o_addl, o_addt, o_sub, o_mul, o_mull, o_multt, o_div, o_mod, o_pow, o_shl, o_shr, o_and, o_or, o_xor, q_eq, q_ne, ek_s, ek_i, ek_b, ek_n, ek_l, ek_t, deq_str, q_lt, q_le, q_gt, q_ge, q_is, q_isn, q_isb, q_isnb, q_inl, q_int, q_nil, q_nit, x_l, x_t, x_s, z_l, z_t, v_l, v_t, f_lenl, f_lent, f_lens, f_abs, f_int, f_intb, f_bool, f_boolb, f_str, f_repr, f_reprB, f_sum, f_max1, f_min1, f_minP, f_max2, f_min2, f_lstl, f_lstt, f_lstd, f_dct, f_sortd, y_d1, y_d2, p_dic, k_dic, f_tupl, f_tupt, f_sorted, f_sortet, f_sset, f_sseu, f_all, f_any, f_gcd, f_lrg1, f_lrg2, f_trg1, f_trg2, t_bl, t_int, t_non, t_lst, t_tup, t_str, List.getElem?_cons_zero, List.getElem?_cons_succ, List.set_cons_zero, List.set_cons_succ, Option.some.injEq, exists_eq_left', exists_eq_left, exists_eq_right, exists_eq_right', cd_sh, cd_ow, D.int.injEq, D.bl.injEq, D.str.injEq, D.tup.injEq, D.lst.injEq, C.ow.injEq, C.sh.injEq, List.cons.injEq, reduceCtorEq, exists_and_left, exists_and_right, exists_const, implies_true, exists_eq, exists_eq', okEq_int, okEq_bl, okEq_non, deq_int, deq_bl, List.length_cons, List.length_nil, Nat.reduceAdd, true_and, and_true, if_true, if_false, decide_eq_true_eq, Bool.true_eq_false, Bool.false_eq_true, false_and, and_false, false_or, or_false, exists_false, and_self, D.hd.injEq, exists_prop, exists_eq_or_imp, Bool.not_eq_true, -Int.reducePow, -Nat.reducePow, ty_tup h])
  cases d with
  | tup l =>
    simp only [ss_nil, st_asg, st_asgT, st_par, st_seti, st_setk, st_app, st_ins, st_ext, st_expr, st_ret, st_iff, st_forr, st_whl, st_pass, st_brk, st_cont, tg_nm, tg_n, tg_c, tg_co, ev_var, ev_cst, ev_bin, ev_neg, ev_nt, ev_bop, ev_cmp, ev_chn, ev_ife, ev_tup, ev_lst, ev_ix, ev_sl, ev_rv, ev_dnil, ev_dsp, ev_bi, ev_call, ev_pop, ev_popA, ev_comp, ev_isi, te_nt, te_bop, te_cmp, te_chn, te_ife, te_var, te_call, te_bi, te_ix, te_bin, te_isi, te_cst, pk_var, pk_cst, pk_bin, pk_neg, pk_nt, pk_bop, pk_cmp, pk_chn, pk_ife, pk_tup, pk_lst, pk_ix, pk_sl, pk_rv, pk_dnil, pk_dsp, pk_bi, pk_call, pk_pop, pk_popA, pk_comp, pk_isi, rt_var, rt_cst, rt_bin, rt_neg, rt_nt, rt_bop, rt_cmp, rt_chn, rt_ife, rt_tup, rt_lst, rt_ix, rt_sl, rt_rv, rt_dnil, rt_dsp, rt_bi, rt_call, rt_pop, rt_comp, rt_isi, es_nil, es_cons, cs_nil, cs_cons, ps_nil, ps_cons, o_no, o_so, c_no, c_so, i_rg1, i_rg2, i_rg3, i_sq, i_dk, i_en, i_zp, i_rev, get_v, get_s, gets_nil, gets_cons, own_iff, ownd_iff, set_nil, set_cons, o_add, o_adds, o_addl, o_addt, o_sub, o_mul, o_mull, o_multt, o_div, o_mod, o_pow, o_shl, o_shr, o_and, o_or, o_xor, q_eq, q_ne, ek_s, ek_i, ek_b, ek_n, ek_l, ek_t, deq_str, q_lt, q_le, q_gt, q_ge, q_is, q_isn, q_isb, q_isnb, q_inl, q_int, q_nil, q_nit, x_l, x_t, x_s, z_l, z_t, v_l, v_t, f_lenl, f_lent, f_lens, f_abs, f_int, f_intb, f_bool, f_boolb, f_str, f_repr, f_reprB, f_sum, f_max1, f_min1, f_minP, f_max2, f_min2, f_lstl, f_lstt, f_lstd, f_dct, f_sortd, y_d1, y_d2, p_dic, k_dic, f_tupl, f_tupt, f_sorted, f_sortet, f_sset, f_sseu, f_all, f_any, f_gcd, f_lrg1, f_lrg2, f_trg1, f_trg2, t_bl, t_int, t_non, t_lst, t_tup, t_str, List.getElem?_cons_zero, List.getElem?_cons_succ, List.set_cons_zero, List.set_cons_succ, Option.some.injEq, exists_eq_left', exists_eq_left, exists_eq_right, exists_eq_right', cd_sh, cd_ow, D.int.injEq, D.bl.injEq, D.str.injEq, D.tup.injEq, D.lst.injEq, C.ow.injEq, C.sh.injEq, List.cons.injEq, reduceCtorEq, exists_and_left, exists_and_right, exists_const, implies_true, exists_eq, exists_eq', okEq_int, okEq_bl, okEq_non, deq_int, deq_bl, List.length_cons, List.length_nil, Nat.reduceAdd, true_and, and_true, if_true, if_false, decide_eq_true_eq, Bool.true_eq_false, Bool.false_eq_true, false_and, and_false, false_or, or_false, exists_false, and_self, D.hd.injEq, exists_prop, exists_eq_or_imp, Bool.not_eq_true, -Int.reducePow, -Nat.reducePow, isT, Bool.not_true, Bool.not_false, reduceIte, Bool.false_eq_true, Bool.true_eq_false, Bool.or_true, Bool.or_false, Bool.and_true, Bool.and_false, Bool.true_and, Bool.false_and, Bool.true_or, Bool.false_or]
    by_cases hl : l.length ≤ 40
    · refine if_q (by omega) ?_
      rw [scerr_tup hl] at q
      unfold b24_2
      (refine go1 ?_; try simp only [ss_nil, st_asg, st_asgT, st_par, st_seti, st_setk, st_app, st_ins, st_ext, st_expr, st_ret, st_iff, st_forr, st_whl, st_pass, st_brk, st_cont, tg_nm, tg_n, tg_c, tg_co, ev_var, ev_cst, ev_bin, ev_neg, ev_nt, ev_bop, ev_cmp, ev_chn, ev_ife, ev_tup, ev_lst, ev_ix, ev_sl, ev_rv, ev_dnil, ev_dsp, ev_bi, ev_call, ev_pop, ev_popA, ev_comp, ev_isi, te_nt, te_bop, te_cmp, te_chn, te_ife, te_var, te_call, te_bi, te_ix, te_bin, te_isi, te_cst, pk_var, pk_cst, pk_bin, pk_neg, pk_nt, pk_bop, pk_cmp, pk_chn, pk_ife, pk_tup, pk_lst, pk_ix, pk_sl, pk_rv, pk_dnil, pk_dsp, pk_bi, pk_call, pk_pop, pk_popA, pk_comp, pk_isi, rt_var, rt_cst, rt_bin, rt_neg, rt_nt, rt_bop, rt_cmp, rt_chn, rt_ife, rt_tup, rt_lst, rt_ix, rt_sl, rt_rv, rt_dnil, rt_dsp, rt_bi, rt_call, rt_pop, rt_comp, rt_isi, es_nil, es_cons, cs_nil, cs_cons, ps_nil, ps_cons, o_no, o_so, c_no, c_so, i_rg1, i_rg2, i_rg3, i_sq, i_dk, i_en, i_zp, i_rev, get_v, get_s, gets_nil, gets_cons, own_iff, ownd_iff, set_nil, set_cons, o_add, o_adds, o_addl, o_addt, o_sub, o_mul, o_mull, o_multt, o_div, o_mod, o_pow, o_shl, o_shr, o_and, o_or, o_xor, q_eq, q_ne, ek_s, ek_i, ek_b, ek_n, ek_l, ek_t, deq_str, q_lt, q_le, q_gt, q_ge, q_is, q_isn, q_isb, q_isnb, q_inl, q_int, q_nil, q_nit, x_l, x_t, x_s, z_l, z_t, v_l, v_t, f_lenl, f_lent, f_lens, f_abs, f_int, f_intb, f_bool, f_boolb, f_str, f_repr, f_reprB, f_sum, f_max1, f_min1, f_minP, f_max2, f_min2, f_lstl, f_lstt, f_lstd, f_dct, f_sortd, y_d1, y_d2, p_dic, k_dic, f_tupl, f_tupt, f_sorted, f_sortet, f_sset, f_sseu, f_all, f_any, f_gcd, f_lrg1, f_lrg2, f_trg1, f_trg2, t_bl, t_int, t_non, t_lst, t_tup, t_str, List.getElem?_cons_zero, List.getElem?_cons_succ, List.set_cons_zero, List.set_cons_succ, Option.some.injEq, exists_eq_left', exists_eq_left, exists_eq_right, exists_eq_right', cd_sh, cd_ow, D.int.injEq, D.bl.injEq, D.str.injEq, D.tup.injEq, D.lst.injEq, C.ow.injEq, C.sh.injEq, List.cons.injEq, reduceCtorEq, exists_and_left, exists_and_right, exists_const, implies_true, exists_eq, exists_eq', okEq_int, okEq_bl, okEq_non, deq_int, deq_bl, List.length_cons, List.length_nil, Nat.reduceAdd, true_and, and_true, if_true, if_false, decide_eq_true_eq, Bool.true_eq_false, Bool.false_eq_true, false_and, and_false, false_or, or_false, exists_false, and_self, D.hd.injEq, exists_prop, exists_eq_or_imp, Bool.not_eq_true, -Int.reducePow, -Nat.reducePow])
      refine for_inv gam_ok (I24 l) _ 0 _ ⟨none, none, fun k d hk => absurd hk (Nat.not_lt_zero k), rfl⟩ (fun j d e hd ⟨o1, o2, hu, he⟩ => ?_) fun e ⟨o1, o2, hu, he⟩ => ?_
      · subst he
        obtain ⟨x, hgx, rfl⟩ := enum_at hd
        have px := plx_mem h x (List.mem_of_getElem? hgx)
        rw [Nat.zero_add] at *
        simp only [ss_nil, st_asg, st_asgT, st_par, st_seti, st_setk, st_app, st_ins, st_ext, st_expr, st_ret, st_iff, st_forr, st_whl, st_pass, st_brk, st_cont, tg_nm, tg_n, tg_c, tg_co, ev_var, ev_cst, ev_bin, ev_neg, ev_nt, ev_bop, ev_cmp, ev_chn, ev_ife, ev_tup, ev_lst, ev_ix, ev_sl, ev_rv, ev_dnil, ev_dsp, ev_bi, ev_call, ev_pop, ev_popA, ev_comp, ev_isi, te_nt, te_bop, te_cmp, te_chn, te_ife, te_var, te_call, te_bi, te_ix, te_bin, te_isi, te_cst, pk_var, pk_cst, pk_bin, pk_neg, pk_nt, pk_bop, pk_cmp, pk_chn, pk_ife, pk_tup, pk_lst, pk_ix, pk_sl, pk_rv, pk_dnil, pk_dsp, pk_bi, pk_call, pk_pop, pk_popA, pk_comp, pk_isi, rt_var, rt_cst, rt_bin, rt_neg, rt_nt, rt_bop, rt_cmp, rt_chn, rt_ife, rt_tup, rt_lst, rt_ix, rt_sl, rt_rv, rt_dnil, rt_dsp, rt_bi, rt_call, rt_pop, rt_comp, rt_isi, es_nil, es_cons, cs_nil, cs_cons, ps_nil, ps_cons, o_no, o_so, c_no, c_so, i_rg1, i_rg2, i_rg3, i_sq, i_dk, i_en, i_zp, i_rev, get_v, get_s, gets_nil, gets_cons, own_iff, ownd_iff, set_nil, set_cons, o_add, o_adds, o_addl, o_addt, o_sub, o_mul, o_mull, o_multt, o_div, o_mod, o_pow, o_shl, o_shr, o_and, o_or, o_xor, q_eq, q_ne, ek_s, ek_i, ek_b, ek_n, ek_l, ek_t, deq_str, q_lt, q_le, q_gt, q_ge, q_is, q_isn, q_isb, q_isnb, q_inl, q_int, q_nil, q_nit, x_l, x_t, x_s, z_l, z_t, v_l, v_t, f_lenl, f_lent, f_lens, f_abs, f_int, f_intb, f_bool, f_boolb, f_str, f_repr, f_reprB, f_sum, f_max1, f_min1, f_minP, f_max2, f_min2, f_lstl, f_lstt, f_lstd, f_dct, f_sortd, y_d1, y_d2, p_dic, k_dic, f_tupl, f_tupt, f_sorted, f_sortet, f_sset, f_sseu, f_all, f_any, f_gcd, f_lrg1, f_lrg2, f_trg1, f_trg2, t_bl, t_int, t_non, t_lst, t_tup, t_str, List.getElem?_cons_zero, List.getElem?_cons_succ, List.set_cons_zero, List.set_cons_succ, Option.some.injEq, exists_eq_left', exists_eq_left, exists_eq_right, exists_eq_right', cd_sh, cd_ow, D.int.injEq, D.bl.injEq, D.str.injEq, D.tup.injEq, D.lst.injEq, C.ow.injEq, C.sh.injEq, List.cons.injEq, reduceCtorEq, exists_and_left, exists_and_right, exists_const, implies_true, exists_eq, exists_eq', okEq_int, okEq_bl, okEq_non, deq_int, deq_bl, List.length_cons, List.length_nil, Nat.reduceAdd, true_and, and_true, if_true, if_false, decide_eq_true_eq, Bool.true_eq_false, Bool.false_eq_true, false_and, and_false, false_or, or_false, exists_false, and_self, D.hd.injEq, exists_prop, exists_eq_or_imp, Bool.not_eq_true, -Int.reducePow, -Nat.reducePow]
        have bad4 : ruleB x = false → ∀ X : Ed, X.rt = Q → wSs gam l24_4 X [some (C.sh (.tup l)), some (.sh (.int j)), some (.sh x), none, none] := fun e X hX => by
          rw [up_at hu hgx e] at q
          unfold l24_4
          (refine go1 ?_; try simp only [ss_nil, st_asg, st_asgT, st_par, st_seti, st_setk, st_app, st_ins, st_ext, st_expr, st_ret, st_iff, st_forr, st_whl, st_pass, st_brk, st_cont, tg_nm, tg_n, tg_c, tg_co, ev_var, ev_cst, ev_bin, ev_neg, ev_nt, ev_bop, ev_cmp, ev_chn, ev_ife, ev_tup, ev_lst, ev_ix, ev_sl, ev_rv, ev_dnil, ev_dsp, ev_bi, ev_call, ev_pop, ev_popA, ev_comp, ev_isi, te_nt, te_bop, te_cmp, te_chn, te_ife, te_var, te_call, te_bi, te_ix, te_bin, te_isi, te_cst, pk_var, pk_cst, pk_bin, pk_neg, pk_nt, pk_bop, pk_cmp, pk_chn, pk_ife, pk_tup, pk_lst, pk_ix, pk_sl, pk_rv, pk_dnil, pk_dsp, pk_bi, pk_call, pk_pop, pk_popA, pk_comp, pk_isi, rt_var, rt_cst, rt_bin, rt_neg, rt_nt, rt_bop, rt_cmp, rt_chn, rt_ife, rt_tup, rt_lst, rt_ix, rt_sl, rt_rv, rt_dnil, rt_dsp, rt_bi, rt_call, rt_pop, rt_comp, rt_isi, es_nil, es_cons, cs_nil, cs_cons, ps_nil, ps_cons, o_no, o_so, c_no, c_so, i_rg1, i_rg2, i_rg3, i_sq, i_dk, i_en, i_zp, i_rev, get_v, get_s, gets_nil, gets_cons, own_iff, ownd_iff, set_nil, set_cons, o_add, o_adds, o_addl, o_addt, o_sub, o_mul, o_mull, o_multt, o_div, o_mod, o_pow, o_shl, o_shr, o_and, o_or, o_xor, q_eq, q_ne, ek_s, ek_i, ek_b, ek_n, ek_l, ek_t, deq_str, q_lt, q_le, q_gt, q_ge, q_is, q_isn, q_isb, q_isnb, q_inl, q_int, q_nil, q_nit, x_l, x_t, x_s, z_l, z_t, v_l, v_t, f_lenl, f_lent, f_lens, f_abs, f_int, f_intb, f_bool, f_boolb, f_str, f_repr, f_reprB, f_sum, f_max1, f_min1, f_minP, f_max2, f_min2, f_lstl, f_lstt, f_lstd, f_dct, f_sortd, y_d1, y_d2, p_dic, k_dic, f_tupl, f_tupt, f_sorted, f_sortet, f_sset, f_sseu, f_all, f_any, f_gcd, f_lrg1, f_lrg2, f_trg1, f_trg2, t_bl, t_int, t_non, t_lst, t_tup, t_str, List.getElem?_cons_zero, List.getElem?_cons_succ, List.set_cons_zero, List.set_cons_succ, Option.some.injEq, exists_eq_left', exists_eq_left, exists_eq_right, exists_eq_right', cd_sh, cd_ow, D.int.injEq, D.bl.injEq, D.str.injEq, D.tup.injEq, D.lst.injEq, C.ow.injEq, C.sh.injEq, List.cons.injEq, reduceCtorEq, exists_and_left, exists_and_right, exists_const, implies_true, exists_eq, exists_eq', okEq_int, okEq_bl, okEq_non, deq_int, deq_bl, List.length_cons, List.length_nil, Nat.reduceAdd, true_and, and_true, if_true, if_false, decide_eq_true_eq, Bool.true_eq_false, Bool.false_eq_true, false_and, and_false, false_or, or_false, exists_false, and_self, D.hd.injEq, exists_prop, exists_eq_or_imp, Bool.not_eq_true, -Int.reducePow, -Nat.reducePow])
          rw [hX]
          exact ⟨s1000 _ (by decide), q⟩
        have bad6 : ruleB x = false → ∀ X : Ed, X.rt = Q → wSs gam l24_6 X [some (C.sh (.tup l)), some (.sh (.int j)), some (.sh x), none, none] := fun e X hX => by
          rw [up_at hu hgx e] at q
          unfold l24_6
          (refine go1 ?_; try simp only [ss_nil, st_asg, st_asgT, st_par, st_seti, st_setk, st_app, st_ins, st_ext, st_expr, st_ret, st_iff, st_forr, st_whl, st_pass, st_brk, st_cont, tg_nm, tg_n, tg_c, tg_co, ev_var, ev_cst, ev_bin, ev_neg, ev_nt, ev_bop, ev_cmp, ev_chn, ev_ife, ev_tup, ev_lst, ev_ix, ev_sl, ev_rv, ev_dnil, ev_dsp, ev_bi, ev_call, ev_pop, ev_popA, ev_comp, ev_isi, te_nt, te_bop, te_cmp, te_chn, te_ife, te_var, te_call, te_bi, te_ix, te_bin, te_isi, te_cst, pk_var, pk_cst, pk_bin, pk_neg, pk_nt, pk_bop, pk_cmp, pk_chn, pk_ife, pk_tup, pk_lst, pk_ix, pk_sl, pk_rv, pk_dnil, pk_dsp, pk_bi, pk_call, pk_pop, pk_popA, pk_comp, pk_isi, rt_var, rt_cst, rt_bin, rt_neg, rt_nt, rt_bop, rt_cmp, rt_chn, rt_ife, rt_tup, rt_lst, rt_ix, rt_sl, rt_rv, rt_dnil, rt_dsp, rt_bi, rt_call, rt_pop, rt_comp, rt_isi, es_nil, es_cons, cs_nil, cs_cons, ps_nil, ps_cons, o_no, o_so, c_no, c_so, i_rg1, i_rg2, i_rg3, i_sq, i_dk, i_en, i_zp, i_rev, get_v, get_s, gets_nil, gets_cons, own_iff, ownd_iff, set_nil, set_cons, o_add, o_adds, o_addl, o_addt, o_sub, o_mul, o_mull, o_multt, o_div, o_mod, o_pow, o_shl, o_shr, o_and, o_or, o_xor, q_eq, q_ne, ek_s, ek_i, ek_b, ek_n, ek_l, ek_t, deq_str, q_lt, q_le, q_gt, q_ge, q_is, q_isn, q_isb, q_isnb, q_inl, q_int, q_nil, q_nit, x_l, x_t, x_s, z_l, z_t, v_l, v_t, f_lenl, f_lent, f_lens, f_abs, f_int, f_intb, f_bool, f_boolb, f_str, f_repr, f_reprB, f_sum, f_max1, f_min1, f_minP, f_max2, f_min2, f_lstl, f_lstt, f_lstd, f_dct, f_sortd, y_d1, y_d2, p_dic, k_dic, f_tupl, f_tupt, f_sorted, f_sortet, f_sset, f_sseu, f_all, f_any, f_gcd, f_lrg1, f_lrg2, f_trg1, f_trg2, t_bl, t_int, t_non, t_lst, t_tup, t_str, List.getElem?_cons_zero, List.getElem?_cons_succ, List.set_cons_zero, List.set_cons_succ, Option.some.injEq, exists_eq_left', exists_eq_left, exists_eq_right, exists_eq_right', cd_sh, cd_ow, D.int.injEq, D.bl.injEq, D.str.injEq, D.tup.injEq, D.lst.injEq, C.ow.injEq, C.sh.injEq, List.cons.injEq, reduceCtorEq, exists_and_left, exists_and_right, exists_const, implies_true, exists_eq, exists_eq', okEq_int, okEq_bl, okEq_non, deq_int, deq_bl, List.length_cons, List.length_nil, Nat.reduceAdd, true_and, and_true, if_true, if_false, decide_eq_true_eq, Bool.true_eq_false, Bool.false_eq_true, false_and, and_false, false_or, or_false, exists_false, and_self, D.hd.injEq, exists_prop, exists_eq_or_imp, Bool.not_eq_true, -Int.reducePow, -Nat.reducePow])
          rw [hX]
          exact ⟨s1000 _ (by decide), q⟩
        unfold l24_3
        (refine go1 ?_; try simp only [ss_nil, st_asg, st_asgT, st_par, st_seti, st_setk, st_app, st_ins, st_ext, st_expr, st_ret, st_iff, st_forr, st_whl, st_pass, st_brk, st_cont, tg_nm, tg_n, tg_c, tg_co, ev_var, ev_cst, ev_bin, ev_neg, ev_nt, ev_bop, ev_cmp, ev_chn, ev_ife, ev_tup, ev_lst, ev_ix, ev_sl, ev_rv, ev_dnil, ev_dsp, ev_bi, ev_call, ev_pop, ev_popA, ev_comp, ev_isi, te_nt, te_bop, te_cmp, te_chn, te_ife, te_var, te_call, te_bi, te_ix, te_bin, te_isi, te_cst, pk_var, pk_cst, pk_bin, pk_neg, pk_nt, pk_bop, pk_cmp, pk_chn, pk_ife, pk_tup, pk_lst, pk_ix, pk_sl, pk_rv, pk_dnil, pk_dsp, pk_bi, pk_call, pk_pop, pk_popA, pk_comp, pk_isi, rt_var, rt_cst, rt_bin, rt_neg, rt_nt, rt_bop, rt_cmp, rt_chn, rt_ife, rt_tup, rt_lst, rt_ix, rt_sl, rt_rv, rt_dnil, rt_dsp, rt_bi, rt_call, rt_pop, rt_comp, rt_isi, es_nil, es_cons, cs_nil, cs_cons, ps_nil, ps_cons, o_no, o_so, c_no, c_so, i_rg1, i_rg2, i_rg3, i_sq, i_dk, i_en, i_zp, i_rev, get_v, get_s, gets_nil, gets_cons, own_iff, ownd_iff, set_nil, set_cons, o_add, o_adds, o_addl, o_addt, o_sub, o_mul, o_mull, o_multt, o_div, o_mod, o_pow, o_shl, o_shr, o_and, o_or, o_xor, q_eq, q_ne, ek_s, ek_i, ek_b, ek_n, ek_l, ek_t, deq_str, q_lt, q_le, q_gt, q_ge, q_is, q_isn, q_isb, q_isnb, q_inl, q_int, q_nil, q_nit, x_l, x_t, x_s, z_l, z_t, v_l, v_t, f_lenl, f_lent, f_lens, f_abs, f_int, f_intb, f_bool, f_boolb, f_str, f_repr, f_reprB, f_sum, f_max1, f_min1, f_minP, f_max2, f_min2, f_lstl, f_lstt, f_lstd, f_dct, f_sortd, y_d1, y_d2, p_dic, k_dic, f_tupl, f_tupt, f_sorted, f_sortet, f_sset, f_sseu, f_all, f_any, f_gcd, f_lrg1, f_lrg2, f_trg1, f_trg2, t_bl, t_int, t_non, t_lst, t_tup, t_str, List.getElem?_cons_zero, List.getElem?_cons_succ, List.set_cons_zero, List.set_cons_succ, Option.some.injEq, exists_eq_left', exists_eq_left, exists_eq_right, exists_eq_right', cd_sh, cd_ow, D.int.injEq, D.bl.injEq, D.str.injEq, D.tup.injEq, D.lst.injEq, C.ow.injEq, C.sh.injEq, List.cons.injEq, reduceCtorEq, exists_and_left, exists_and_right, exists_const, implies_true, exists_eq, exists_eq', okEq_int, okEq_bl, okEq_non, deq_int, deq_bl, List.length_cons, List.length_nil, Nat.reduceAdd, true_and, and_true, if_true, if_false, decide_eq_true_eq, Bool.true_eq_false, Bool.false_eq_true, false_and, and_false, false_or, or_false, exists_false, and_self, D.hd.injEq, exists_prop, exists_eq_or_imp, Bool.not_eq_true, -Int.reducePow, -Nat.reducePow, ty_tup px])
        cases x with
        | tup m =>
          simp only [ss_nil, st_asg, st_asgT, st_par, st_seti, st_setk, st_app, st_ins, st_ext, st_expr, st_ret, st_iff, st_forr, st_whl, st_pass, st_brk, st_cont, tg_nm, tg_n, tg_c, tg_co, ev_var, ev_cst, ev_bin, ev_neg, ev_nt, ev_bop, ev_cmp, ev_chn, ev_ife, ev_tup, ev_lst, ev_ix, ev_sl, ev_rv, ev_dnil, ev_dsp, ev_bi, ev_call, ev_pop, ev_popA, ev_comp, ev_isi, te_nt, te_bop, te_cmp, te_chn, te_ife, te_var, te_call, te_bi, te_ix, te_bin, te_isi, te_cst, pk_var, pk_cst, pk_bin, pk_neg, pk_nt, pk_bop, pk_cmp, pk_chn, pk_ife, pk_tup, pk_lst, pk_ix, pk_sl, pk_rv, pk_dnil, pk_dsp, pk_bi, pk_call, pk_pop, pk_popA, pk_comp, pk_isi, rt_var, rt_cst, rt_bin, rt_neg, rt_nt, rt_bop, rt_cmp, rt_chn, rt_ife, rt_tup, rt_lst, rt_ix, rt_sl, rt_rv, rt_dnil, rt_dsp, rt_bi, rt_call, rt_pop, rt_comp, rt_isi, es_nil, es_cons, cs_nil, cs_cons, ps_nil, ps_cons, o_no, o_so, c_no, c_so, i_rg1, i_rg2, i_rg3, i_sq, i_dk, i_en, i_zp, i_rev, get_v, get_s, gets_nil, gets_cons, own_iff, ownd_iff, set_nil, set_cons, o_add, o_adds, o_addl, o_addt, o_sub, o_mul, o_mull, o_multt, o_div, o_mod, o_pow, o_shl, o_shr, o_and, o_or, o_xor, q_eq, q_ne, ek_s, ek_i, ek_b, ek_n, ek_l, ek_t, deq_str, q_lt, q_le, q_gt, q_ge, q_is, q_isn, q_isb, q_isnb, q_inl, q_int, q_nil, q_nit, x_l, x_t, x_s, z_l, z_t, v_l, v_t, f_lenl, f_lent, f_lens, f_abs, f_int, f_intb, f_bool, f_boolb, f_str, f_repr, f_reprB, f_sum, f_max1, f_min1, f_minP, f_max2, f_min2, f_lstl, f_lstt, f_lstd, f_dct, f_sortd, y_d1, y_d2, p_dic, k_dic, f_tupl, f_tupt, f_sorted, f_sortet, f_sset, f_sseu, f_all, f_any, f_gcd, f_lrg1, f_lrg2, f_trg1, f_trg2, t_bl, t_int, t_non, t_lst, t_tup, t_str, List.getElem?_cons_zero, List.getElem?_cons_succ, List.set_cons_zero, List.set_cons_succ, Option.some.injEq, exists_eq_left', exists_eq_left, exists_eq_right, exists_eq_right', cd_sh, cd_ow, D.int.injEq, D.bl.injEq, D.str.injEq, D.tup.injEq, D.lst.injEq, C.ow.injEq, C.sh.injEq, List.cons.injEq, reduceCtorEq, exists_and_left, exists_and_right, exists_const, implies_true, exists_eq, exists_eq', okEq_int, okEq_bl, okEq_non, deq_int, deq_bl, List.length_cons, List.length_nil, Nat.reduceAdd, true_and, and_true, if_true, if_false, decide_eq_true_eq, Bool.true_eq_false, Bool.false_eq_true, false_and, and_false, false_or, or_false, exists_false, and_self, D.hd.injEq, exists_prop, exists_eq_or_imp, Bool.not_eq_true, -Int.reducePow, -Nat.reducePow, isT, Bool.not_true, Bool.not_false, reduceIte, Bool.false_eq_true, Bool.true_eq_false, Bool.or_true, Bool.or_false, Bool.and_true, Bool.and_false, Bool.true_and, Bool.false_and, Bool.true_or, Bool.false_or]
          by_cases hm : m.length = 2
          · match m, hm with
            | [x, y], _ =>
              obtain ⟨p1, p2⟩ := plx2 px
              simp only [ss_nil, st_asg, st_asgT, st_par, st_seti, st_setk, st_app, st_ins, st_ext, st_expr, st_ret, st_iff, st_forr, st_whl, st_pass, st_brk, st_cont, tg_nm, tg_n, tg_c, tg_co, ev_var, ev_cst, ev_bin, ev_neg, ev_nt, ev_bop, ev_cmp, ev_chn, ev_ife, ev_tup, ev_lst, ev_ix, ev_sl, ev_rv, ev_dnil, ev_dsp, ev_bi, ev_call, ev_pop, ev_popA, ev_comp, ev_isi, te_nt, te_bop, te_cmp, te_chn, te_ife, te_var, te_call, te_bi, te_ix, te_bin, te_isi, te_cst, pk_var, pk_cst, pk_bin, pk_neg, pk_nt, pk_bop, pk_cmp, pk_chn, pk_ife, pk_tup, pk_lst, pk_ix, pk_sl, pk_rv, pk_dnil, pk_dsp, pk_bi, pk_call, pk_pop, pk_popA, pk_comp, pk_isi, rt_var, rt_cst, rt_bin, rt_neg, rt_nt, rt_bop, rt_cmp, rt_chn, rt_ife, rt_tup, rt_lst, rt_ix, rt_sl, rt_rv, rt_dnil, rt_dsp, rt_bi, rt_call, rt_pop, rt_comp, rt_isi, es_nil, es_cons, cs_nil, cs_cons, ps_nil, ps_cons, o_no, o_so, c_no, c_so, i_rg1, i_rg2, i_rg3, i_sq, i_dk, i_en, i_zp, i_rev, get_v, get_s, gets_nil, gets_cons, own_iff, ownd_iff, set_nil, set_cons, o_add, o_adds, o_addl, o_addt, o_sub, o_mul, o_mull, o_multt, o_div, o_mod, o_pow, o_shl, o_shr, o_and, o_or, o_xor, q_eq, q_ne, ek_s, ek_i, ek_b, ek_n, ek_l, ek_t, deq_str, q_lt, q_le, q_gt, q_ge, q_is, q_isn, q_isb, q_isnb, q_inl, q_int, q_nil, q_nit, x_l, x_t, x_s, z_l, z_t, v_l, v_t, f_lenl, f_lent, f_lens, f_abs, f_int, f_intb, f_bool, f_boolb, f_str, f_repr, f_reprB, f_sum, f_max1, f_min1, f_minP, f_max2, f_min2, f_lstl, f_lstt, f_lstd, f_dct, f_sortd, y_d1, y_d2, p_dic, k_dic, f_tupl, f_tupt, f_sorted, f_sortet, f_sset, f_sseu, f_all, f_any, f_gcd, f_lrg1, f_lrg2, f_trg1, f_trg2, t_bl, t_int, t_non, t_lst, t_tup, t_str, List.getElem?_cons_zero, List.getElem?_cons_succ, List.set_cons_zero, List.set_cons_succ, Option.some.injEq, exists_eq_left', exists_eq_left, exists_eq_right, exists_eq_right', cd_sh, cd_ow, D.int.injEq, D.bl.injEq, D.str.injEq, D.tup.injEq, D.lst.injEq, C.ow.injEq, C.sh.injEq, List.cons.injEq, reduceCtorEq, exists_and_left, exists_and_right, exists_const, implies_true, exists_eq, exists_eq', okEq_int, okEq_bl, okEq_non, deq_int, deq_bl, List.length_cons, List.length_nil, Nat.reduceAdd, true_and, and_true, if_true, if_false, decide_eq_true_eq, Bool.true_eq_false, Bool.false_eq_true, false_and, and_false, false_or, or_false, exists_false, and_self, D.hd.injEq, exists_prop, exists_eq_or_imp, Bool.not_eq_true, -Int.reducePow, -Nat.reducePow, at0, at1, g23, E60]
              refine if_p (by simp) ⟨pw10 _ (by decide) (by decide), p1, ?_⟩
              rw [rule_2] at bad4 bad6
              refine ifnt (fun hx => bad4 (by rw [hx]; rfl) _ rfl) fun hx => ?_
              unfold b24_5
              (refine go1 ?_; try simp only [ss_nil, st_asg, st_asgT, st_par, st_seti, st_setk, st_app, st_ins, st_ext, st_expr, st_ret, st_iff, st_forr, st_whl, st_pass, st_brk, st_cont, tg_nm, tg_n, tg_c, tg_co, ev_var, ev_cst, ev_bin, ev_neg, ev_nt, ev_bop, ev_cmp, ev_chn, ev_ife, ev_tup, ev_lst, ev_ix, ev_sl, ev_rv, ev_dnil, ev_dsp, ev_bi, ev_call, ev_pop, ev_popA, ev_comp, ev_isi, te_nt, te_bop, te_cmp, te_chn, te_ife, te_var, te_call, te_bi, te_ix, te_bin, te_isi, te_cst, pk_var, pk_cst, pk_bin, pk_neg, pk_nt, pk_bop, pk_cmp, pk_chn, pk_ife, pk_tup, pk_lst, pk_ix, pk_sl, pk_rv, pk_dnil, pk_dsp, pk_bi, pk_call, pk_pop, pk_popA, pk_comp, pk_isi, rt_var, rt_cst, rt_bin, rt_neg, rt_nt, rt_bop, rt_cmp, rt_chn, rt_ife, rt_tup, rt_lst, rt_ix, rt_sl, rt_rv, rt_dnil, rt_dsp, rt_bi, rt_call, rt_pop, rt_comp, rt_isi, es_nil, es_cons, cs_nil, cs_cons, ps_nil, ps_cons, o_no, o_so, c_no, c_so, i_rg1, i_rg2, i_rg3, i_sq, i_dk, i_en, i_zp, i_rev, get_v, get_s, gets_nil, gets_cons, own_iff, ownd_iff, set_nil, set_cons, o_add, o_adds, o_addl, o_addt, o_sub, o_mul, o_mull, o_multt, o_div, o_mod, o_pow, o_shl, o_shr, o_and, o_or, o_xor, q_eq, q_ne, ek_s, ek_i, ek_b, ek_n, ek_l, ek_t, deq_str, q_lt, q_le, q_gt, q_ge, q_is, q_isn, q_isb, q_isnb, q_inl, q_int, q_nil, q_nit, x_l, x_t, x_s, z_l, z_t, v_l, v_t, f_lenl, f_lent, f_lens, f_abs, f_int, f_intb, f_bool, f_boolb, f_str, f_repr, f_reprB, f_sum, f_max1, f_min1, f_minP, f_max2, f_min2, f_lstl, f_lstt, f_lstd, f_dct, f_sortd, y_d1, y_d2, p_dic, k_dic, f_tupl, f_tupt, f_sorted, f_sortet, f_sset, f_sseu, f_all, f_any, f_gcd, f_lrg1, f_lrg2, f_trg1, f_trg2, t_bl, t_int, t_non, t_lst, t_tup, t_str, List.getElem?_cons_zero, List.getElem?_cons_succ, List.set_cons_zero, List.set_cons_succ, Option.some.injEq, exists_eq_left', exists_eq_left, exists_eq_right, exists_eq_right', cd_sh, cd_ow, D.int.injEq, D.bl.injEq, D.str.injEq, D.tup.injEq, D.lst.injEq, C.ow.injEq, C.sh.injEq, List.cons.injEq, reduceCtorEq, exists_and_left, exists_and_right, exists_const, implies_true, exists_eq, exists_eq', okEq_int, okEq_bl, okEq_non, deq_int, deq_bl, List.length_cons, List.length_nil, Nat.reduceAdd, true_and, and_true, if_true, if_false, decide_eq_true_eq, Bool.true_eq_false, Bool.false_eq_true, false_and, and_false, false_or, or_false, exists_false, and_self, D.hd.injEq, exists_prop, exists_eq_or_imp, Bool.not_eq_true, -Int.reducePow, -Nat.reducePow, at0, at1, g23, E60])
              refine ⟨pw10 _ (by decide) (by decide), p2, ifnf (fun hy => ?_) fun hy => bad6 (by rw [hx, hy]; rfl) _ rfl⟩
              obtain ⟨s, rfl, s0, s1⟩ := whole_int hy
              simp only [ss_nil, st_asg, st_asgT, st_par, st_seti, st_setk, st_app, st_ins, st_ext, st_expr, st_ret, st_iff, st_forr, st_whl, st_pass, st_brk, st_cont, tg_nm, tg_n, tg_c, tg_co, ev_var, ev_cst, ev_bin, ev_neg, ev_nt, ev_bop, ev_cmp, ev_chn, ev_ife, ev_tup, ev_lst, ev_ix, ev_sl, ev_rv, ev_dnil, ev_dsp, ev_bi, ev_call, ev_pop, ev_popA, ev_comp, ev_isi, te_nt, te_bop, te_cmp, te_chn, te_ife, te_var, te_call, te_bi, te_ix, te_bin, te_isi, te_cst, pk_var, pk_cst, pk_bin, pk_neg, pk_nt, pk_bop, pk_cmp, pk_chn, pk_ife, pk_tup, pk_lst, pk_ix, pk_sl, pk_rv, pk_dnil, pk_dsp, pk_bi, pk_call, pk_pop, pk_popA, pk_comp, pk_isi, rt_var, rt_cst, rt_bin, rt_neg, rt_nt, rt_bop, rt_cmp, rt_chn, rt_ife, rt_tup, rt_lst, rt_ix, rt_sl, rt_rv, rt_dnil, rt_dsp, rt_bi, rt_call, rt_pop, rt_comp, rt_isi, es_nil, es_cons, cs_nil, cs_cons, ps_nil, ps_cons, o_no, o_so, c_no, c_so, i_rg1, i_rg2, i_rg3, i_sq, i_dk, i_en, i_zp, i_rev, get_v, get_s, gets_nil, gets_cons, own_iff, ownd_iff, set_nil, set_cons, o_add, o_adds, o_addl, o_addt, o_sub, o_mul, o_mull, o_multt, o_div, o_mod, o_pow, o_shl, o_shr, o_and, o_or, o_xor, q_eq, q_ne, ek_s, ek_i, ek_b, ek_n, ek_l, ek_t, deq_str, q_lt, q_le, q_gt, q_ge, q_is, q_isn, q_isb, q_isnb, q_inl, q_int, q_nil, q_nit, x_l, x_t, x_s, z_l, z_t, v_l, v_t, f_lenl, f_lent, f_lens, f_abs, f_int, f_intb, f_bool, f_boolb, f_str, f_repr, f_reprB, f_sum, f_max1, f_min1, f_minP, f_max2, f_min2, f_lstl, f_lstt, f_lstd, f_dct, f_sortd, y_d1, y_d2, p_dic, k_dic, f_tupl, f_tupt, f_sorted, f_sortet, f_sset, f_sseu, f_all, f_any, f_gcd, f_lrg1, f_lrg2, f_trg1, f_trg2, t_bl, t_int, t_non, t_lst, t_tup, t_str, List.getElem?_cons_zero, List.getElem?_cons_succ, List.set_cons_zero, List.set_cons_succ, Option.some.injEq, exists_eq_left', exists_eq_left, exists_eq_right, exists_eq_right', cd_sh, cd_ow, D.int.injEq, D.bl.injEq, D.str.injEq, D.tup.injEq, D.lst.injEq, C.ow.injEq, C.sh.injEq, List.cons.injEq, reduceCtorEq, exists_and_left, exists_and_right, exists_const, implies_true, exists_eq, exists_eq', okEq_int, okEq_bl, okEq_non, deq_int, deq_bl, List.length_cons, List.length_nil, Nat.reduceAdd, true_and, and_true, if_true, if_false, decide_eq_true_eq, Bool.true_eq_false, Bool.false_eq_true, false_and, and_false, false_or, or_false, exists_false, and_self, D.hd.injEq, exists_prop, exists_eq_or_imp, Bool.not_eq_true, -Int.reducePow, -Nat.reducePow]
              by_cases c : s = 1
              · exact if_p c (bad6 (by rw [hx, hy]; show (true && (true && !decide (s = 1))) = false; rw [decide_eq_true c]; rfl) _ rfl)
              · refine if_q c ⟨_, _, up_succ hu hgx ?_, rfl⟩
                rw [rule_2, hx, hy]
                show (true && (true && !decide (s = 1))) = true
                rw [decide_eq_false c]
                rfl
          · refine if_q (by simp; omega) ?_
            exact if_p (by simp; omega) (bad4 (rule_len hm) _ rfl)
        | _ => exact bad4 rfl _ rfl
      · subst he
        rw [enumD_len, Nat.zero_add] at hu
        have hr := up_all hu
        rw [up_end hu] at q
        dsimp only at q
        unfold b24_7
        (refine go1 ?_; try simp only [ss_nil, st_asg, st_asgT, st_par, st_seti, st_setk, st_app, st_ins, st_ext, st_expr, st_ret, st_iff, st_forr, st_whl, st_pass, st_brk, st_cont, tg_nm, tg_n, tg_c, tg_co, ev_var, ev_cst, ev_bin, ev_neg, ev_nt, ev_bop, ev_cmp, ev_chn, ev_ife, ev_tup, ev_lst, ev_ix, ev_sl, ev_rv, ev_dnil, ev_dsp, ev_bi, ev_call, ev_pop, ev_popA, ev_comp, ev_isi, te_nt, te_bop, te_cmp, te_chn, te_ife, te_var, te_call, te_bi, te_ix, te_bin, te_isi, te_cst, pk_var, pk_cst, pk_bin, pk_neg, pk_nt, pk_bop, pk_cmp, pk_chn, pk_ife, pk_tup, pk_lst, pk_ix, pk_sl, pk_rv, pk_dnil, pk_dsp, pk_bi, pk_call, pk_pop, pk_popA, pk_comp, pk_isi, rt_var, rt_cst, rt_bin, rt_neg, rt_nt, rt_bop, rt_cmp, rt_chn, rt_ife, rt_tup, rt_lst, rt_ix, rt_sl, rt_rv, rt_dnil, rt_dsp, rt_bi, rt_call, rt_pop, rt_comp, rt_isi, es_nil, es_cons, cs_nil, cs_cons, ps_nil, ps_cons, o_no, o_so, c_no, c_so, i_rg1, i_rg2, i_rg3, i_sq, i_dk, i_en, i_zp, i_rev, get_v, get_s, gets_nil, gets_cons, own_iff, ownd_iff, set_nil, set_cons, o_add, o_adds, o_addl, o_addt, o_sub, o_mul, o_mull, o_multt, o_div, o_mod, o_pow, o_shl, o_shr, o_and, o_or, o_xor, q_eq, q_ne, ek_s, ek_i, ek_b, ek_n, ek_l, ek_t, deq_str, q_lt, q_le, q_gt, q_ge, q_is, q_isn, q_isb, q_isnb, q_inl, q_int, q_nil, q_nit, x_l, x_t, x_s, z_l, z_t, v_l, v_t, f_lenl, f_lent, f_lens, f_abs, f_int, f_intb, f_bool, f_boolb, f_str, f_repr, f_reprB, f_sum, f_max1, f_min1, f_minP, f_max2, f_min2, f_lstl, f_lstt, f_lstd, f_dct, f_sortd, y_d1, y_d2, p_dic, k_dic, f_tupl, f_tupt, f_sorted, f_sortet, f_sset, f_sseu, f_all, f_any, f_gcd, f_lrg1, f_lrg2, f_trg1, f_trg2, t_bl, t_int, t_non, t_lst, t_tup, t_str, List.getElem?_cons_zero, List.getElem?_cons_succ, List.set_cons_zero, List.set_cons_succ, Option.some.injEq, exists_eq_left', exists_eq_left, exists_eq_right, exists_eq_right', cd_sh, cd_ow, D.int.injEq, D.bl.injEq, D.str.injEq, D.tup.injEq, D.lst.injEq, C.ow.injEq, C.sh.injEq, List.cons.injEq, reduceCtorEq, exists_and_left, exists_and_right, exists_const, implies_true, exists_eq, exists_eq', okEq_int, okEq_bl, okEq_non, deq_int, deq_bl, List.length_cons, List.length_nil, Nat.reduceAdd, true_and, and_true, if_true, if_false, decide_eq_true_eq, Bool.true_eq_false, Bool.false_eq_true, false_and, and_false, false_or, or_false, exists_false, and_self, D.hd.injEq, exists_prop, exists_eq_or_imp, Bool.not_eq_true, -Int.reducePow, -Nat.reducePow, E60])
        refine lc_filt gam_ok (fun d => decide (0 < stp d)) (fun d => .int (stp d)) rfl _ (fun d hd => ?_) ?_
        · obtain ⟨⟨b, s, rfl, _, s0, s1⟩, _⟩ := rule_of (hr d hd)
          simp only [ss_cons, ss_nil, st_asg, st_asgT, st_par, st_seti, st_setk, st_app, st_ins, st_ext, st_expr, st_ret, st_iff, st_forr, st_whl, st_pass, st_brk, st_cont, tg_nm, tg_n, tg_c, tg_co, ev_var, ev_cst, ev_bin, ev_neg, ev_nt, ev_bop, ev_cmp, ev_chn, ev_ife, ev_tup, ev_lst, ev_ix, ev_sl, ev_rv, ev_dnil, ev_dsp, ev_bi, ev_call, ev_pop, ev_popA, ev_comp, ev_isi, te_nt, te_bop, te_cmp, te_chn, te_ife, te_var, te_call, te_bi, te_ix, te_bin, te_isi, te_cst, pk_var, pk_cst, pk_bin, pk_neg, pk_nt, pk_bop, pk_cmp, pk_chn, pk_ife, pk_tup, pk_lst, pk_ix, pk_sl, pk_rv, pk_dnil, pk_dsp, pk_bi, pk_call, pk_pop, pk_popA, pk_comp, pk_isi, rt_var, rt_cst, rt_bin, rt_neg, rt_nt, rt_bop, rt_cmp, rt_chn, rt_ife, rt_tup, rt_lst, rt_ix, rt_sl, rt_rv, rt_dnil, rt_dsp, rt_bi, rt_call, rt_pop, rt_comp, rt_isi, es_nil, es_cons, cs_nil, cs_cons, ps_nil, ps_cons, o_no, o_so, c_no, c_so, i_rg1, i_rg2, i_rg3, i_sq, i_dk, i_en, i_zp, i_rev, get_v, get_s, gets_nil, gets_cons, own_iff, ownd_iff, set_nil, set_cons, o_add, o_adds, o_addl, o_addt, o_sub, o_mul, o_mull, o_multt, o_div, o_mod, o_pow, o_shl, o_shr, o_and, o_or, o_xor, q_eq, q_ne, ek_s, ek_i, ek_b, ek_n, ek_l, ek_t, deq_str, q_lt, q_le, q_gt, q_ge, q_is, q_isn, q_isb, q_isnb, q_inl, q_int, q_nil, q_nit, x_l, x_t, x_s, z_l, z_t, v_l, v_t, f_lenl, f_lent, f_lens, f_abs, f_int, f_intb, f_bool, f_boolb, f_str, f_repr, f_reprB, f_sum, f_max1, f_min1, f_minP, f_max2, f_min2, f_lstl, f_lstt, f_lstd, f_dct, f_sortd, y_d1, y_d2, p_dic, k_dic, f_tupl, f_tupt, f_sorted, f_sortet, f_sset, f_sseu, f_all, f_any, f_gcd, f_lrg1, f_lrg2, f_trg1, f_trg2, t_bl, t_int, t_non, t_lst, t_tup, t_str, List.getElem?_cons_zero, List.getElem?_cons_succ, List.set_cons_zero, List.set_cons_succ, Option.some.injEq, exists_eq_left', exists_eq_left, exists_eq_right, exists_eq_right', cd_sh, cd_ow, D.int.injEq, D.bl.injEq, D.str.injEq, D.tup.injEq, D.lst.injEq, C.ow.injEq, C.sh.injEq, List.cons.injEq, reduceCtorEq, exists_and_left, exists_and_right, exists_const, implies_true, exists_eq, exists_eq', okEq_int, okEq_bl, okEq_non, deq_int, deq_bl, List.length_cons, List.length_nil, Nat.reduceAdd, true_and, and_true, if_true, if_false, decide_eq_true_eq, Bool.true_eq_false, Bool.false_eq_true, false_and, and_false, false_or, or_false, exists_false, and_self, D.hd.injEq, exists_prop, exists_eq_or_imp, Bool.not_eq_true, -Int.reducePow, -Nat.reducePow, wipeE, stp]
          exact ⟨rfl, ite_tt⟩
        simp only [ss_nil, st_asg, st_asgT, st_par, st_seti, st_setk, st_app, st_ins, st_ext, st_expr, st_ret, st_iff, st_forr, st_whl, st_pass, st_brk, st_cont, tg_nm, tg_n, tg_c, tg_co, ev_var, ev_cst, ev_bin, ev_neg, ev_nt, ev_bop, ev_cmp, ev_chn, ev_ife, ev_tup, ev_lst, ev_ix, ev_sl, ev_rv, ev_dnil, ev_dsp, ev_bi, ev_call, ev_pop, ev_popA, ev_comp, ev_isi, te_nt, te_bop, te_cmp, te_chn, te_ife, te_var, te_call, te_bi, te_ix, te_bin, te_isi, te_cst, pk_var, pk_cst, pk_bin, pk_neg, pk_nt, pk_bop, pk_cmp, pk_chn, pk_ife, pk_tup, pk_lst, pk_ix, pk_sl, pk_rv, pk_dnil, pk_dsp, pk_bi, pk_call, pk_pop, pk_popA, pk_comp, pk_isi, rt_var, rt_cst, rt_bin, rt_neg, rt_nt, rt_bop, rt_cmp, rt_chn, rt_ife, rt_tup, rt_lst, rt_ix, rt_sl, rt_rv, rt_dnil, rt_dsp, rt_bi, rt_call, rt_pop, rt_comp, rt_isi, es_nil, es_cons, cs_nil, cs_cons, ps_nil, ps_cons, o_no, o_so, c_no, c_so, i_rg1, i_rg2, i_rg3, i_sq, i_dk, i_en, i_zp, i_rev, get_v, get_s, gets_nil, gets_cons, own_iff, ownd_iff, set_nil, set_cons, o_add, o_adds, o_addl, o_addt, o_sub, o_mul, o_mull, o_multt, o_div, o_mod, o_pow, o_shl, o_shr, o_and, o_or, o_xor, q_eq, q_ne, ek_s, ek_i, ek_b, ek_n, ek_l, ek_t, deq_str, q_lt, q_le, q_gt, q_ge, q_is, q_isn, q_isb, q_isnb, q_inl, q_int, q_nil, q_nit, x_l, x_t, x_s, z_l, z_t, v_l, v_t, f_lenl, f_lent, f_lens, f_abs, f_int, f_intb, f_bool, f_boolb, f_str, f_repr, f_reprB, f_sum, f_max1, f_min1, f_minP, f_max2, f_min2, f_lstl, f_lstt, f_lstd, f_dct, f_sortd, y_d1, y_d2, p_dic, k_dic, f_tupl, f_tupt, f_sorted, f_sortet, f_sset, f_sseu, f_all, f_any, f_gcd, f_lrg1, f_lrg2, f_trg1, f_trg2, t_bl, t_int, t_non, t_lst, t_tup, t_str, List.getElem?_cons_zero, List.getElem?_cons_succ, List.set_cons_zero, List.set_cons_succ, Option.some.injEq, exists_eq_left', exists_eq_left, exists_eq_right, exists_eq_right', cd_sh, cd_ow, D.int.injEq, D.bl.injEq, D.str.injEq, D.tup.injEq, D.lst.injEq, C.ow.injEq, C.sh.injEq, List.cons.injEq, reduceCtorEq, exists_and_left, exists_and_right, exists_const, implies_true, exists_eq, exists_eq', okEq_int, okEq_bl, okEq_non, deq_int, deq_bl, List.length_cons, List.length_nil, Nat.reduceAdd, true_and, and_true, if_true, if_false, decide_eq_true_eq, Bool.true_eq_false, Bool.false_eq_true, false_and, and_false, false_or, or_false, exists_false, and_self, D.hd.injEq, exists_prop, exists_eq_or_imp, Bool.not_eq_true, -Int.reducePow, -Nat.reducePow]
        have es : (l.filter fun d => decide (0 < stp d)).map (fun d => D.int (stp d)) = (stps l).map D.int := by
          unfold stps
          rw [List.filter_map, List.map_map]
          have : l.filter (fun d => decide (0 < stp d)) = l.filter ((fun s => decide (s ≠ 0)) ∘ stp) := List.filter_congr fun d hd => by
            obtain ⟨⟨b, s, rfl, _, s0, s1⟩, _⟩ := rule_of (hr d hd)
            show decide (0 < s) = decide (s ≠ 0)
            rw [decide_eq_decide]
            omega
          rw [this]
          rfl
        rw [es]
        refine i18 (Nat.le_trans (stps_len l) hl) (stps_pos hr) ?_
        simp only [ss_nil, st_asg, st_asgT, st_par, st_seti, st_setk, st_app, st_ins, st_ext, st_expr, st_ret, st_iff, st_forr, st_whl, st_pass, st_brk, st_cont, tg_nm, tg_n, tg_c, tg_co, ev_var, ev_cst, ev_bin, ev_neg, ev_nt, ev_bop, ev_cmp, ev_chn, ev_ife, ev_tup, ev_lst, ev_ix, ev_sl, ev_rv, ev_dnil, ev_dsp, ev_bi, ev_call, ev_pop, ev_popA, ev_comp, ev_isi, te_nt, te_bop, te_cmp, te_chn, te_ife, te_var, te_call, te_bi, te_ix, te_bin, te_isi, te_cst, pk_var, pk_cst, pk_bin, pk_neg, pk_nt, pk_bop, pk_cmp, pk_chn, pk_ife, pk_tup, pk_lst, pk_ix, pk_sl, pk_rv, pk_dnil, pk_dsp, pk_bi, pk_call, pk_pop, pk_popA, pk_comp, pk_isi, rt_var, rt_cst, rt_bin, rt_neg, rt_nt, rt_bop, rt_cmp, rt_chn, rt_ife, rt_tup, rt_lst, rt_ix, rt_sl, rt_rv, rt_dnil, rt_dsp, rt_bi, rt_call, rt_pop, rt_comp, rt_isi, es_nil, es_cons, cs_nil, cs_cons, ps_nil, ps_cons, o_no, o_so, c_no, c_so, i_rg1, i_rg2, i_rg3, i_sq, i_dk, i_en, i_zp, i_rev, get_v, get_s, gets_nil, gets_cons, own_iff, ownd_iff, set_nil, set_cons, o_add, o_adds, o_addl, o_addt, o_sub, o_mul, o_mull, o_multt, o_div, o_mod, o_pow, o_shl, o_shr, o_and, o_or, o_xor, q_eq, q_ne, ek_s, ek_i, ek_b, ek_n, ek_l, ek_t, deq_str, q_lt, q_le, q_gt, q_ge, q_is, q_isn, q_isb, q_isnb, q_inl, q_int, q_nil, q_nit, x_l, x_t, x_s, z_l, z_t, v_l, v_t, f_lenl, f_lent, f_lens, f_abs, f_int, f_intb, f_bool, f_boolb, f_str, f_repr, f_reprB, f_sum, f_max1, f_min1, f_minP, f_max2, f_min2, f_lstl, f_lstt, f_lstd, f_dct, f_sortd, y_d1, y_d2, p_dic, k_dic, f_tupl, f_tupt, f_sorted, f_sortet, f_sset, f_sseu, f_all, f_any, f_gcd, f_lrg1, f_lrg2, f_trg1, f_trg2, t_bl, t_int, t_non, t_lst, t_tup, t_str, List.getElem?_cons_zero, List.getElem?_cons_succ, List.set_cons_zero, List.set_cons_succ, Option.some.injEq, exists_eq_left', exists_eq_left, exists_eq_right, exists_eq_right', cd_sh, cd_ow, D.int.injEq, D.bl.injEq, D.str.injEq, D.tup.injEq, D.lst.injEq, C.ow.injEq, C.sh.injEq, List.cons.injEq, reduceCtorEq, exists_and_left, exists_and_right, exists_const, implies_true, exists_eq, exists_eq', okEq_int, okEq_bl, okEq_non, deq_int, deq_bl, List.length_cons, List.length_nil, Nat.reduceAdd, true_and, and_true, if_true, if_false, decide_eq_true_eq, Bool.true_eq_false, Bool.false_eq_true, false_and, and_false, false_or, or_false, exists_false, and_self, D.hd.injEq, exists_prop, exists_eq_or_imp, Bool.not_eq_true, -Int.reducePow, -Nat.reducePow]
        refine ⟨pw10 _ (by decide) (by decide), ?_⟩
        by_cases c : M60 < lcmF (stps l)
        · rw [if_pos c] at q
          exact if_p c q
        · rw [if_neg c] at q
          exact if_q c q
    · exact if_p (by omega) (bad (if_neg hl) _)
  | _ => exact bad rfl _

theorem at60 {x : Int} (h : -M60 - 1 ≤ x) (h1 : x ≤ M60 + 1) : At (.int x) := at_i (by
  have : M60 + 1 < 2 ^ 200 := by decide +kernel
  have h2 : x.natAbs < 2 ^ 200 := abs_lt (by omega) (by omega)
  exact Nat.lt_of_lt_of_le h2 (Nat.pow_le_pow_right (by decide) (by decide)))
theorem pr_sn {a b : D} (ha : At a) (hb : At b) : Sn 430 1 (.tup [a, b]) := (sn_row (l := [a, b]) (Nat.le_refl 2) (all_c ha (all_c hb all_n))).1.up (by decide) (by decide)
theorem log200 {x : Int} (h : 0 ≤ x) (h1 : x ≤ M60) : x.natAbs.log2 < 1920 := Nat.lt_of_lt_of_le (PySem.Flt.log2_lt_of (by decide) (abs200 h h1)) (by decide)
theorem t25 (r : D) (Q : C → Prop) (hr : Rl r) (q : ∀ d, Tw d → Q (.sh d)) : Bd b25 [some (.sh (.hd 0)), some (.sh r), none, none, none] Q := by
  obtain ⟨b, s, rfl, ⟨b0, b1⟩, s0, s1⟩ := hr
  have hb : At (.int b) := at60 (by have : 0 ≤ M60 := by decide +kernel
                                    omega) (by omega)
  have hs : At (.int s) := at60 (by have : 0 ≤ M60 := by decide +kernel
                                    omega) (by omega)
  have hnb : At (.int (-b)) := at60 (by omega) (by omega)
  have hns : At (.int (-s)) := at60 (by omega) (by omega)
  have lb := log200 b0 b1
  have st : Tw (.tup [.str (toString b), .int s]) := (sn_row (l := [.str (toString b), .int s]) (j := 2) (Nat.le_refl 2) (all_c ((sn_toS (abs200 b0 b1) (by decide) (by decide)).up (n := 2100) (by decide) (Nat.le_refl 0)) (all_c (hs.up (by decide) (by decide)) all_n))).1.up (by decide) (by decide)
  unfold Bd b25
  (refine go1 ?_; try simp only [ss_nil, st_asg, st_asgT, st_par, st_seti, st_setk, st_app, st_ins, st_ext, st_expr, st_ret, st_iff, st_forr, st_whl, st_pass, st_brk, st_cont, tg_nm, tg_n, tg_c, tg_co, ev_var, ev_cst, ev_bin, ev_neg, ev_nt, ev_bop, ev_cmp, ev_chn, ev_ife, ev_tup, ev_lst, ev_ix, ev_sl, ev_rv, ev_dnil, ev_dsp, ev_bi, ev_call, ev_pop, ev_popA, ev_comp, ev_isi, te_nt, te_bop, te_cmp, te_chn, te_ife, te_var, te_call, te_bi, te_ix, te_bin, te_isi, te_cst, pk_var, pk_cst, pk_bin, pk_neg, pk_nt, pk_bop, pk_cmp, pk_chn, pk_ife, pk_tup, pk_lst, pk_ix, pk_sl, pk_rv, pk_dnil, pk_dsp, pk_bi, pk_call, pk_pop, pk_popA, pk_comp, pk_isi, rt_var, rt_cst, rt_bin, rt_neg, rt_nt, rt_bop, rt_cmp, rt_chn, rt_ife, rt_tup, rt_lst, rt_ix, rt_sl, rt_rv, rt_dnil, rt_dsp, rt_bi, rt_call, rt_pop, rt_comp, rt_isi, es_nil, es_cons, cs_nil, cs_cons, ps_nil, ps_cons, o_no, o_so, c_no, c_so, i_rg1, i_rg2, i_rg3, i_sq, i_dk, i_en, i_zp, i_rev, get_v, get_s, gets_nil, gets_cons, own_iff, ownd_iff, set_nil, set_cons, o_add, o_adds, o_addl, o_addt, o_sub, o_mul, o_mull, o_multt, o_div, o_mod, o_pow, o_shl, o_shr, o_and, o_or, o_xor, q_eq, q_ne, ek_s, ek_i, ek_b, ek_n, ek_l, ek_t, deq_str, q_lt, q_le, q_gt, q_ge, q_is, q_isn, q_isb, q_isnb, q_inl, q_int, q_nil, q_nit, x_l, x_t, x_s, z_l, z_t, v_l, v_t, f_lenl, f_lent, f_lens, f_abs, f_int, f_intb, f_bool, f_boolb, f_str, f_repr, f_reprB, f_sum, f_max1, f_min1, f_minP, f_max2, f_min2, f_lstl, f_lstt, f_lstd, f_dct, f_sortd, y_d1, y_d2, p_dic, k_dic, f_tupl, f_tupt, f_sorted, f_sortet, f_sset, f_sseu, f_all, f_any, f_gcd, f_lrg1, f_lrg2, f_trg1, f_trg2, t_bl, t_int, t_non, t_lst, t_tup, t_str, List.getElem?_cons_zero, List.getElem?_cons_succ, List.set_cons_zero, List.set_cons_succ, Option.some.injEq, exists_eq_left', exists_eq_left, exists_eq_right, exists_eq_right', cd_sh, cd_ow, D.int.injEq, D.bl.injEq, D.str.injEq, D.tup.injEq, D.lst.injEq, C.ow.injEq, C.sh.injEq, List.cons.injEq, reduceCtorEq, exists_and_left, exists_and_right, exists_const, implies_true, exists_eq, exists_eq', okEq_int, okEq_bl, okEq_non, deq_int, deq_bl, List.length_cons, List.length_nil, Nat.reduceAdd, true_and, and_true, if_true, if_false, decide_eq_true_eq, Bool.true_eq_false, Bool.false_eq_true, false_and, and_false, false_or, or_false, exists_false, and_self, D.hd.injEq, exists_prop, exists_eq_or_imp, Bool.not_eq_true, -Int.reducePow, -Nat.reducePow])
  unfold b25_1
  (refine go1 ?_; try simp only [ss_nil, st_asg, st_asgT, st_par, st_seti, st_setk, st_app, st_ins, st_ext, st_expr, st_ret, st_iff, st_forr, st_whl, st_pass, st_brk, st_cont, tg_nm, tg_n, tg_c, tg_co, ev_var, ev_cst, ev_bin, ev_neg, ev_nt, ev_bop, ev_cmp, ev_chn, ev_ife, ev_tup, ev_lst, ev_ix, ev_sl, ev_rv, ev_dnil, ev_dsp, ev_bi, ev_call, ev_pop, ev_popA, ev_comp, ev_isi, te_nt, te_bop, te_cmp, te_chn, te_ife, te_var, te_call, te_bi, te_ix, te_bin, te_isi, te_cst, pk_var, pk_cst, pk_bin, pk_neg, pk_nt, pk_bop, pk_cmp, pk_chn, pk_ife, pk_tup, pk_lst, pk_ix, pk_sl, pk_rv, pk_dnil, pk_dsp, pk_bi, pk_call, pk_pop, pk_popA, pk_comp, pk_isi, rt_var, rt_cst, rt_bin, rt_neg, rt_nt, rt_bop, rt_cmp, rt_chn, rt_ife, rt_tup, rt_lst, rt_ix, rt_sl, rt_rv, rt_dnil, rt_dsp, rt_bi, rt_call, rt_pop, rt_comp, rt_isi, es_nil, es_cons, cs_nil, cs_cons, ps_nil, ps_cons, o_no, o_so, c_no, c_so, i_rg1, i_rg2, i_rg3, i_sq, i_dk, i_en, i_zp, i_rev, get_v, get_s, gets_nil, gets_cons, own_iff, ownd_iff, set_nil, set_cons, o_add, o_adds, o_addl, o_addt, o_sub, o_mul, o_mull, o_multt, o_div, o_mod, o_pow, o_shl, o_shr, o_and, o_or, o_xor, q_eq, q_ne, ek_s, ek_i, ek_b, ek_n, ek_l, ek_t, deq_str, q_lt, q_le, q_gt, q_ge, q_is, q_isn, q_isb, q_isnb, q_inl, q_int, q_nil, q_nit, x_l, x_t, x_s, z_l, z_t, v_l, v_t, f_lenl, f_lent, f_lens, f_abs, f_int, f_intb, f_bool, f_boolb, f_str, f_repr, f_reprB, f_sum, f_max1, f_min1, f_minP, f_max2, f_min2, f_lstl, f_lstt, f_lstd, f_dct, f_sortd, y_d1, y_d2, p_dic, k_dic, f_tupl, f_tupt, f_sorted, f_sortet, f_sset, f_sseu, f_all, f_any, f_gcd, f_lrg1, f_lrg2, f_trg1, f_trg2, t_bl, t_int, t_non, t_lst, t_tup, t_str, List.getElem?_cons_zero, List.getElem?_cons_succ, List.set_cons_zero, List.set_cons_succ, Option.some.injEq, exists_eq_left', exists_eq_left, exists_eq_right, exists_eq_right', cd_sh, cd_ow, D.int.injEq, D.bl.injEq, D.str.injEq, D.tup.injEq, D.lst.injEq, C.ow.injEq, C.sh.injEq, List.cons.injEq, reduceCtorEq, exists_and_left, exists_and_right, exists_const, implies_true, exists_eq, exists_eq', okEq_int, okEq_bl, okEq_non, deq_int, deq_bl, List.length_cons, List.length_nil, Nat.reduceAdd, true_and, and_true, if_true, if_false, decide_eq_true_eq, Bool.true_eq_false, Bool.false_eq_true, false_and, and_false, false_or, or_false, exists_false, and_self, D.hd.injEq, exists_prop, exists_eq_or_imp, Bool.not_eq_true, -Int.reducePow, -Nat.reducePow, E60])
  (repeat (refine ⟨by first | assumption | exact s1000 _ (by decide) | exact mul_l (by decide) | exact pw10 _ (by decide) (by decide) | exact s1000 _ (by simp only [List.length_append, List.length_cons, List.length_nil]; omega) | exact ⟨by simp only [List.length_append, List.length_cons, List.length_nil]; omega, by simp only [List.length_append, List.length_cons, List.length_nil]; omega⟩, ?_⟩))
  unfold b25_2
  (refine go1 ?_; try simp only [ss_nil, st_asg, st_asgT, st_par, st_seti, st_setk, st_app, st_ins, st_ext, st_expr, st_ret, st_iff, st_forr, st_whl, st_pass, st_brk, st_cont, tg_nm, tg_n, tg_c, tg_co, ev_var, ev_cst, ev_bin, ev_neg, ev_nt, ev_bop, ev_cmp, ev_chn, ev_ife, ev_tup, ev_lst, ev_ix, ev_sl, ev_rv, ev_dnil, ev_dsp, ev_bi, ev_call, ev_pop, ev_popA, ev_comp, ev_isi, te_nt, te_bop, te_cmp, te_chn, te_ife, te_var, te_call, te_bi, te_ix, te_bin, te_isi, te_cst, pk_var, pk_cst, pk_bin, pk_neg, pk_nt, pk_bop, pk_cmp, pk_chn, pk_ife, pk_tup, pk_lst, pk_ix, pk_sl, pk_rv, pk_dnil, pk_dsp, pk_bi, pk_call, pk_pop, pk_popA, pk_comp, pk_isi, rt_var, rt_cst, rt_bin, rt_neg, rt_nt, rt_bop, rt_cmp, rt_chn, rt_ife, rt_tup, rt_lst, rt_ix, rt_sl, rt_rv, rt_dnil, rt_dsp, rt_bi, rt_call, rt_pop, rt_comp, rt_isi, es_nil, es_cons, cs_nil, cs_cons, ps_nil, ps_cons, o_no, o_so, c_no, c_so, i_rg1, i_rg2, i_rg3, i_sq, i_dk, i_en, i_zp, i_rev, get_v, get_s, gets_nil, gets_cons, own_iff, ownd_iff, set_nil, set_cons, o_add, o_adds, o_addl, o_addt, o_sub, o_mul, o_mull, o_multt, o_div, o_mod, o_pow, o_shl, o_shr, o_and, o_or, o_xor, q_eq, q_ne, ek_s, ek_i, ek_b, ek_n, ek_l, ek_t, deq_str, q_lt, q_le, q_gt, q_ge, q_is, q_isn, q_isb, q_isnb, q_inl, q_int, q_nil, q_nit, x_l, x_t, x_s, z_l, z_t, v_l, v_t, f_lenl, f_lent, f_lens, f_abs, f_int, f_intb, f_bool, f_boolb, f_str, f_repr, f_reprB, f_sum, f_max1, f_min1, f_minP, f_max2, f_min2, f_lstl, f_lstt, f_lstd, f_dct, f_sortd, y_d1, y_d2, p_dic, k_dic, f_tupl, f_tupt, f_sorted, f_sortet, f_sset, f_sseu, f_all, f_any, f_gcd, f_lrg1, f_lrg2, f_trg1, f_trg2, t_bl, t_int, t_non, t_lst, t_tup, t_str, List.getElem?_cons_zero, List.getElem?_cons_succ, List.set_cons_zero, List.set_cons_succ, Option.some.injEq, exists_eq_left', exists_eq_left, exists_eq_right, exists_eq_right', cd_sh, cd_ow, D.int.injEq, D.bl.injEq, D.str.injEq, D.tup.injEq, D.lst.injEq, C.ow.injEq, C.sh.injEq, List.cons.injEq, reduceCtorEq, exists_and_left, exists_and_right, exists_const, implies_true, exists_eq, exists_eq', okEq_int, okEq_bl, okEq_non, deq_int, deq_bl, List.length_cons, List.length_nil, Nat.reduceAdd, true_and, and_true, if_true, if_false, decide_eq_true_eq, Bool.true_eq_false, Bool.false_eq_true, false_and, and_false, false_or, or_false, exists_false, and_self, D.hd.injEq, exists_prop, exists_eq_or_imp, Bool.not_eq_true, -Int.reducePow, -Nat.reducePow])
  (repeat (refine ⟨by first | assumption | exact s1000 _ (by decide) | exact mul_l (by decide) | exact pw10 _ (by decide) (by decide) | exact s1000 _ (by simp only [List.length_append, List.length_cons, List.length_nil]; omega) | exact ⟨by simp only [List.length_append, List.length_cons, List.length_nil]; omega, by simp only [List.length_append, List.length_cons, List.length_nil]; omega⟩, ?_⟩))
  unfold b25_3
  (refine go1 ?_; try simp only [ss_nil, st_asg, st_asgT, st_par, st_seti, st_setk, st_app, st_ins, st_ext, st_expr, st_ret, st_iff, st_forr, st_whl, st_pass, st_brk, st_cont, tg_nm, tg_n, tg_c, tg_co, ev_var, ev_cst, ev_bin, ev_neg, ev_nt, ev_bop, ev_cmp, ev_chn, ev_ife, ev_tup, ev_lst, ev_ix, ev_sl, ev_rv, ev_dnil, ev_dsp, ev_bi, ev_call, ev_pop, ev_popA, ev_comp, ev_isi, te_nt, te_bop, te_cmp, te_chn, te_ife, te_var, te_call, te_bi, te_ix, te_bin, te_isi, te_cst, pk_var, pk_cst, pk_bin, pk_neg, pk_nt, pk_bop, pk_cmp, pk_chn, pk_ife, pk_tup, pk_lst, pk_ix, pk_sl, pk_rv, pk_dnil, pk_dsp, pk_bi, pk_call, pk_pop, pk_popA, pk_comp, pk_isi, rt_var, rt_cst, rt_bin, rt_neg, rt_nt, rt_bop, rt_cmp, rt_chn, rt_ife, rt_tup, rt_lst, rt_ix, rt_sl, rt_rv, rt_dnil, rt_dsp, rt_bi, rt_call, rt_pop, rt_comp, rt_isi, es_nil, es_cons, cs_nil, cs_cons, ps_nil, ps_cons, o_no, o_so, c_no, c_so, i_rg1, i_rg2, i_rg3, i_sq, i_dk, i_en, i_zp, i_rev, get_v, get_s, gets_nil, gets_cons, own_iff, ownd_iff, set_nil, set_cons, o_add, o_adds, o_addl, o_addt, o_sub, o_mul, o_mull, o_multt, o_div, o_mod, o_pow, o_shl, o_shr, o_and, o_or, o_xor, q_eq, q_ne, ek_s, ek_i, ek_b, ek_n, ek_l, ek_t, deq_str, q_lt, q_le, q_gt, q_ge, q_is, q_isn, q_isb, q_isnb, q_inl, q_int, q_nil, q_nit, x_l, x_t, x_s, z_l, z_t, v_l, v_t, f_lenl, f_lent, f_lens, f_abs, f_int, f_intb, f_bool, f_boolb, f_str, f_repr, f_reprB, f_sum, f_max1, f_min1, f_minP, f_max2, f_min2, f_lstl, f_lstt, f_lstd, f_dct, f_sortd, y_d1, y_d2, p_dic, k_dic, f_tupl, f_tupt, f_sorted, f_sortet, f_sset, f_sseu, f_all, f_any, f_gcd, f_lrg1, f_lrg2, f_trg1, f_trg2, t_bl, t_int, t_non, t_lst, t_tup, t_str, List.getElem?_cons_zero, List.getElem?_cons_succ, List.set_cons_zero, List.set_cons_succ, Option.some.injEq, exists_eq_left', exists_eq_left, exists_eq_right, exists_eq_right', cd_sh, cd_ow, D.int.injEq, D.bl.injEq, D.str.injEq, D.tup.injEq, D.lst.injEq, C.ow.injEq, C.sh.injEq, List.cons.injEq, reduceCtorEq, exists_and_left, exists_and_right, exists_const, implies_true, exists_eq, exists_eq', okEq_int, okEq_bl, okEq_non, deq_int, deq_bl, List.length_cons, List.length_nil, Nat.reduceAdd, true_and, and_true, if_true, if_false, decide_eq_true_eq, Bool.true_eq_false, Bool.false_eq_true, false_and, and_false, false_or, or_false, exists_false, and_self, D.hd.injEq, exists_prop, exists_eq_or_imp, Bool.not_eq_true, -Int.reducePow, -Nat.reducePow, E60])
  (repeat (refine ⟨by first | assumption | exact s1000 _ (by decide) | exact mul_l (by decide) | exact pw10 _ (by decide) (by decide) | exact s1000 _ (by simp only [List.length_append, List.length_cons, List.length_nil]; omega) | exact ⟨by simp only [List.length_append, List.length_cons, List.length_nil]; omega, by simp only [List.length_append, List.length_cons, List.length_nil]; omega⟩, ?_⟩))
  unfold b25_4
  (refine go1 ?_; try simp only [ss_nil, st_asg, st_asgT, st_par, st_seti, st_setk, st_app, st_ins, st_ext, st_expr, st_ret, st_iff, st_forr, st_whl, st_pass, st_brk, st_cont, tg_nm, tg_n, tg_c, tg_co, ev_var, ev_cst, ev_bin, ev_neg, ev_nt, ev_bop, ev_cmp, ev_chn, ev_ife, ev_tup, ev_lst, ev_ix, ev_sl, ev_rv, ev_dnil, ev_dsp, ev_bi, ev_call, ev_pop, ev_popA, ev_comp, ev_isi, te_nt, te_bop, te_cmp, te_chn, te_ife, te_var, te_call, te_bi, te_ix, te_bin, te_isi, te_cst, pk_var, pk_cst, pk_bin, pk_neg, pk_nt, pk_bop, pk_cmp, pk_chn, pk_ife, pk_tup, pk_lst, pk_ix, pk_sl, pk_rv, pk_dnil, pk_dsp, pk_bi, pk_call, pk_pop, pk_popA, pk_comp, pk_isi, rt_var, rt_cst, rt_bin, rt_neg, rt_nt, rt_bop, rt_cmp, rt_chn, rt_ife, rt_tup, rt_lst, rt_ix, rt_sl, rt_rv, rt_dnil, rt_dsp, rt_bi, rt_call, rt_pop, rt_comp, rt_isi, es_nil, es_cons, cs_nil, cs_cons, ps_nil, ps_cons, o_no, o_so, c_no, c_so, i_rg1, i_rg2, i_rg3, i_sq, i_dk, i_en, i_zp, i_rev, get_v, get_s, gets_nil, gets_cons, own_iff, ownd_iff, set_nil, set_cons, o_add, o_adds, o_addl, o_addt, o_sub, o_mul, o_mull, o_multt, o_div, o_mod, o_pow, o_shl, o_shr, o_and, o_or, o_xor, q_eq, q_ne, ek_s, ek_i, ek_b, ek_n, ek_l, ek_t, deq_str, q_lt, q_le, q_gt, q_ge, q_is, q_isn, q_isb, q_isnb, q_inl, q_int, q_nil, q_nit, x_l, x_t, x_s, z_l, z_t, v_l, v_t, f_lenl, f_lent, f_lens, f_abs, f_int, f_intb, f_bool, f_boolb, f_str, f_repr, f_reprB, f_sum, f_max1, f_min1, f_minP, f_max2, f_min2, f_lstl, f_lstt, f_lstd, f_dct, f_sortd, y_d1, y_d2, p_dic, k_dic, f_tupl, f_tupt, f_sorted, f_sortet, f_sset, f_sseu, f_all, f_any, f_gcd, f_lrg1, f_lrg2, f_trg1, f_trg2, t_bl, t_int, t_non, t_lst, t_tup, t_str, List.getElem?_cons_zero, List.getElem?_cons_succ, List.set_cons_zero, List.set_cons_succ, Option.some.injEq, exists_eq_left', exists_eq_left, exists_eq_right, exists_eq_right', cd_sh, cd_ow, D.int.injEq, D.bl.injEq, D.str.injEq, D.tup.injEq, D.lst.injEq, C.ow.injEq, C.sh.injEq, List.cons.injEq, reduceCtorEq, exists_and_left, exists_and_right, exists_const, implies_true, exists_eq, exists_eq', okEq_int, okEq_bl, okEq_non, deq_int, deq_bl, List.length_cons, List.length_nil, Nat.reduceAdd, true_and, and_true, if_true, if_false, decide_eq_true_eq, Bool.true_eq_false, Bool.false_eq_true, false_and, and_false, false_or, or_false, exists_false, and_self, D.hd.injEq, exists_prop, exists_eq_or_imp, Bool.not_eq_true, -Int.reducePow, -Nat.reducePow, E60])
  (repeat (refine ⟨by first | assumption | exact s1000 _ (by decide) | exact mul_l (by decide) | exact pw10 _ (by decide) (by decide) | exact s1000 _ (by simp only [List.length_append, List.length_cons, List.length_nil]; omega) | exact ⟨by simp only [List.length_append, List.length_cons, List.length_nil]; omega, by simp only [List.length_append, List.length_cons, List.length_nil]; omega⟩, ?_⟩))
  unfold b25_5
  (refine go1 ?_; try simp only [ss_nil, st_asg, st_asgT, st_par, st_seti, st_setk, st_app, st_ins, st_ext, st_expr, st_ret, st_iff, st_forr, st_whl, st_pass, st_brk, st_cont, tg_nm, tg_n, tg_c, tg_co, ev_var, ev_cst, ev_bin, ev_neg, ev_nt, ev_bop, ev_cmp, ev_chn, ev_ife, ev_tup, ev_lst, ev_ix, ev_sl, ev_rv, ev_dnil, ev_dsp, ev_bi, ev_call, ev_pop, ev_popA, ev_comp, ev_isi, te_nt, te_bop, te_cmp, te_chn, te_ife, te_var, te_call, te_bi, te_ix, te_bin, te_isi, te_cst, pk_var, pk_cst, pk_bin, pk_neg, pk_nt, pk_bop, pk_cmp, pk_chn, pk_ife, pk_tup, pk_lst, pk_ix, pk_sl, pk_rv, pk_dnil, pk_dsp, pk_bi, pk_call, pk_pop, pk_popA, pk_comp, pk_isi, rt_var, rt_cst, rt_bin, rt_neg, rt_nt, rt_bop, rt_cmp, rt_chn, rt_ife, rt_tup, rt_lst, rt_ix, rt_sl, rt_rv, rt_dnil, rt_dsp, rt_bi, rt_call, rt_pop, rt_comp, rt_isi, es_nil, es_cons, cs_nil, cs_cons, ps_nil, ps_cons, o_no, o_so, c_no, c_so, i_rg1, i_rg2, i_rg3, i_sq, i_dk, i_en, i_zp, i_rev, get_v, get_s, gets_nil, gets_cons, own_iff, ownd_iff, set_nil, set_cons, o_add, o_adds, o_addl, o_addt, o_sub, o_mul, o_mull, o_multt, o_div, o_mod, o_pow, o_shl, o_shr, o_and, o_or, o_xor, q_eq, q_ne, ek_s, ek_i, ek_b, ek_n, ek_l, ek_t, deq_str, q_lt, q_le, q_gt, q_ge, q_is, q_isn, q_isb, q_isnb, q_inl, q_int, q_nil, q_nit, x_l, x_t, x_s, z_l, z_t, v_l, v_t, f_lenl, f_lent, f_lens, f_abs, f_int, f_intb, f_bool, f_boolb, f_str, f_repr, f_reprB, f_sum, f_max1, f_min1, f_minP, f_max2, f_min2, f_lstl, f_lstt, f_lstd, f_dct, f_sortd, y_d1, y_d2, p_dic, k_dic, f_tupl, f_tupt, f_sorted, f_sortet, f_sset, f_sseu, f_all, f_any, f_gcd, f_lrg1, f_lrg2, f_trg1, f_trg2, t_bl, t_int, t_non, t_lst, t_tup, t_str, List.getElem?_cons_zero, List.getElem?_cons_succ, List.set_cons_zero, List.set_cons_succ, Option.some.injEq, exists_eq_left', exists_eq_left, exists_eq_right, exists_eq_right', cd_sh, cd_ow, D.int.injEq, D.bl.injEq, D.str.injEq, D.tup.injEq, D.lst.injEq, C.ow.injEq, C.sh.injEq, List.cons.injEq, reduceCtorEq, exists_and_left, exists_and_right, exists_const, implies_true, exists_eq, exists_eq', okEq_int, okEq_bl, okEq_non, deq_int, deq_bl, List.length_cons, List.length_nil, Nat.reduceAdd, true_and, and_true, if_true, if_false, decide_eq_true_eq, Bool.true_eq_false, Bool.false_eq_true, false_and, and_false, false_or, or_false, exists_false, and_self, D.hd.injEq, exists_prop, exists_eq_or_imp, Bool.not_eq_true, -Int.reducePow, -Nat.reducePow, g15, E60, at0])
  (repeat (refine ⟨by first | assumption | exact s1000 _ (by decide) | exact mul_l (by decide) | exact pw10 _ (by decide) (by decide) | exact s1000 _ (by simp only [List.length_append, List.length_cons, List.length_nil]; omega) | exact ⟨by simp only [List.length_append, List.length_cons, List.length_nil]; omega, by simp only [List.length_append, List.length_cons, List.length_nil]; omega⟩, ?_⟩))
  suffices h : ∀ d, d ∈ _ → Tw d from fun d hd => q d (h d hd)
  have up : ∀ {d : D}, Th d → Tw d := fun h => h.up (by decide) (by decide)
  have two : ∀ {x y : D}, At x → At y → Tw (.tup [x, y]) := fun hx hy => (pr_sn hx hy).up (by decide) (by decide)
  have rr : Tw (.tup [.tup [.int b, .int s], .tup [.int b, .int s]]) := (sn_row (l := [.tup [.int b, .int s], .tup [.int b, .int s]]) (Nat.le_refl 2) (all_c (pr_sn hb hs) (all_c (pr_sn hb hs) all_n))).1.up (by decide) (by decide)
  have sb : Tw (.tup [.int s, .tup [.int b]]) := (sn_row (l := [.int s, .tup [.int b]]) (j := 2) (m := 430) (k := 1) (Nat.le_refl 2) (all_c (hs.up (by decide) (by decide)) (all_c ((sn_row (l := [.int b]) (j := 1) (Nat.le_refl 1) (all_c hb all_n)).1.up (by decide) (by decide)) all_n))).1.up (by decide) (by decide)
  repeat' (first | exact all_n | refine all_a ?_ ?_ | refine all_c ?_ ?_ | assumption | (refine up ?_; focus (first | assumption | (refine th_t (le_b rfl) ?_; focus (((repeat' (first | exact all_n | refine all_c ?_ ?_ | ((first | exact sn_non.up (by decide) (by decide) | exact (sn_bl _).up (by decide) (by decide) | exact at_i (by first | decide +kernel | assumption) | exact at_s (by first | decide | omega) | exact (sn_str (m := 20) (by decide +kernel) (by decide +kernel)).up (by decide) (by decide) | assumption | fail)))); done))) | (refine th_l (le_b rfl) ?_; focus (((repeat' (first | exact all_n | refine all_c ?_ ?_ | ((first | exact sn_non.up (by decide) (by decide) | exact (sn_bl _).up (by decide) (by decide) | exact at_i (by first | decide +kernel | assumption) | exact at_s (by first | decide | omega) | exact (sn_str (m := 20) (by decide +kernel) (by decide +kernel)).up (by decide) (by decide) | assumption | fail)))); done))) | exact sn_dnil.up (by decide) (by decide) | (refine th_a ?_; focus ((first | exact sn_non.up (by decide) (by decide) | exact (sn_bl _).up (by decide) (by decide) | exact at_i (by first | decide +kernel | assumption) | exact at_s (by first | decide | omega) | exact (sn_str (m := 20) (by decide +kernel) (by decide +kernel)).up (by decide) (by decide) | assumption | fail))) | (refine th_tt (le_b rfl) ?_; focus (((repeat' (first | exact all_n | refine all_c ?_ ?_ | (refine smm0 ?_; focus ((first | exact sm_i (by decide) | exact sn_non.up (by decide) (by decide) | exact (sn_bl _).up (by decide) (by decide) | fail))) | (refine (sm_t (le_b rfl) ?_).1; focus (((repeat' (first | exact all_n | refine all_c ?_ ?_ | ((first | exact sm_i (by decide) | exact sn_non.up (by decide) (by decide) | exact (sn_bl _).up (by decide) (by decide) | fail)))); done))) | (refine (sm_t (le_b rfl) ?_).2; focus (((repeat' (first | exact all_n | refine all_c ?_ ?_ | ((first | exact sm_i (by decide) | exact sn_non.up (by decide) (by decide) | exact (sn_bl _).up (by decide) (by decide) | fail)))); done))))); done))) | (refine th_tl (le_b rfl) ?_; focus (((repeat' (first | exact all_n | refine all_c ?_ ?_ | (refine smm0 ?_; focus ((first | exact sm_i (by decide) | exact sn_non.up (by decide) (by decide) | exact (sn_bl _).up (by decide) (by decide) | fail))) | (refine (sm_t (le_b rfl) ?_).1; focus (((repeat' (first | exact all_n | refine all_c ?_ ?_ | ((first | exact sm_i (by decide) | exact sn_non.up (by decide) (by decide) | exact (sn_bl _).up (by decide) (by decide) | fail)))); done))) | (refine (sm_t (le_b rfl) ?_).2; focus (((repeat' (first | exact all_n | refine all_c ?_ ?_ | ((first | exact sm_i (by decide) | exact sn_non.up (by decide) (by decide) | exact (sn_bl _).up (by decide) (by decide) | fail)))); done))))); done))) | fail)))
  all_goals trace_state
theorem rl_tw {d : D} (h : Rl d) : Sn 430 1 d := by
  obtain ⟨b, s, rfl, ⟨b0, b1⟩, s0, s1⟩ := h
  have : 0 ≤ M60 := by decide +kernel
  exact pr_sn (at60 (by omega) (by omega)) (at60 (by omega) (by omega))
theorem rows_tg {l : List D} (hl : l.length ≤ 42) (h : ∀ d, d ∈ l → Tw d) : Sn 215000 4 (.tup l) ∧ Sn 215000 4 (.lst l) := ⟨(sn_row hl h).1.up (by decide) (by decide), (sn_row hl h).2.up (by decide) (by decide)⟩
theorem rows_s {l : List D} (hl : l.length ≤ 85) (h : ∀ d, d ∈ l → Sn 430 1 d) : Sn 40000 2 (.tup l) ∧ Sn 40000 2 (.lst l) := ⟨(sn_row hl h).1.up (by decide) (by decide), (sn_row hl h).2.up (by decide) (by decide)⟩
theorem rep_mem {p : D → Prop} {l : List D} {k : Nat} (h : ∀ d, d ∈ l → p d) : ∀ d, d ∈ (List.replicate k l).flatten → p d := fun d hd => by
  obtain ⟨m, h1, h2⟩ := List.mem_flatten.1 hd
  rw [List.eq_of_mem_replicate h1] at h2
  exact h d h2
theorem rep_len {l : List D} {k : Nat} : (List.replicate k l).flatten.length = k * l.length := by
  rw [List.length_flatten, List.map_replicate, List.sum_replicate_nat]
def I26 (l : List D) (i : Nat) (e : En) : Prop := ∃ (rows : List D) (o3 o4 : Option C), (rows.length ≤ l.length + i ∧ ∀ d, d ∈ rows → Tw d) ∧ e = [some (.sh (.hd 0)), some (.sh (.tup l)), some (.ow (.lst rows)), o3, o4, none]
theorem t26 (l : List D) (Q : C → Prop) (hl : l.length ≤ 40) (h : ∀ d, d ∈ l → Rl d) (q : ∀ d, Tg d → Q (.sh d)) : Bd b26 [some (.sh (.hd 0)), some (.sh (.tup l)), none, none, none, none] Q := by
  have hs : ∀ d, d ∈ l → Sn 430 1 d := fun d hd => rl_tw (h d hd)
  have hw : ∀ d, d ∈ l → Tw d := fun d hd => (hs d hd).up (by decide) (by decide)
  have r72 : Rl (.tup [.int 7, .int 2]) := ⟨7, 2, rfl, ⟨by decide, by decide +kernel⟩, by decide, by decide +kernel⟩
  unfold Bd b26
  (refine go1 ?_; try simp only [ss_nil, st_asg, st_asgT, st_par, st_seti, st_setk, st_app, st_ins, st_ext, st_expr, st_ret, st_iff, st_forr, st_whl, st_pass, st_brk, st_cont, tg_nm, tg_n, tg_c, tg_co, ev_var, ev_cst, ev_bin, ev_neg, ev_nt, ev_bop, ev_cmp, ev_chn, ev_ife, ev_tup, ev_lst, ev_ix, ev_sl, ev_rv, ev_dnil, ev_dsp, ev_bi, ev_call, ev_pop, ev_popA, ev_comp, ev_isi, te_nt, te_bop, te_cmp, te_chn, te_ife, te_var, te_call, te_bi, te_ix, te_bin, te_isi, te_cst, pk_var, pk_cst, pk_bin, pk_neg, pk_nt, pk_bop, pk_cmp, pk_chn, pk_ife, pk_tup, pk_lst, pk_ix, pk_sl, pk_rv, pk_dnil, pk_dsp, pk_bi, pk_call, pk_pop, pk_popA, pk_comp, pk_isi, rt_var, rt_cst, rt_bin, rt_neg, rt_nt, rt_bop, rt_cmp, rt_chn, rt_ife, rt_tup, rt_lst, rt_ix, rt_sl, rt_rv, rt_dnil, rt_dsp, rt_bi, rt_call, rt_pop, rt_comp, rt_isi, es_nil, es_cons, cs_nil, cs_cons, ps_nil, ps_cons, o_no, o_so, c_no, c_so, i_rg1, i_rg2, i_rg3, i_sq, i_dk, i_en, i_zp, i_rev, get_v, get_s, gets_nil, gets_cons, own_iff, ownd_iff, set_nil, set_cons, o_add, o_adds, o_addl, o_addt, o_sub, o_mul, o_mull, o_multt, o_div, o_mod, o_pow, o_shl, o_shr, o_and, o_or, o_xor, q_eq, q_ne, ek_s, ek_i, ek_b, ek_n, ek_l, ek_t, deq_str, q_lt, q_le, q_gt, q_ge, q_is, q_isn, q_isb, q_isnb, q_inl, q_int, q_nil, q_nit, x_l, x_t, x_s, z_l, z_t, v_l, v_t, f_lenl, f_lent, f_lens, f_abs, f_int, f_intb, f_bool, f_boolb, f_str, f_repr, f_reprB, f_sum, f_max1, f_min1, f_minP, f_max2, f_min2, f_lstl, f_lstt, f_lstd, f_dct, f_sortd, y_d1, y_d2, p_dic, k_dic, f_tupl, f_tupt, f_sorted, f_sortet, f_sset, f_sseu, f_all, f_any, f_gcd, f_lrg1, f_lrg2, f_trg1, f_trg2, t_bl, t_int, t_non, t_lst, t_tup, t_str, List.getElem?_cons_zero, List.getElem?_cons_succ, List.set_cons_zero, List.set_cons_succ, Option.some.injEq, exists_eq_left', exists_eq_left, exists_eq_right, exists_eq_right', cd_sh, cd_ow, D.int.injEq, D.bl.injEq, D.str.injEq, D.tup.injEq, D.lst.injEq, C.ow.injEq, C.sh.injEq, List.cons.injEq, reduceCtorEq, exists_and_left, exists_and_right, exists_const, implies_true, exists_eq, exists_eq', okEq_int, okEq_bl, okEq_non, deq_int, deq_bl, List.length_cons, List.length_nil, Nat.reduceAdd, true_and, and_true, if_true, if_false, decide_eq_true_eq, Bool.true_eq_false, Bool.false_eq_true, false_and, and_false, false_or, or_false, exists_false, and_self, D.hd.injEq, exists_prop, exists_eq_or_imp, Bool.not_eq_true, -Int.reducePow, -Nat.reducePow])
  unfold b26_1
  (refine go1 ?_; try simp only [ss_nil, st_asg, st_asgT, st_par, st_seti, st_setk, st_app, st_ins, st_ext, st_expr, st_ret, st_iff, st_forr, st_whl, st_pass, st_brk, st_cont, tg_nm, tg_n, tg_c, tg_co, ev_var, ev_cst, ev_bin, ev_neg, ev_nt, ev_bop, ev_cmp, ev_chn, ev_ife, ev_tup, ev_lst, ev_ix, ev_sl, ev_rv, ev_dnil, ev_dsp, ev_bi, ev_call, ev_pop, ev_popA, ev_comp, ev_isi, te_nt, te_bop, te_cmp, te_chn, te_ife, te_var, te_call, te_bi, te_ix, te_bin, te_isi, te_cst, pk_var, pk_cst, pk_bin, pk_neg, pk_nt, pk_bop, pk_cmp, pk_chn, pk_ife, pk_tup, pk_lst, pk_ix, pk_sl, pk_rv, pk_dnil, pk_dsp, pk_bi, pk_call, pk_pop, pk_popA, pk_comp, pk_isi, rt_var, rt_cst, rt_bin, rt_neg, rt_nt, rt_bop, rt_cmp, rt_chn, rt_ife, rt_tup, rt_lst, rt_ix, rt_sl, rt_rv, rt_dnil, rt_dsp, rt_bi, rt_call, rt_pop, rt_comp, rt_isi, es_nil, es_cons, cs_nil, cs_cons, ps_nil, ps_cons, o_no, o_so, c_no, c_so, i_rg1, i_rg2, i_rg3, i_sq, i_dk, i_en, i_zp, i_rev, get_v, get_s, gets_nil, gets_cons, own_iff, ownd_iff, set_nil, set_cons, o_add, o_adds, o_addl, o_addt, o_sub, o_mul, o_mull, o_multt, o_div, o_mod, o_pow, o_shl, o_shr, o_and, o_or, o_xor, q_eq, q_ne, ek_s, ek_i, ek_b, ek_n, ek_l, ek_t, deq_str, q_lt, q_le, q_gt, q_ge, q_is, q_isn, q_isb, q_isnb, q_inl, q_int, q_nil, q_nit, x_l, x_t, x_s, z_l, z_t, v_l, v_t, f_lenl, f_lent, f_lens, f_abs, f_int, f_intb, f_bool, f_boolb, f_str, f_repr, f_reprB, f_sum, f_max1, f_min1, f_minP, f_max2, f_min2, f_lstl, f_lstt, f_lstd, f_dct, f_sortd, y_d1, y_d2, p_dic, k_dic, f_tupl, f_tupt, f_sorted, f_sortet, f_sset, f_sseu, f_all, f_any, f_gcd, f_lrg1, f_lrg2, f_trg1, f_trg2, t_bl, t_int, t_non, t_lst, t_tup, t_str, List.getElem?_cons_zero, List.getElem?_cons_succ, List.set_cons_zero, List.set_cons_succ, Option.some.injEq, exists_eq_left', exists_eq_left, exists_eq_right, exists_eq_right', cd_sh, cd_ow, D.int.injEq, D.bl.injEq, D.str.injEq, D.tup.injEq, D.lst.injEq, C.ow.injEq, C.sh.injEq, List.cons.injEq, reduceCtorEq, exists_and_left, exists_and_right, exists_const, implies_true, exists_eq, exists_eq', okEq_int, okEq_bl, okEq_non, deq_int, deq_bl, List.length_cons, List.length_nil, Nat.reduceAdd, true_and, and_true, if_true, if_false, decide_eq_true_eq, Bool.true_eq_false, Bool.false_eq_true, false_and, and_false, false_or, or_false, exists_false, and_self, D.hd.injEq, exists_prop, exists_eq_or_imp, Bool.not_eq_true, -Int.reducePow, -Nat.reducePow, g14])
  refine ⟨⟨by decide, log_s (by decide)⟩, fun r r0 r1 => ⟨⟨by omega, by omega⟩, ?_⟩⟩
  refine for_inv gam_ok (I26 l) _ 0 _ ⟨l, none, none, ⟨by omega, hw⟩, rfl⟩ (fun j d e hd ⟨rows, o3, o4, ⟨rl_, rh⟩, he⟩ => ?_) fun e ⟨rows, o3, o4, ⟨rl_, rh⟩, he⟩ => ?_
  · subst he
    have jl := (List.getElem?_eq_some_iff.mp hd).1
    rw [List.length_map, List.length_range] at jl
    rw [tg_nm, Nat.zero_add] at *
    unfold l26_2
    (refine go1 ?_; try simp only [ss_nil, st_asg, st_asgT, st_par, st_seti, st_setk, st_app, st_ins, st_ext, st_expr, st_ret, st_iff, st_forr, st_whl, st_pass, st_brk, st_cont, tg_nm, tg_n, tg_c, tg_co, ev_var, ev_cst, ev_bin, ev_neg, ev_nt, ev_bop, ev_cmp, ev_chn, ev_ife, ev_tup, ev_lst, ev_ix, ev_sl, ev_rv, ev_dnil, ev_dsp, ev_bi, ev_call, ev_pop, ev_popA, ev_comp, ev_isi, te_nt, te_bop, te_cmp, te_chn, te_ife, te_var, te_call, te_bi, te_ix, te_bin, te_isi, te_cst, pk_var, pk_cst, pk_bin, pk_neg, pk_nt, pk_bop, pk_cmp, pk_chn, pk_ife, pk_tup, pk_lst, pk_ix, pk_sl, pk_rv, pk_dnil, pk_dsp, pk_bi, pk_call, pk_pop, pk_popA, pk_comp, pk_isi, rt_var, rt_cst, rt_bin, rt_neg, rt_nt, rt_bop, rt_cmp, rt_chn, rt_ife, rt_tup, rt_lst, rt_ix, rt_sl, rt_rv, rt_dnil, rt_dsp, rt_bi, rt_call, rt_pop, rt_comp, rt_isi, es_nil, es_cons, cs_nil, cs_cons, ps_nil, ps_cons, o_no, o_so, c_no, c_so, i_rg1, i_rg2, i_rg3, i_sq, i_dk, i_en, i_zp, i_rev, get_v, get_s, gets_nil, gets_cons, own_iff, ownd_iff, set_nil, set_cons, o_add, o_adds, o_addl, o_addt, o_sub, o_mul, o_mull, o_multt, o_div, o_mod, o_pow, o_shl, o_shr, o_and, o_or, o_xor, q_eq, q_ne, ek_s, ek_i, ek_b, ek_n, ek_l, ek_t, deq_str, q_lt, q_le, q_gt, q_ge, q_is, q_isn, q_isb, q_isnb, q_inl, q_int, q_nil, q_nit, x_l, x_t, x_s, z_l, z_t, v_l, v_t, f_lenl, f_lent, f_lens, f_abs, f_int, f_intb, f_bool, f_boolb, f_str, f_repr, f_reprB, f_sum, f_max1, f_min1, f_minP, f_max2, f_min2, f_lstl, f_lstt, f_lstd, f_dct, f_sortd, y_d1, y_d2, p_dic, k_dic, f_tupl, f_tupt, f_sorted, f_sortet, f_sset, f_sseu, f_all, f_any, f_gcd, f_lrg1, f_lrg2, f_trg1, f_trg2, t_bl, t_int, t_non, t_lst, t_tup, t_str, List.getElem?_cons_zero, List.getElem?_cons_succ, List.set_cons_zero, List.set_cons_succ, Option.some.injEq, exists_eq_left', exists_eq_left, exists_eq_right, exists_eq_right', cd_sh, cd_ow, D.int.injEq, D.bl.injEq, D.str.injEq, D.tup.injEq, D.lst.injEq, C.ow.injEq, C.sh.injEq, List.cons.injEq, reduceCtorEq, exists_and_left, exists_and_right, exists_const, implies_true, exists_eq, exists_eq', okEq_int, okEq_bl, okEq_non, deq_int, deq_bl, List.length_cons, List.length_nil, Nat.reduceAdd, true_and, and_true, if_true, if_false, decide_eq_true_eq, Bool.true_eq_false, Bool.false_eq_true, false_and, and_false, false_or, or_false, exists_false, and_self, D.hd.injEq, exists_prop, exists_eq_or_imp, Bool.not_eq_true, -Int.reducePow, -Nat.reducePow, g14])
    refine ⟨⟨by omega, log_s (by omega)⟩, fun k k0 k1 => ?_⟩
    unfold b26_3
    (refine go1 ?_; try simp only [ss_nil, st_asg, st_asgT, st_par, st_seti, st_setk, st_app, st_ins, st_ext, st_expr, st_ret, st_iff, st_forr, st_whl, st_pass, st_brk, st_cont, tg_nm, tg_n, tg_c, tg_co, ev_var, ev_cst, ev_bin, ev_neg, ev_nt, ev_bop, ev_cmp, ev_chn, ev_ife, ev_tup, ev_lst, ev_ix, ev_sl, ev_rv, ev_dnil, ev_dsp, ev_bi, ev_call, ev_pop, ev_popA, ev_comp, ev_isi, te_nt, te_bop, te_cmp, te_chn, te_ife, te_var, te_call, te_bi, te_ix, te_bin, te_isi, te_cst, pk_var, pk_cst, pk_bin, pk_neg, pk_nt, pk_bop, pk_cmp, pk_chn, pk_ife, pk_tup, pk_lst, pk_ix, pk_sl, pk_rv, pk_dnil, pk_dsp, pk_bi, pk_call, pk_pop, pk_popA, pk_comp, pk_isi, rt_var, rt_cst, rt_bin, rt_neg, rt_nt, rt_bop, rt_cmp, rt_chn, rt_ife, rt_tup, rt_lst, rt_ix, rt_sl, rt_rv, rt_dnil, rt_dsp, rt_bi, rt_call, rt_pop, rt_comp, rt_isi, es_nil, es_cons, cs_nil, cs_cons, ps_nil, ps_cons, o_no, o_so, c_no, c_so, i_rg1, i_rg2, i_rg3, i_sq, i_dk, i_en, i_zp, i_rev, get_v, get_s, gets_nil, gets_cons, own_iff, ownd_iff, set_nil, set_cons, o_add, o_adds, o_addl, o_addt, o_sub, o_mul, o_mull, o_multt, o_div, o_mod, o_pow, o_shl, o_shr, o_and, o_or, o_xor, q_eq, q_ne, ek_s, ek_i, ek_b, ek_n, ek_l, ek_t, deq_str, q_lt, q_le, q_gt, q_ge, q_is, q_isn, q_isb, q_isnb, q_inl, q_int, q_nil, q_nit, x_l, x_t, x_s, z_l, z_t, v_l, v_t, f_lenl, f_lent, f_lens, f_abs, f_int, f_intb, f_bool, f_boolb, f_str, f_repr, f_reprB, f_sum, f_max1, f_min1, f_minP, f_max2, f_min2, f_lstl, f_lstt, f_lstd, f_dct, f_sortd, y_d1, y_d2, p_dic, k_dic, f_tupl, f_tupt, f_sorted, f_sortet, f_sset, f_sseu, f_all, f_any, f_gcd, f_lrg1, f_lrg2, f_trg1, f_trg2, t_bl, t_int, t_non, t_lst, t_tup, t_str, List.getElem?_cons_zero, List.getElem?_cons_succ, List.set_cons_zero, List.set_cons_succ, Option.some.injEq, exists_eq_left', exists_eq_left, exists_eq_right, exists_eq_right', cd_sh, cd_ow, D.int.injEq, D.bl.injEq, D.str.injEq, D.tup.injEq, D.lst.injEq, C.ow.injEq, C.sh.injEq, List.cons.injEq, reduceCtorEq, exists_and_left, exists_and_right, exists_const, implies_true, exists_eq, exists_eq', okEq_int, okEq_bl, okEq_non, deq_int, deq_bl, List.length_cons, List.length_nil, Nat.reduceAdd, true_and, and_true, if_true, if_false, decide_eq_true_eq, Bool.true_eq_false, Bool.false_eq_true, false_and, and_false, false_or, or_false, exists_false, and_self, D.hd.injEq, exists_prop, exists_eq_or_imp, Bool.not_eq_true, -Int.reducePow, -Nat.reducePow])
    by_cases c : k = ((rows.length : Nat) : Int)
    · refine if_p c ?_
      unfold l26_4
      (refine go1 ?_; try simp only [ss_nil, st_asg, st_asgT, st_par, st_seti, st_setk, st_app, st_ins, st_ext, st_expr, st_ret, st_iff, st_forr, st_whl, st_pass, st_brk, st_cont, tg_nm, tg_n, tg_c, tg_co, ev_var, ev_cst, ev_bin, ev_neg, ev_nt, ev_bop, ev_cmp, ev_chn, ev_ife, ev_tup, ev_lst, ev_ix, ev_sl, ev_rv, ev_dnil, ev_dsp, ev_bi, ev_call, ev_pop, ev_popA, ev_comp, ev_isi, te_nt, te_bop, te_cmp, te_chn, te_ife, te_var, te_call, te_bi, te_ix, te_bin, te_isi, te_cst, pk_var, pk_cst, pk_bin, pk_neg, pk_nt, pk_bop, pk_cmp, pk_chn, pk_ife, pk_tup, pk_lst, pk_ix, pk_sl, pk_rv, pk_dnil, pk_dsp, pk_bi, pk_call, pk_pop, pk_popA, pk_comp, pk_isi, rt_var, rt_cst, rt_bin, rt_neg, rt_nt, rt_bop, rt_cmp, rt_chn, rt_ife, rt_tup, rt_lst, rt_ix, rt_sl, rt_rv, rt_dnil, rt_dsp, rt_bi, rt_call, rt_pop, rt_comp, rt_isi, es_nil, es_cons, cs_nil, cs_cons, ps_nil, ps_cons, o_no, o_so, c_no, c_so, i_rg1, i_rg2, i_rg3, i_sq, i_dk, i_en, i_zp, i_rev, get_v, get_s, gets_nil, gets_cons, own_iff, ownd_iff, set_nil, set_cons, o_add, o_adds, o_addl, o_addt, o_sub, o_mul, o_mull, o_multt, o_div, o_mod, o_pow, o_shl, o_shr, o_and, o_or, o_xor, q_eq, q_ne, ek_s, ek_i, ek_b, ek_n, ek_l, ek_t, deq_str, q_lt, q_le, q_gt, q_ge, q_is, q_isn, q_isb, q_isnb, q_inl, q_int, q_nil, q_nit, x_l, x_t, x_s, z_l, z_t, v_l, v_t, f_lenl, f_lent, f_lens, f_abs, f_int, f_intb, f_bool, f_boolb, f_str, f_repr, f_reprB, f_sum, f_max1, f_min1, f_minP, f_max2, f_min2, f_lstl, f_lstt, f_lstd, f_dct, f_sortd, y_d1, y_d2, p_dic, k_dic, f_tupl, f_tupt, f_sorted, f_sortet, f_sset, f_sseu, f_all, f_any, f_gcd, f_lrg1, f_lrg2, f_trg1, f_trg2, t_bl, t_int, t_non, t_lst, t_tup, t_str, List.getElem?_cons_zero, List.getElem?_cons_succ, List.set_cons_zero, List.set_cons_succ, Option.some.injEq, exists_eq_left', exists_eq_left, exists_eq_right, exists_eq_right', cd_sh, cd_ow, D.int.injEq, D.bl.injEq, D.str.injEq, D.tup.injEq, D.lst.injEq, C.ow.injEq, C.sh.injEq, List.cons.injEq, reduceCtorEq, exists_and_left, exists_and_right, exists_const, implies_true, exists_eq, exists_eq', okEq_int, okEq_bl, okEq_non, deq_int, deq_bl, List.length_cons, List.length_nil, Nat.reduceAdd, true_and, and_true, if_true, if_false, decide_eq_true_eq, Bool.true_eq_false, Bool.false_eq_true, false_and, and_false, false_or, or_false, exists_false, and_self, D.hd.injEq, exists_prop, exists_eq_or_imp, Bool.not_eq_true, -Int.reducePow, -Nat.reducePow, g25])
      refine ⟨s1000 _ (by decide), r72, fun x hx => ⟨s1000 _ (by omega), rows ++ [x], _, _, ⟨by rw [List.length_append, List.length_singleton]; omega, all_a rh (all_c hx all_n)⟩, rfl⟩⟩
    · refine if_q c ?_
      unfold l26_5
      (refine go1 ?_; try simp only [ss_nil, st_asg, st_asgT, st_par, st_seti, st_setk, st_app, st_ins, st_ext, st_expr, st_ret, st_iff, st_forr, st_whl, st_pass, st_brk, st_cont, tg_nm, tg_n, tg_c, tg_co, ev_var, ev_cst, ev_bin, ev_neg, ev_nt, ev_bop, ev_cmp, ev_chn, ev_ife, ev_tup, ev_lst, ev_ix, ev_sl, ev_rv, ev_dnil, ev_dsp, ev_bi, ev_call, ev_pop, ev_popA, ev_comp, ev_isi, te_nt, te_bop, te_cmp, te_chn, te_ife, te_var, te_call, te_bi, te_ix, te_bin, te_isi, te_cst, pk_var, pk_cst, pk_bin, pk_neg, pk_nt, pk_bop, pk_cmp, pk_chn, pk_ife, pk_tup, pk_lst, pk_ix, pk_sl, pk_rv, pk_dnil, pk_dsp, pk_bi, pk_call, pk_pop, pk_popA, pk_comp, pk_isi, rt_var, rt_cst, rt_bin, rt_neg, rt_nt, rt_bop, rt_cmp, rt_chn, rt_ife, rt_tup, rt_lst, rt_ix, rt_sl, rt_rv, rt_dnil, rt_dsp, rt_bi, rt_call, rt_pop, rt_comp, rt_isi, es_nil, es_cons, cs_nil, cs_cons, ps_nil, ps_cons, o_no, o_so, c_no, c_so, i_rg1, i_rg2, i_rg3, i_sq, i_dk, i_en, i_zp, i_rev, get_v, get_s, gets_nil, gets_cons, own_iff, ownd_iff, set_nil, set_cons, o_add, o_adds, o_addl, o_addt, o_sub, o_mul, o_mull, o_multt, o_div, o_mod, o_pow, o_shl, o_shr, o_and, o_or, o_xor, q_eq, q_ne, ek_s, ek_i, ek_b, ek_n, ek_l, ek_t, deq_str, q_lt, q_le, q_gt, q_ge, q_is, q_isn, q_isb, q_isnb, q_inl, q_int, q_nil, q_nit, x_l, x_t, x_s, z_l, z_t, v_l, v_t, f_lenl, f_lent, f_lens, f_abs, f_int, f_intb, f_bool, f_boolb, f_str, f_repr, f_reprB, f_sum, f_max1, f_min1, f_minP, f_max2, f_min2, f_lstl, f_lstt, f_lstd, f_dct, f_sortd, y_d1, y_d2, p_dic, k_dic, f_tupl, f_tupt, f_sorted, f_sortet, f_sset, f_sseu, f_all, f_any, f_gcd, f_lrg1, f_lrg2, f_trg1, f_trg2, t_bl, t_int, t_non, t_lst, t_tup, t_str, List.getElem?_cons_zero, List.getElem?_cons_succ, List.set_cons_zero, List.set_cons_succ, Option.some.injEq, exists_eq_left', exists_eq_left, exists_eq_right, exists_eq_right', cd_sh, cd_ow, D.int.injEq, D.bl.injEq, D.str.injEq, D.tup.injEq, D.lst.injEq, C.ow.injEq, C.sh.injEq, List.cons.injEq, reduceCtorEq, exists_and_left, exists_and_right, exists_const, implies_true, exists_eq, exists_eq', okEq_int, okEq_bl, okEq_non, deq_int, deq_bl, List.length_cons, List.length_nil, Nat.reduceAdd, true_and, and_true, if_true, if_false, decide_eq_true_eq, Bool.true_eq_false, Bool.false_eq_true, false_and, and_false, false_or, or_false, exists_false, and_self, D.hd.injEq, exists_prop, exists_eq_or_imp, Bool.not_eq_true, -Int.reducePow, -Nat.reducePow, g25])
      obtain ⟨n, rfl⟩ : ∃ n : Nat, k = n := ⟨k.toNat, by omega⟩
      have ix : ixN rows.length (n : Int) = some n := by
        unfold ixN
        rw [if_pos (by omega), if_pos (by omega)]
        rfl
      have fin : ∀ x, Tw x → ∃ y, ixN rows.length (n : Int) = some y ∧ I26 l (j + 1) [some (C.sh (D.hd 0)), some (C.sh (D.tup l)), some (C.ow (D.lst (rows.set y x))), some (C.sh d), some (C.sh (D.int n)), none] := fun x hx => ⟨n, ix, rows.set n x, _, _, ⟨by rw [List.length_set]; omega, fun y hy => (List.mem_or_eq_of_mem_set hy).elim (rh y) fun e => by rw [e]; exact hx⟩, rfl⟩
      by_cases c2 : (n : Int) < ((l.length : Nat) : Int)
      · refine if_p c2 ⟨l[n]'(by omega), ?_, h _ (List.getElem_mem _), fin⟩
        unfold atI ixN
        rw [if_pos (by omega), if_pos (by omega)]
        exact List.getElem?_eq_getElem _
      · exact if_q c2 ⟨s1000 _ (by decide), r72, fin⟩
  · subst he
    rw [List.length_map, List.length_range, Nat.zero_add] at rl_
    unfold b26_6
    (refine go1 ?_; try simp only [ss_nil, st_asg, st_asgT, st_par, st_seti, st_setk, st_app, st_ins, st_ext, st_expr, st_ret, st_iff, st_forr, st_whl, st_pass, st_brk, st_cont, tg_nm, tg_n, tg_c, tg_co, ev_var, ev_cst, ev_bin, ev_neg, ev_nt, ev_bop, ev_cmp, ev_chn, ev_ife, ev_tup, ev_lst, ev_ix, ev_sl, ev_rv, ev_dnil, ev_dsp, ev_bi, ev_call, ev_pop, ev_popA, ev_comp, ev_isi, te_nt, te_bop, te_cmp, te_chn, te_ife, te_var, te_call, te_bi, te_ix, te_bin, te_isi, te_cst, pk_var, pk_cst, pk_bin, pk_neg, pk_nt, pk_bop, pk_cmp, pk_chn, pk_ife, pk_tup, pk_lst, pk_ix, pk_sl, pk_rv, pk_dnil, pk_dsp, pk_bi, pk_call, pk_pop, pk_popA, pk_comp, pk_isi, rt_var, rt_cst, rt_bin, rt_neg, rt_nt, rt_bop, rt_cmp, rt_chn, rt_ife, rt_tup, rt_lst, rt_ix, rt_sl, rt_rv, rt_dnil, rt_dsp, rt_bi, rt_call, rt_pop, rt_comp, rt_isi, es_nil, es_cons, cs_nil, cs_cons, ps_nil, ps_cons, o_no, o_so, c_no, c_so, i_rg1, i_rg2, i_rg3, i_sq, i_dk, i_en, i_zp, i_rev, get_v, get_s, gets_nil, gets_cons, own_iff, ownd_iff, set_nil, set_cons, o_add, o_adds, o_addl, o_addt, o_sub, o_mul, o_mull, o_multt, o_div, o_mod, o_pow, o_shl, o_shr, o_and, o_or, o_xor, q_eq, q_ne, ek_s, ek_i, ek_b, ek_n, ek_l, ek_t, deq_str, q_lt, q_le, q_gt, q_ge, q_is, q_isn, q_isb, q_isnb, q_inl, q_int, q_nil, q_nit, x_l, x_t, x_s, z_l, z_t, v_l, v_t, f_lenl, f_lent, f_lens, f_abs, f_int, f_intb, f_bool, f_boolb, f_str, f_repr, f_reprB, f_sum, f_max1, f_min1, f_minP, f_max2, f_min2, f_lstl, f_lstt, f_lstd, f_dct, f_sortd, y_d1, y_d2, p_dic, k_dic, f_tupl, f_tupt, f_sorted, f_sortet, f_sset, f_sseu, f_all, f_any, f_gcd, f_lrg1, f_lrg2, f_trg1, f_trg2, t_bl, t_int, t_non, t_lst, t_tup, t_str, List.getElem?_cons_zero, List.getElem?_cons_succ, List.set_cons_zero, List.set_cons_succ, Option.some.injEq, exists_eq_left', exists_eq_left, exists_eq_right, exists_eq_right', cd_sh, cd_ow, D.int.injEq, D.bl.injEq, D.str.injEq, D.tup.injEq, D.lst.injEq, C.ow.injEq, C.sh.injEq, List.cons.injEq, reduceCtorEq, exists_and_left, exists_and_right, exists_const, implies_true, exists_eq, exists_eq', okEq_int, okEq_bl, okEq_non, deq_int, deq_bl, List.length_cons, List.length_nil, Nat.reduceAdd, true_and, and_true, if_true, if_false, decide_eq_true_eq, Bool.true_eq_false, Bool.false_eq_true, false_and, and_false, false_or, or_false, exists_false, and_self, D.hd.injEq, exists_prop, exists_eq_or_imp, Bool.not_eq_true, -Int.reducePow, -Nat.reducePow])
    have s02 : ∀ d, d ∈ [D.tup [.int 0, .int 2]] → Sn 430 1 d := all_c (pr_sn (at_s (by decide)) (at_s (by decide))) all_n
    have s40 := rep_mem (k := 40) s02
    refine ⟨⟨by decide, by decide, by omega⟩, s1000 _ (by decide), s1000 _ (by decide), ⟨by decide, by decide, by decide⟩, s1000 _ (by rw [rep_len]; show l.length + 40 * 1 < 1000; omega), s1000 _ (by decide), s1000 _ (by decide), ?_⟩
    have ec : cutD (List.replicate (Int.toNat 41) l).flatten none (some 41) = (List.replicate 41 l).flatten.take 41 := cut_to _ 41
    rw [ec]
    have up : ∀ {m k : Nat} {d : D}, Sn m k d → m ≤ 220000 → k ≤ 6 → Tg d := fun h h1 h2 => h.up h1 h2
    have upT : ∀ {d : D}, Th d → Tg d := fun h => h.up (by decide) (by decide)
    have a1 : ∀ d, d ∈ [D.lst l, D.tup ((List.replicate 41 l).flatten.take 41), D.tup (l ++ (List.replicate (Int.toNat 40) [D.tup [D.int 0, D.int 2]]).flatten), D.non, D.int 0, D.bl true, D.str (Str.ofString "scale"), D.dic [] [], D.tup [D.tup l]] → Tg d := by
      refine all_c (up (rows_s (by omega) hs).2 (by decide) (by decide)) (all_c (up (rows_s (by rw [List.length_take]; omega) fun d hd => rep_mem hs d (List.mem_of_mem_take hd)).1 (by decide) (by decide)) (all_c (up (rows_s ?_ (all_a hs s40)).1 (by decide) (by decide)) ?_))
      · rw [List.length_append, rep_len]; show l.length + 40 * 1 ≤ 85; omega
      · have ll : Tg (.tup [.tup l]) := (sn_row (l := [.tup l]) (j := 1) (Nat.le_refl 1) (all_c (rows_s (by omega) hs).1 all_n)).1.up (by decide) (by decide)
        repeat' (first | exact all_n | refine all_c ?_ ?_ | assumption | (refine upT ?_; focus (first | assumption | (refine th_t (le_b rfl) ?_; focus (((repeat' (first | exact all_n | refine all_c ?_ ?_ | ((first | exact sn_non.up (by decide) (by decide) | exact (sn_bl _).up (by decide) (by decide) | exact at_i (by first | decide +kernel | assumption) | exact at_s (by first | decide | omega) | exact (sn_str (m := 20) (by decide +kernel) (by decide +kernel)).up (by decide) (by decide) | assumption | fail)))); done))) | (refine th_l (le_b rfl) ?_; focus (((repeat' (first | exact all_n | refine all_c ?_ ?_ | ((first | exact sn_non.up (by decide) (by decide) | exact (sn_bl _).up (by decide) (by decide) | exact at_i (by first | decide +kernel | assumption) | exact at_s (by first | decide | omega) | exact (sn_str (m := 20) (by decide +kernel) (by decide +kernel)).up (by decide) (by decide) | assumption | fail)))); done))) | exact sn_dnil.up (by decide) (by decide) | (refine th_a ?_; focus ((first | exact sn_non.up (by decide) (by decide) | exact (sn_bl _).up (by decide) (by decide) | exact at_i (by first | decide +kernel | assumption) | exact at_s (by first | decide | omega) | exact (sn_str (m := 20) (by decide +kernel) (by decide +kernel)).up (by decide) (by decide) | assumption | fail))) | (refine th_tt (le_b rfl) ?_; focus (((repeat' (first | exact all_n | refine all_c ?_ ?_ | (refine smm0 ?_; focus ((first | exact sm_i (by decide) | exact sn_non.up (by decide) (by decide) | exact (sn_bl _).up (by decide) (by decide) | fail))) | (refine (sm_t (le_b rfl) ?_).1; focus (((repeat' (first | exact all_n | refine all_c ?_ ?_ | ((first | exact sm_i (by decide) | exact sn_non.up (by decide) (by decide) | exact (sn_bl _).up (by decide) (by decide) | fail)))); done))) | (refine (sm_t (le_b rfl) ?_).2; focus (((repeat' (first | exact all_n | refine all_c ?_ ?_ | ((first | exact sm_i (by decide) | exact sn_non.up (by decide) (by decide) | exact (sn_bl _).up (by decide) (by decide) | fail)))); done))))); done))) | (refine th_tl (le_b rfl) ?_; focus (((repeat' (first | exact all_n | refine all_c ?_ ?_ | (refine smm0 ?_; focus ((first | exact sm_i (by decide) | exact sn_non.up (by decide) (by decide) | exact (sn_bl _).up (by decide) (by decide) | fail))) | (refine (sm_t (le_b rfl) ?_).1; focus (((repeat' (first | exact all_n | refine all_c ?_ ?_ | ((first | exact sm_i (by decide) | exact sn_non.up (by decide) (by decide) | exact (sn_bl _).up (by decide) (by decide) | fail)))); done))) | (refine (sm_t (le_b rfl) ?_).2; focus (((repeat' (first | exact all_n | refine all_c ?_ ?_ | ((first | exact sm_i (by decide) | exact sn_non.up (by decide) (by decide) | exact (sn_bl _).up (by decide) (by decide) | fail)))); done))))); done))) | fail)))
    have l1 : [D.lst l, D.tup ((List.replicate 41 l).flatten.take 41), D.tup (l ++ (List.replicate (Int.toNat 40) [D.tup [D.int 0, D.int 2]]).flatten), D.non, D.int 0, D.bl true, D.str (Str.ofString "scale"), D.dic [] [], D.tup [D.tup l]].length = 9 := rfl
    generalize [D.lst l, D.tup ((List.replicate 41 l).flatten.take 41), D.tup (l ++ (List.replicate (Int.toNat 40) [D.tup [D.int 0, D.int 2]]).flatten), D.non, D.int 0, D.bl true, D.str (Str.ofString "scale"), D.dic [] [], D.tup [D.tup l]] = rest at a1 l1
    unfold b26_7
    (refine go1 ?_; try simp only [ss_nil, st_asg, st_asgT, st_par, st_seti, st_setk, st_app, st_ins, st_ext, st_expr, st_ret, st_iff, st_forr, st_whl, st_pass, st_brk, st_cont, tg_nm, tg_n, tg_c, tg_co, ev_var, ev_cst, ev_bin, ev_neg, ev_nt, ev_bop, ev_cmp, ev_chn, ev_ife, ev_tup, ev_lst, ev_ix, ev_sl, ev_rv, ev_dnil, ev_dsp, ev_bi, ev_call, ev_pop, ev_popA, ev_comp, ev_isi, te_nt, te_bop, te_cmp, te_chn, te_ife, te_var, te_call, te_bi, te_ix, te_bin, te_isi, te_cst, pk_var, pk_cst, pk_bin, pk_neg, pk_nt, pk_bop, pk_cmp, pk_chn, pk_ife, pk_tup, pk_lst, pk_ix, pk_sl, pk_rv, pk_dnil, pk_dsp, pk_bi, pk_call, pk_pop, pk_popA, pk_comp, pk_isi, rt_var, rt_cst, rt_bin, rt_neg, rt_nt, rt_bop, rt_cmp, rt_chn, rt_ife, rt_tup, rt_lst, rt_ix, rt_sl, rt_rv, rt_dnil, rt_dsp, rt_bi, rt_call, rt_pop, rt_comp, rt_isi, es_nil, es_cons, cs_nil, cs_cons, ps_nil, ps_cons, o_no, o_so, c_no, c_so, i_rg1, i_rg2, i_rg3, i_sq, i_dk, i_en, i_zp, i_rev, get_v, get_s, gets_nil, gets_cons, own_iff, ownd_iff, set_nil, set_cons, o_add, o_adds, o_addl, o_addt, o_sub, o_mul, o_mull, o_multt, o_div, o_mod, o_pow, o_shl, o_shr, o_and, o_or, o_xor, q_eq, q_ne, ek_s, ek_i, ek_b, ek_n, ek_l, ek_t, deq_str, q_lt, q_le, q_gt, q_ge, q_is, q_isn, q_isb, q_isnb, q_inl, q_int, q_nil, q_nit, x_l, x_t, x_s, z_l, z_t, v_l, v_t, f_lenl, f_lent, f_lens, f_abs, f_int, f_intb, f_bool, f_boolb, f_str, f_repr, f_reprB, f_sum, f_max1, f_min1, f_minP, f_max2, f_min2, f_lstl, f_lstt, f_lstd, f_dct, f_sortd, y_d1, y_d2, p_dic, k_dic, f_tupl, f_tupt, f_sorted, f_sortet, f_sset, f_sseu, f_all, f_any, f_gcd, f_lrg1, f_lrg2, f_trg1, f_trg2, t_bl, t_int, t_non, t_lst, t_tup, t_str, List.getElem?_cons_zero, List.getElem?_cons_succ, List.set_cons_zero, List.set_cons_succ, Option.some.injEq, exists_eq_left', exists_eq_left, exists_eq_right, exists_eq_right', cd_sh, cd_ow, D.int.injEq, D.bl.injEq, D.str.injEq, D.tup.injEq, D.lst.injEq, C.ow.injEq, C.sh.injEq, List.cons.injEq, reduceCtorEq, exists_and_left, exists_and_right, exists_const, implies_true, exists_eq, exists_eq', okEq_int, okEq_bl, okEq_non, deq_int, deq_bl, List.length_cons, List.length_nil, Nat.reduceAdd, true_and, and_true, if_true, if_false, decide_eq_true_eq, Bool.true_eq_false, Bool.false_eq_true, false_and, and_false, false_or, or_false, exists_false, and_self, D.hd.injEq, exists_prop, exists_eq_or_imp, Bool.not_eq_true, -Int.reducePow, -Nat.reducePow])
    have e1 : cutD l none (some 1) = l.take 1 := cut_to _ 1
    rw [e1]
    refine ⟨s1000 _ (by decide), s1000 _ (by rw [List.length_take]; omega), s1000 _ (by omega), ?_⟩
    have a2 : Tg (.tup (l.take 1 ++ [.int 1])) := up (rows_s (by rw [List.length_append, List.length_take, List.length_singleton]; omega) (all_a (fun d hd => hs d (List.mem_of_mem_take hd)) (all_c ((at_s (by decide)).up (by decide) (by decide)) all_n))).1 (by decide) (by decide)
    unfold b26_8
    (refine go1 ?_; try simp only [ss_nil, st_asg, st_asgT, st_par, st_seti, st_setk, st_app, st_ins, st_ext, st_expr, st_ret, st_iff, st_forr, st_whl, st_pass, st_brk, st_cont, tg_nm, tg_n, tg_c, tg_co, ev_var, ev_cst, ev_bin, ev_neg, ev_nt, ev_bop, ev_cmp, ev_chn, ev_ife, ev_tup, ev_lst, ev_ix, ev_sl, ev_rv, ev_dnil, ev_dsp, ev_bi, ev_call, ev_pop, ev_popA, ev_comp, ev_isi, te_nt, te_bop, te_cmp, te_chn, te_ife, te_var, te_call, te_bi, te_ix, te_bin, te_isi, te_cst, pk_var, pk_cst, pk_bin, pk_neg, pk_nt, pk_bop, pk_cmp, pk_chn, pk_ife, pk_tup, pk_lst, pk_ix, pk_sl, pk_rv, pk_dnil, pk_dsp, pk_bi, pk_call, pk_pop, pk_popA, pk_comp, pk_isi, rt_var, rt_cst, rt_bin, rt_neg, rt_nt, rt_bop, rt_cmp, rt_chn, rt_ife, rt_tup, rt_lst, rt_ix, rt_sl, rt_rv, rt_dnil, rt_dsp, rt_bi, rt_call, rt_pop, rt_comp, rt_isi, es_nil, es_cons, cs_nil, cs_cons, ps_nil, ps_cons, o_no, o_so, c_no, c_so, i_rg1, i_rg2, i_rg3, i_sq, i_dk, i_en, i_zp, i_rev, get_v, get_s, gets_nil, gets_cons, own_iff, ownd_iff, set_nil, set_cons, o_add, o_adds, o_addl, o_addt, o_sub, o_mul, o_mull, o_multt, o_div, o_mod, o_pow, o_shl, o_shr, o_and, o_or, o_xor, q_eq, q_ne, ek_s, ek_i, ek_b, ek_n, ek_l, ek_t, deq_str, q_lt, q_le, q_gt, q_ge, q_is, q_isn, q_isb, q_isnb, q_inl, q_int, q_nil, q_nit, x_l, x_t, x_s, z_l, z_t, v_l, v_t, f_lenl, f_lent, f_lens, f_abs, f_int, f_intb, f_bool, f_boolb, f_str, f_repr, f_reprB, f_sum, f_max1, f_min1, f_minP, f_max2, f_min2, f_lstl, f_lstt, f_lstd, f_dct, f_sortd, y_d1, y_d2, p_dic, k_dic, f_tupl, f_tupt, f_sorted, f_sortet, f_sset, f_sseu, f_all, f_any, f_gcd, f_lrg1, f_lrg2, f_trg1, f_trg2, t_bl, t_int, t_non, t_lst, t_tup, t_str, List.getElem?_cons_zero, List.getElem?_cons_succ, List.set_cons_zero, List.set_cons_succ, Option.some.injEq, exists_eq_left', exists_eq_left, exists_eq_right, exists_eq_right', cd_sh, cd_ow, D.int.injEq, D.bl.injEq, D.str.injEq, D.tup.injEq, D.lst.injEq, C.ow.injEq, C.sh.injEq, List.cons.injEq, reduceCtorEq, exists_and_left, exists_and_right, exists_const, implies_true, exists_eq, exists_eq', okEq_int, okEq_bl, okEq_non, deq_int, deq_bl, List.length_cons, List.length_nil, Nat.reduceAdd, true_and, and_true, if_true, if_false, decide_eq_true_eq, Bool.true_eq_false, Bool.false_eq_true, false_and, and_false, false_or, or_false, exists_false, and_self, D.hd.injEq, exists_prop, exists_eq_or_imp, Bool.not_eq_true, -Int.reducePow, -Nat.reducePow, g14, g15])
    refine ⟨⟨by decide, log_s (by decide)⟩, fun r _ _ => ?_⟩
    by_cases c : 0 < r
    · exact if_p c (q _ (up (rows_tg (by omega) rh).1 (by decide) (by decide)))
    · refine if_q c ⟨⟨by simp only [List.length_append, l1, List.length_cons, List.length_nil]; decide, by simp only [List.length_append, l1, List.length_cons, List.length_nil]; decide⟩, fun d hd => q d (all_a a1 (all_c a2 all_n) d hd)⟩
theorem goodt_rl {sc : List Rule} (h : GoodT sc) : ∀ d, d ∈ sc.map rl → Rl d := by
  obtain ⟨_, _, L, ⟨L0, L1⟩, g⟩ := h
  intro d hd
  obtain ⟨r, hr, rfl⟩ := List.mem_map.1 hd
  obtain ⟨⟨b0, b1⟩, s0, s1⟩ := g r hr
  refine ⟨r.1, r.2, rfl, ⟨b0, b1⟩, s0, ?_⟩
  have e : T60 = M60 := cM60
  rcases s1 with s1 | s1
  · rw [s1]; decide +kernel
  · have := Int.le_of_dvd L0 s1
    omega
theorem wd_sn {w : Str} (h : w ∈ (["rule", "form", "great"] : List Str)) : Sn 20 0 (.str w) := by
  have key : (["rule", "form", "great"] : List Str).all (fun w => decide ((reprText w).length ≤ 20) && (reprText w).cps.toList.all (fun c => decide (c < 16 ^ 8))) = true := by decide +kernel
  obtain ⟨h1, h2⟩ := Bool.and_eq_true_iff.1 (List.all_eq_true.1 key w h)
  exact sn_str (of_decide_eq_true h1) h2
theorem scerr_sn (d : D) : Sn 100 1 (scerr d) := by
  have f : Sn 100 1 (.str "form") := (wd_sn (by simp)).up (by decide) (by decide)
  have g : Sn 100 1 (.str "great") := (wd_sn (by simp)).up (by decide) (by decide)
  cases d with
  | tup l =>
    by_cases hl : l.length ≤ 40
    · rw [scerr_tup hl]
      cases e : (l.map ruleB).findIdx? (fun b => !b) with
      | none =>
        rw [firB_none e]
        dsimp only
        split
        · exact g
        · exact sn_non.up (by decide) (by decide)
      | some i =>
        rw [firB_some e]
        have il := (List.findIdx?_eq_some_iff_getElem.1 e).1
        rw [List.length_map] at il
        exact (sn_row (l := [.str "rule", .int i]) (j := 2) (m := 21) (k := 0) (Nat.le_refl 2) (all_c ((wd_sn (by simp)).up (by decide) (by decide)) (all_c (sm_i (by omega)) all_n))).1.up (by decide) (by decide)
    · rw [show scerr (.tup l) = .str "form" from if_neg hl]; exact f
  | _ => exact f
def I27 (i : Nat) (e : En) : Prop := ∃ o3 o4 o5 o6 o7 o8 : Option C, e = [none, some (.sh (.hd 0)), some (.sh (.int i)), o3, o4, o5, o6, o7, o8]
theorem t27 : wSs gam b27 { nx := fun _ => False, rt := fun c => c.d = .bl true } [none, some (.sh (.hd 0)), none, none, none, none, none, none, none] := by
  unfold b27
  (refine go1 ?_; try simp only [ss_nil, st_asg, st_asgT, st_par, st_seti, st_setk, st_app, st_ins, st_ext, st_expr, st_ret, st_iff, st_forr, st_whl, st_pass, st_brk, st_cont, tg_nm, tg_n, tg_c, tg_co, ev_var, ev_cst, ev_bin, ev_neg, ev_nt, ev_bop, ev_cmp, ev_chn, ev_ife, ev_tup, ev_lst, ev_ix, ev_sl, ev_rv, ev_dnil, ev_dsp, ev_bi, ev_call, ev_pop, ev_popA, ev_comp, ev_isi, te_nt, te_bop, te_cmp, te_chn, te_ife, te_var, te_call, te_bi, te_ix, te_bin, te_isi, te_cst, pk_var, pk_cst, pk_bin, pk_neg, pk_nt, pk_bop, pk_cmp, pk_chn, pk_ife, pk_tup, pk_lst, pk_ix, pk_sl, pk_rv, pk_dnil, pk_dsp, pk_bi, pk_call, pk_pop, pk_popA, pk_comp, pk_isi, rt_var, rt_cst, rt_bin, rt_neg, rt_nt, rt_bop, rt_cmp, rt_chn, rt_ife, rt_tup, rt_lst, rt_ix, rt_sl, rt_rv, rt_dnil, rt_dsp, rt_bi, rt_call, rt_pop, rt_comp, rt_isi, es_nil, es_cons, cs_nil, cs_cons, ps_nil, ps_cons, o_no, o_so, c_no, c_so, i_rg1, i_rg2, i_rg3, i_sq, i_dk, i_en, i_zp, i_rev, get_v, get_s, gets_nil, gets_cons, own_iff, ownd_iff, set_nil, set_cons, o_add, o_adds, o_addl, o_addt, o_sub, o_mul, o_mull, o_multt, o_div, o_mod, o_pow, o_shl, o_shr, o_and, o_or, o_xor, q_eq, q_ne, ek_s, ek_i, ek_b, ek_n, ek_l, ek_t, deq_str, q_lt, q_le, q_gt, q_ge, q_is, q_isn, q_isb, q_isnb, q_inl, q_int, q_nil, q_nit, x_l, x_t, x_s, z_l, z_t, v_l, v_t, f_lenl, f_lent, f_lens, f_abs, f_int, f_intb, f_bool, f_boolb, f_str, f_repr, f_reprB, f_sum, f_max1, f_min1, f_minP, f_max2, f_min2, f_lstl, f_lstt, f_lstd, f_dct, f_sortd, y_d1, y_d2, p_dic, k_dic, f_tupl, f_tupt, f_sorted, f_sortet, f_sset, f_sseu, f_all, f_any, f_gcd, f_lrg1, f_lrg2, f_trg1, f_trg2, t_bl, t_int, t_non, t_lst, t_tup, t_str, List.getElem?_cons_zero, List.getElem?_cons_succ, List.set_cons_zero, List.set_cons_succ, Option.some.injEq, exists_eq_left', exists_eq_left, exists_eq_right, exists_eq_right', cd_sh, cd_ow, D.int.injEq, D.bl.injEq, D.str.injEq, D.tup.injEq, D.lst.injEq, C.ow.injEq, C.sh.injEq, List.cons.injEq, reduceCtorEq, exists_and_left, exists_and_right, exists_const, implies_true, exists_eq, exists_eq', okEq_int, okEq_bl, okEq_non, deq_int, deq_bl, List.length_cons, List.length_nil, Nat.reduceAdd, true_and, and_true, if_true, if_false, decide_eq_true_eq, Bool.true_eq_false, Bool.false_eq_true, false_and, and_false, false_or, or_false, exists_false, and_self, D.hd.injEq, exists_prop, exists_eq_or_imp, Bool.not_eq_true, -Int.reducePow, -Nat.reducePow])
  refine ⟨by decide, ?_⟩
  refine for_inv gam_ok (fun _ e => ∃ o2 o3 o4 o5 o6 o7 o8 : Option C, e = [none, some (.sh (.hd 0)), o2, o3, o4, o5, o6, o7, o8]) _ 0 _ ⟨_, _, _, _, _, _, _, rfl⟩ (fun j d e hd ⟨o2, o3, o4, o5, o6, o7, o8, he⟩ => ?_) fun e ⟨o2, o3, o4, o5, o6, o7, o8, he⟩ => ?_
  · subst he
    have jl := (List.getElem?_eq_some_iff.mp hd).1
    obtain ⟨t, ht, rfl⟩ := List.mem_map.1 (List.mem_of_getElem? hd)
    have tl : t < 7 := List.mem_range.1 ht
    rw [tg_nm]
    have menu : ∃ m : Int, atI [D.int 3, .int 6, .int 12, .int 39, .int 40, .int 2, .int 1] (t : Int) = some (.int m) ∧ 1 ≤ m ∧ m ≤ 40 := by
      have : t = 0 ∨ t = 1 ∨ t = 2 ∨ t = 3 ∨ t = 4 ∨ t = 5 ∨ t = 6 := by omega
      rcases this with rfl | rfl | rfl | rfl | rfl | rfl | rfl <;> exact ⟨_, rfl, by decide, by decide⟩
    obtain ⟨m, hm, m0, m1⟩ := menu
    unfold l27_1
    (refine go1 ?_; try simp only [ss_nil, st_asg, st_asgT, st_par, st_seti, st_setk, st_app, st_ins, st_ext, st_expr, st_ret, st_iff, st_forr, st_whl, st_pass, st_brk, st_cont, tg_nm, tg_n, tg_c, tg_co, ev_var, ev_cst, ev_bin, ev_neg, ev_nt, ev_bop, ev_cmp, ev_chn, ev_ife, ev_tup, ev_lst, ev_ix, ev_sl, ev_rv, ev_dnil, ev_dsp, ev_bi, ev_call, ev_pop, ev_popA, ev_comp, ev_isi, te_nt, te_bop, te_cmp, te_chn, te_ife, te_var, te_call, te_bi, te_ix, te_bin, te_isi, te_cst, pk_var, pk_cst, pk_bin, pk_neg, pk_nt, pk_bop, pk_cmp, pk_chn, pk_ife, pk_tup, pk_lst, pk_ix, pk_sl, pk_rv, pk_dnil, pk_dsp, pk_bi, pk_call, pk_pop, pk_popA, pk_comp, pk_isi, rt_var, rt_cst, rt_bin, rt_neg, rt_nt, rt_bop, rt_cmp, rt_chn, rt_ife, rt_tup, rt_lst, rt_ix, rt_sl, rt_rv, rt_dnil, rt_dsp, rt_bi, rt_call, rt_pop, rt_comp, rt_isi, es_nil, es_cons, cs_nil, cs_cons, ps_nil, ps_cons, o_no, o_so, c_no, c_so, i_rg1, i_rg2, i_rg3, i_sq, i_dk, i_en, i_zp, i_rev, get_v, get_s, gets_nil, gets_cons, own_iff, ownd_iff, set_nil, set_cons, o_add, o_adds, o_addl, o_addt, o_sub, o_mul, o_mull, o_multt, o_div, o_mod, o_pow, o_shl, o_shr, o_and, o_or, o_xor, q_eq, q_ne, ek_s, ek_i, ek_b, ek_n, ek_l, ek_t, deq_str, q_lt, q_le, q_gt, q_ge, q_is, q_isn, q_isb, q_isnb, q_inl, q_int, q_nil, q_nit, x_l, x_t, x_s, z_l, z_t, v_l, v_t, f_lenl, f_lent, f_lens, f_abs, f_int, f_intb, f_bool, f_boolb, f_str, f_repr, f_reprB, f_sum, f_max1, f_min1, f_minP, f_max2, f_min2, f_lstl, f_lstt, f_lstd, f_dct, f_sortd, y_d1, y_d2, p_dic, k_dic, f_tupl, f_tupt, f_sorted, f_sortet, f_sset, f_sseu, f_all, f_any, f_gcd, f_lrg1, f_lrg2, f_trg1, f_trg2, t_bl, t_int, t_non, t_lst, t_tup, t_str, List.getElem?_cons_zero, List.getElem?_cons_succ, List.set_cons_zero, List.set_cons_succ, Option.some.injEq, exists_eq_left', exists_eq_left, exists_eq_right, exists_eq_right', cd_sh, cd_ow, D.int.injEq, D.bl.injEq, D.str.injEq, D.tup.injEq, D.lst.injEq, C.ow.injEq, C.sh.injEq, List.cons.injEq, reduceCtorEq, exists_and_left, exists_and_right, exists_const, implies_true, exists_eq, exists_eq', okEq_int, okEq_bl, okEq_non, deq_int, deq_bl, List.length_cons, List.length_nil, Nat.reduceAdd, true_and, and_true, if_true, if_false, decide_eq_true_eq, Bool.true_eq_false, Bool.false_eq_true, false_and, and_false, false_or, or_false, exists_false, and_self, D.hd.injEq, exists_prop, exists_eq_or_imp, Bool.not_eq_true, -Int.reducePow, -Nat.reducePow, g22, hm])
    refine ⟨s1000 _ (by decide), ⟨m0, m1⟩, fun sc hg => ?_⟩
    have hr := goodt_rl hg
    have sl : sc.length ≤ 40 := hg.2.1
    have hsm : ∀ d, d ∈ sc.map rl → Sn 430 1 d := fun d hd => rl_tw (hr d hd)
    unfold b27_2
    (refine go1 ?_; try simp only [ss_nil, st_asg, st_asgT, st_par, st_seti, st_setk, st_app, st_ins, st_ext, st_expr, st_ret, st_iff, st_forr, st_whl, st_pass, st_brk, st_cont, tg_nm, tg_n, tg_c, tg_co, ev_var, ev_cst, ev_bin, ev_neg, ev_nt, ev_bop, ev_cmp, ev_chn, ev_ife, ev_tup, ev_lst, ev_ix, ev_sl, ev_rv, ev_dnil, ev_dsp, ev_bi, ev_call, ev_pop, ev_popA, ev_comp, ev_isi, te_nt, te_bop, te_cmp, te_chn, te_ife, te_var, te_call, te_bi, te_ix, te_bin, te_isi, te_cst, pk_var, pk_cst, pk_bin, pk_neg, pk_nt, pk_bop, pk_cmp, pk_chn, pk_ife, pk_tup, pk_lst, pk_ix, pk_sl, pk_rv, pk_dnil, pk_dsp, pk_bi, pk_call, pk_pop, pk_popA, pk_comp, pk_isi, rt_var, rt_cst, rt_bin, rt_neg, rt_nt, rt_bop, rt_cmp, rt_chn, rt_ife, rt_tup, rt_lst, rt_ix, rt_sl, rt_rv, rt_dnil, rt_dsp, rt_bi, rt_call, rt_pop, rt_comp, rt_isi, es_nil, es_cons, cs_nil, cs_cons, ps_nil, ps_cons, o_no, o_so, c_no, c_so, i_rg1, i_rg2, i_rg3, i_sq, i_dk, i_en, i_zp, i_rev, get_v, get_s, gets_nil, gets_cons, own_iff, ownd_iff, set_nil, set_cons, o_add, o_adds, o_addl, o_addt, o_sub, o_mul, o_mull, o_multt, o_div, o_mod, o_pow, o_shl, o_shr, o_and, o_or, o_xor, q_eq, q_ne, ek_s, ek_i, ek_b, ek_n, ek_l, ek_t, deq_str, q_lt, q_le, q_gt, q_ge, q_is, q_isn, q_isb, q_isnb, q_inl, q_int, q_nil, q_nit, x_l, x_t, x_s, z_l, z_t, v_l, v_t, f_lenl, f_lent, f_lens, f_abs, f_int, f_intb, f_bool, f_boolb, f_str, f_repr, f_reprB, f_sum, f_max1, f_min1, f_minP, f_max2, f_min2, f_lstl, f_lstt, f_lstd, f_dct, f_sortd, y_d1, y_d2, p_dic, k_dic, f_tupl, f_tupt, f_sorted, f_sortet, f_sset, f_sseu, f_all, f_any, f_gcd, f_lrg1, f_lrg2, f_trg1, f_trg2, t_bl, t_int, t_non, t_lst, t_tup, t_str, List.getElem?_cons_zero, List.getElem?_cons_succ, List.set_cons_zero, List.set_cons_succ, Option.some.injEq, exists_eq_left', exists_eq_left, exists_eq_right, exists_eq_right', cd_sh, cd_ow, D.int.injEq, D.bl.injEq, D.str.injEq, D.tup.injEq, D.lst.injEq, C.ow.injEq, C.sh.injEq, List.cons.injEq, reduceCtorEq, exists_and_left, exists_and_right, exists_const, implies_true, exists_eq, exists_eq', okEq_int, okEq_bl, okEq_non, deq_int, deq_bl, List.length_cons, List.length_nil, Nat.reduceAdd, true_and, and_true, if_true, if_false, decide_eq_true_eq, Bool.true_eq_false, Bool.false_eq_true, false_and, and_false, false_or, or_false, exists_false, and_self, D.hd.injEq, exists_prop, exists_eq_or_imp, Bool.not_eq_true, -Int.reducePow, -Nat.reducePow, g26])
    have e4 : cutD (sc.map rl) none (some 4) = (sc.map rl).take 4 := cut_to _ 4
    have e3 : cutD (sc.map rl) none (some 3) = (sc.map rl).take 3 := cut_to _ 3
    rw [e4]
    refine ⟨s1000 _ (by decide), ⟨by rw [List.length_map]; exact sl, hr⟩, fun v3 hv3 => ⟨⟨by rw [List.length_take]; omega, fun d hd => hr d (List.mem_of_mem_take hd)⟩, fun v4 hv4 => ⟨s1000 _ (by decide), ?_⟩⟩⟩
    have a0 : ∀ d, d ∈ [SC sc, D.tup [], v3, v4] → Tg d := all_c ((rows_s (by rw [List.length_map]; omega) hsm).1.up (by decide) (by decide)) (all_c ((th_t (l := []) (le_b rfl) all_n).up (by decide) (by decide)) (all_c hv3 (all_c hv4 all_n)))
    have l0 : [SC sc, D.tup [], v3, v4].length = 4 := rfl
    generalize [SC sc, D.tup [], v3, v4] = T0 at a0 l0
    have b60 : At (.int M60) := at_i (by decide +kernel)
    unfold b27_3
    (refine go1 ?_; try simp only [ss_nil, st_asg, st_asgT, st_par, st_seti, st_setk, st_app, st_ins, st_ext, st_expr, st_ret, st_iff, st_forr, st_whl, st_pass, st_brk, st_cont, tg_nm, tg_n, tg_c, tg_co, ev_var, ev_cst, ev_bin, ev_neg, ev_nt, ev_bop, ev_cmp, ev_chn, ev_ife, ev_tup, ev_lst, ev_ix, ev_sl, ev_rv, ev_dnil, ev_dsp, ev_bi, ev_call, ev_pop, ev_popA, ev_comp, ev_isi, te_nt, te_bop, te_cmp, te_chn, te_ife, te_var, te_call, te_bi, te_ix, te_bin, te_isi, te_cst, pk_var, pk_cst, pk_bin, pk_neg, pk_nt, pk_bop, pk_cmp, pk_chn, pk_ife, pk_tup, pk_lst, pk_ix, pk_sl, pk_rv, pk_dnil, pk_dsp, pk_bi, pk_call, pk_pop, pk_popA, pk_comp, pk_isi, rt_var, rt_cst, rt_bin, rt_neg, rt_nt, rt_bop, rt_cmp, rt_chn, rt_ife, rt_tup, rt_lst, rt_ix, rt_sl, rt_rv, rt_dnil, rt_dsp, rt_bi, rt_call, rt_pop, rt_comp, rt_isi, es_nil, es_cons, cs_nil, cs_cons, ps_nil, ps_cons, o_no, o_so, c_no, c_so, i_rg1, i_rg2, i_rg3, i_sq, i_dk, i_en, i_zp, i_rev, get_v, get_s, gets_nil, gets_cons, own_iff, ownd_iff, set_nil, set_cons, o_add, o_adds, o_addl, o_addt, o_sub, o_mul, o_mull, o_multt, o_div, o_mod, o_pow, o_shl, o_shr, o_and, o_or, o_xor, q_eq, q_ne, ek_s, ek_i, ek_b, ek_n, ek_l, ek_t, deq_str, q_lt, q_le, q_gt, q_ge, q_is, q_isn, q_isb, q_isnb, q_inl, q_int, q_nil, q_nit, x_l, x_t, x_s, z_l, z_t, v_l, v_t, f_lenl, f_lent, f_lens, f_abs, f_int, f_intb, f_bool, f_boolb, f_str, f_repr, f_reprB, f_sum, f_max1, f_min1, f_minP, f_max2, f_min2, f_lstl, f_lstt, f_lstd, f_dct, f_sortd, y_d1, y_d2, p_dic, k_dic, f_tupl, f_tupt, f_sorted, f_sortet, f_sset, f_sseu, f_all, f_any, f_gcd, f_lrg1, f_lrg2, f_trg1, f_trg2, t_bl, t_int, t_non, t_lst, t_tup, t_str, List.getElem?_cons_zero, List.getElem?_cons_succ, List.set_cons_zero, List.set_cons_succ, Option.some.injEq, exists_eq_left', exists_eq_left, exists_eq_right, exists_eq_right', cd_sh, cd_ow, D.int.injEq, D.bl.injEq, D.str.injEq, D.tup.injEq, D.lst.injEq, C.ow.injEq, C.sh.injEq, List.cons.injEq, reduceCtorEq, exists_and_left, exists_and_right, exists_const, implies_true, exists_eq, exists_eq', okEq_int, okEq_bl, okEq_non, deq_int, deq_bl, List.length_cons, List.length_nil, Nat.reduceAdd, true_and, and_true, if_true, if_false, decide_eq_true_eq, Bool.true_eq_false, Bool.false_eq_true, false_and, and_false, false_or, or_false, exists_false, and_self, D.hd.injEq, exists_prop, exists_eq_or_imp, Bool.not_eq_true, -Int.reducePow, -Nat.reducePow, E60])
    rw [e3]
    refine ⟨pw10 _ (by decide) (by decide), s1000 _ (by decide), s1000 _ (by decide), s1000 _ (by decide), s1000 _ (by rw [List.length_take]; omega), s1000 _ (by omega), ?_⟩
    have a1 : Tg (.tup ((sc.map rl).take 3 ++ [.tup [.int 0, .int M60], .tup [.int 9, .int 7]])) := (rows_s (by rw [List.length_append, List.length_take]; simp only [List.length_cons, List.length_nil]; omega) (all_a (fun d hd => hsm d (List.mem_of_mem_take hd)) (all_c (pr_sn (at_s (by decide)) b60) (all_c (pr_sn (at_s (by decide)) (at_s (by decide))) all_n)))).1.up (by decide) (by decide)
    unfold b27_4
    (refine go1 ?_; try simp only [ss_nil, st_asg, st_asgT, st_par, st_seti, st_setk, st_app, st_ins, st_ext, st_expr, st_ret, st_iff, st_forr, st_whl, st_pass, st_brk, st_cont, tg_nm, tg_n, tg_c, tg_co, ev_var, ev_cst, ev_bin, ev_neg, ev_nt, ev_bop, ev_cmp, ev_chn, ev_ife, ev_tup, ev_lst, ev_ix, ev_sl, ev_rv, ev_dnil, ev_dsp, ev_bi, ev_call, ev_pop, ev_popA, ev_comp, ev_isi, te_nt, te_bop, te_cmp, te_chn, te_ife, te_var, te_call, te_bi, te_ix, te_bin, te_isi, te_cst, pk_var, pk_cst, pk_bin, pk_neg, pk_nt, pk_bop, pk_cmp, pk_chn, pk_ife, pk_tup, pk_lst, pk_ix, pk_sl, pk_rv, pk_dnil, pk_dsp, pk_bi, pk_call, pk_pop, pk_popA, pk_comp, pk_isi, rt_var, rt_cst, rt_bin, rt_neg, rt_nt, rt_bop, rt_cmp, rt_chn, rt_ife, rt_tup, rt_lst, rt_ix, rt_sl, rt_rv, rt_dnil, rt_dsp, rt_bi, rt_call, rt_pop, rt_comp, rt_isi, es_nil, es_cons, cs_nil, cs_cons, ps_nil, ps_cons, o_no, o_so, c_no, c_so, i_rg1, i_rg2, i_rg3, i_sq, i_dk, i_en, i_zp, i_rev, get_v, get_s, gets_nil, gets_cons, own_iff, ownd_iff, set_nil, set_cons, o_add, o_adds, o_addl, o_addt, o_sub, o_mul, o_mull, o_multt, o_div, o_mod, o_pow, o_shl, o_shr, o_and, o_or, o_xor, q_eq, q_ne, ek_s, ek_i, ek_b, ek_n, ek_l, ek_t, deq_str, q_lt, q_le, q_gt, q_ge, q_is, q_isn, q_isb, q_isnb, q_inl, q_int, q_nil, q_nit, x_l, x_t, x_s, z_l, z_t, v_l, v_t, f_lenl, f_lent, f_lens, f_abs, f_int, f_intb, f_bool, f_boolb, f_str, f_repr, f_reprB, f_sum, f_max1, f_min1, f_minP, f_max2, f_min2, f_lstl, f_lstt, f_lstd, f_dct, f_sortd, y_d1, y_d2, p_dic, k_dic, f_tupl, f_tupt, f_sorted, f_sortet, f_sset, f_sseu, f_all, f_any, f_gcd, f_lrg1, f_lrg2, f_trg1, f_trg2, t_bl, t_int, t_non, t_lst, t_tup, t_str, List.getElem?_cons_zero, List.getElem?_cons_succ, List.set_cons_zero, List.set_cons_succ, Option.some.injEq, exists_eq_left', exists_eq_left, exists_eq_right, exists_eq_right', cd_sh, cd_ow, D.int.injEq, D.bl.injEq, D.str.injEq, D.tup.injEq, D.lst.injEq, C.ow.injEq, C.sh.injEq, List.cons.injEq, reduceCtorEq, exists_and_left, exists_and_right, exists_const, implies_true, exists_eq, exists_eq', okEq_int, okEq_bl, okEq_non, deq_int, deq_bl, List.length_cons, List.length_nil, Nat.reduceAdd, true_and, and_true, if_true, if_false, decide_eq_true_eq, Bool.true_eq_false, Bool.false_eq_true, false_and, and_false, false_or, or_false, exists_false, and_self, D.hd.injEq, exists_prop, exists_eq_or_imp, Bool.not_eq_true, -Int.reducePow, -Nat.reducePow, g14, E60])
    refine ⟨⟨by decide, log_s (by decide)⟩, fun r r0 r1 => ⟨pw10 _ (by decide) (by decide), s1000 _ (by decide), s1000 _ (by decide), s1000 _ (by decide), s1000 _ (by decide), s1000 _ (by decide), ⟨by decide, log_s (by decide)⟩, fun r2 r20 r21 => ?_⟩⟩
    obtain ⟨n, rfl⟩ : ∃ n : Nat, r2 = n := ⟨r2.toNat, by omega⟩
    rw [cut_to]
    refine ⟨s1000 _ (by rw [List.length_take]; omega), s1000 _ (by rw [List.length_append, l0]; simp only [List.length_cons, List.length_nil]; decide), ?_⟩
    have a2 : Tg (.tup ([D.tup [D.int r, D.int M60]] ++ [D.tup [D.int 9, D.int 10], D.tup [D.int 7, D.int 16]].take n)) := (rows_s (by rw [List.length_append, List.length_take]; simp only [List.length_cons, List.length_nil]; omega) (all_a (all_c (pr_sn (at_s (by omega)) b60) all_n) fun d hd => (show ∀ d, d ∈ [D.tup [D.int 9, D.int 10], D.tup [D.int 7, D.int 16]] → Sn 430 1 d from all_c (pr_sn (at_s (by decide)) (at_s (by decide))) (all_c (pr_sn (at_s (by decide)) (at_s (by decide))) all_n)) d (List.mem_of_mem_take hd))).1.up (by decide) (by decide)
    have a3 := all_a (all_a a0 (all_c a1 all_n)) (all_c a2 all_n)
    have l3 : (T0 ++ [D.tup ((sc.map rl).take 3 ++ [.tup [.int 0, .int M60], .tup [.int 9, .int 7]])] ++ [D.tup ([D.tup [D.int r, D.int M60]] ++ [D.tup [D.int 9, D.int 10], D.tup [D.int 7, D.int 16]].take n)]).length = 6 := by
      rw [List.length_append, List.length_append, l0]; rfl
    generalize T0 ++ [D.tup ((sc.map rl).take 3 ++ [.tup [.int 0, .int M60], .tup [.int 9, .int 7]])] ++ [D.tup ([D.tup [D.int r, D.int M60]] ++ [D.tup [D.int 9, D.int 10], D.tup [D.int 7, D.int 16]].take n)] = T at a3 l3
    have ok : okShB (.lst T) := (sn_row (j := 6) (by omega) a3).2.ok (by decide) (by decide)
    unfold b27_5
    (refine go1 ?_; try simp only [ss_nil, st_asg, st_asgT, st_par, st_seti, st_setk, st_app, st_ins, st_ext, st_expr, st_ret, st_iff, st_forr, st_whl, st_pass, st_brk, st_cont, tg_nm, tg_n, tg_c, tg_co, ev_var, ev_cst, ev_bin, ev_neg, ev_nt, ev_bop, ev_cmp, ev_chn, ev_ife, ev_tup, ev_lst, ev_ix, ev_sl, ev_rv, ev_dnil, ev_dsp, ev_bi, ev_call, ev_pop, ev_popA, ev_comp, ev_isi, te_nt, te_bop, te_cmp, te_chn, te_ife, te_var, te_call, te_bi, te_ix, te_bin, te_isi, te_cst, pk_var, pk_cst, pk_bin, pk_neg, pk_nt, pk_bop, pk_cmp, pk_chn, pk_ife, pk_tup, pk_lst, pk_ix, pk_sl, pk_rv, pk_dnil, pk_dsp, pk_bi, pk_call, pk_pop, pk_popA, pk_comp, pk_isi, rt_var, rt_cst, rt_bin, rt_neg, rt_nt, rt_bop, rt_cmp, rt_chn, rt_ife, rt_tup, rt_lst, rt_ix, rt_sl, rt_rv, rt_dnil, rt_dsp, rt_bi, rt_call, rt_pop, rt_comp, rt_isi, es_nil, es_cons, cs_nil, cs_cons, ps_nil, ps_cons, o_no, o_so, c_no, c_so, i_rg1, i_rg2, i_rg3, i_sq, i_dk, i_en, i_zp, i_rev, get_v, get_s, gets_nil, gets_cons, own_iff, ownd_iff, set_nil, set_cons, o_add, o_adds, o_addl, o_addt, o_sub, o_mul, o_mull, o_multt, o_div, o_mod, o_pow, o_shl, o_shr, o_and, o_or, o_xor, q_eq, q_ne, ek_s, ek_i, ek_b, ek_n, ek_l, ek_t, deq_str, q_lt, q_le, q_gt, q_ge, q_is, q_isn, q_isb, q_isnb, q_inl, q_int, q_nil, q_nit, x_l, x_t, x_s, z_l, z_t, v_l, v_t, f_lenl, f_lent, f_lens, f_abs, f_int, f_intb, f_bool, f_boolb, f_str, f_repr, f_reprB, f_sum, f_max1, f_min1, f_minP, f_max2, f_min2, f_lstl, f_lstt, f_lstd, f_dct, f_sortd, y_d1, y_d2, p_dic, k_dic, f_tupl, f_tupt, f_sorted, f_sortet, f_sset, f_sseu, f_all, f_any, f_gcd, f_lrg1, f_lrg2, f_trg1, f_trg2, t_bl, t_int, t_non, t_lst, t_tup, t_str, List.getElem?_cons_zero, List.getElem?_cons_succ, List.set_cons_zero, List.set_cons_succ, Option.some.injEq, exists_eq_left', exists_eq_left, exists_eq_right, exists_eq_right', cd_sh, cd_ow, D.int.injEq, D.bl.injEq, D.str.injEq, D.tup.injEq, D.lst.injEq, C.ow.injEq, C.sh.injEq, List.cons.injEq, reduceCtorEq, exists_and_left, exists_and_right, exists_const, implies_true, exists_eq, exists_eq', okEq_int, okEq_bl, okEq_non, deq_int, deq_bl, List.length_cons, List.length_nil, Nat.reduceAdd, true_and, and_true, if_true, if_false, decide_eq_true_eq, Bool.true_eq_false, Bool.false_eq_true, false_and, and_false, false_or, or_false, exists_false, and_self, D.hd.injEq, exists_prop, exists_eq_or_imp, Bool.not_eq_true, -Int.reducePow, -Nat.reducePow])
    refine ⟨ok, ?_⟩
    unfold b27_6
    (refine go1 ?_; try simp only [ss_nil, st_asg, st_asgT, st_par, st_seti, st_setk, st_app, st_ins, st_ext, st_expr, st_ret, st_iff, st_forr, st_whl, st_pass, st_brk, st_cont, tg_nm, tg_n, tg_c, tg_co, ev_var, ev_cst, ev_bin, ev_neg, ev_nt, ev_bop, ev_cmp, ev_chn, ev_ife, ev_tup, ev_lst, ev_ix, ev_sl, ev_rv, ev_dnil, ev_dsp, ev_bi, ev_call, ev_pop, ev_popA, ev_comp, ev_isi, te_nt, te_bop, te_cmp, te_chn, te_ife, te_var, te_call, te_bi, te_ix, te_bin, te_isi, te_cst, pk_var, pk_cst, pk_bin, pk_neg, pk_nt, pk_bop, pk_cmp, pk_chn, pk_ife, pk_tup, pk_lst, pk_ix, pk_sl, pk_rv, pk_dnil, pk_dsp, pk_bi, pk_call, pk_pop, pk_popA, pk_comp, pk_isi, rt_var, rt_cst, rt_bin, rt_neg, rt_nt, rt_bop, rt_cmp, rt_chn, rt_ife, rt_tup, rt_lst, rt_ix, rt_sl, rt_rv, rt_dnil, rt_dsp, rt_bi, rt_call, rt_pop, rt_comp, rt_isi, es_nil, es_cons, cs_nil, cs_cons, ps_nil, ps_cons, o_no, o_so, c_no, c_so, i_rg1, i_rg2, i_rg3, i_sq, i_dk, i_en, i_zp, i_rev, get_v, get_s, gets_nil, gets_cons, own_iff, ownd_iff, set_nil, set_cons, o_add, o_adds, o_addl, o_addt, o_sub, o_mul, o_mull, o_multt, o_div, o_mod, o_pow, o_shl, o_shr, o_and, o_or, o_xor, q_eq, q_ne, ek_s, ek_i, ek_b, ek_n, ek_l, ek_t, deq_str, q_lt, q_le, q_gt, q_ge, q_is, q_isn, q_isb, q_isnb, q_inl, q_int, q_nil, q_nit, x_l, x_t, x_s, z_l, z_t, v_l, v_t, f_lenl, f_lent, f_lens, f_abs, f_int, f_intb, f_bool, f_boolb, f_str, f_repr, f_reprB, f_sum, f_max1, f_min1, f_minP, f_max2, f_min2, f_lstl, f_lstt, f_lstd, f_dct, f_sortd, y_d1, y_d2, p_dic, k_dic, f_tupl, f_tupt, f_sorted, f_sortet, f_sset, f_sseu, f_all, f_any, f_gcd, f_lrg1, f_lrg2, f_trg1, f_trg2, t_bl, t_int, t_non, t_lst, t_tup, t_str, List.getElem?_cons_zero, List.getElem?_cons_succ, List.set_cons_zero, List.set_cons_succ, Option.some.injEq, exists_eq_left', exists_eq_left, exists_eq_right, exists_eq_right', cd_sh, cd_ow, D.int.injEq, D.bl.injEq, D.str.injEq, D.tup.injEq, D.lst.injEq, C.ow.injEq, C.sh.injEq, List.cons.injEq, reduceCtorEq, exists_and_left, exists_and_right, exists_const, implies_true, exists_eq, exists_eq', okEq_int, okEq_bl, okEq_non, deq_int, deq_bl, List.length_cons, List.length_nil, Nat.reduceAdd, true_and, and_true, if_true, if_false, decide_eq_true_eq, Bool.true_eq_false, Bool.false_eq_true, false_and, and_false, false_or, or_false, exists_false, and_self, D.hd.injEq, exists_prop, exists_eq_or_imp, Bool.not_eq_true, -Int.reducePow, -Nat.reducePow])
    refine for_inv gam_ok (fun _ e => ∃ o6 o7 o8 : Option C, e = [none, some (.sh (.hd 0)), some (.sh (.int t)), some (.sh (SC sc)), some (.sh (.lst T)), some (.sh (.str (txt (.lst T)))), o6, o7, o8]) _ 0 _ ⟨_, _, _, rfl⟩ (fun i d2 e hd2 ⟨o6, o7, o8, he⟩ => ?_) fun e ⟨o6, o7, o8, he⟩ => ?_
    · subst he
      obtain ⟨x, hx, rfl⟩ := enum_at hd2
      have tx := a3 x (List.mem_of_getElem? hx)
      simp only [ss_nil, st_asg, st_asgT, st_par, st_seti, st_setk, st_app, st_ins, st_ext, st_expr, st_ret, st_iff, st_forr, st_whl, st_pass, st_brk, st_cont, tg_nm, tg_n, tg_c, tg_co, ev_var, ev_cst, ev_bin, ev_neg, ev_nt, ev_bop, ev_cmp, ev_chn, ev_ife, ev_tup, ev_lst, ev_ix, ev_sl, ev_rv, ev_dnil, ev_dsp, ev_bi, ev_call, ev_pop, ev_popA, ev_comp, ev_isi, te_nt, te_bop, te_cmp, te_chn, te_ife, te_var, te_call, te_bi, te_ix, te_bin, te_isi, te_cst, pk_var, pk_cst, pk_bin, pk_neg, pk_nt, pk_bop, pk_cmp, pk_chn, pk_ife, pk_tup, pk_lst, pk_ix, pk_sl, pk_rv, pk_dnil, pk_dsp, pk_bi, pk_call, pk_pop, pk_popA, pk_comp, pk_isi, rt_var, rt_cst, rt_bin, rt_neg, rt_nt, rt_bop, rt_cmp, rt_chn, rt_ife, rt_tup, rt_lst, rt_ix, rt_sl, rt_rv, rt_dnil, rt_dsp, rt_bi, rt_call, rt_pop, rt_comp, rt_isi, es_nil, es_cons, cs_nil, cs_cons, ps_nil, ps_cons, o_no, o_so, c_no, c_so, i_rg1, i_rg2, i_rg3, i_sq, i_dk, i_en, i_zp, i_rev, get_v, get_s, gets_nil, gets_cons, own_iff, ownd_iff, set_nil, set_cons, o_add, o_adds, o_addl, o_addt, o_sub, o_mul, o_mull, o_multt, o_div, o_mod, o_pow, o_shl, o_shr, o_and, o_or, o_xor, q_eq, q_ne, ek_s, ek_i, ek_b, ek_n, ek_l, ek_t, deq_str, q_lt, q_le, q_gt, q_ge, q_is, q_isn, q_isb, q_isnb, q_inl, q_int, q_nil, q_nit, x_l, x_t, x_s, z_l, z_t, v_l, v_t, f_lenl, f_lent, f_lens, f_abs, f_int, f_intb, f_bool, f_boolb, f_str, f_repr, f_reprB, f_sum, f_max1, f_min1, f_minP, f_max2, f_min2, f_lstl, f_lstt, f_lstd, f_dct, f_sortd, y_d1, y_d2, p_dic, k_dic, f_tupl, f_tupt, f_sorted, f_sortet, f_sset, f_sseu, f_all, f_any, f_gcd, f_lrg1, f_lrg2, f_trg1, f_trg2, t_bl, t_int, t_non, t_lst, t_tup, t_str, List.getElem?_cons_zero, List.getElem?_cons_succ, List.set_cons_zero, List.set_cons_succ, Option.some.injEq, exists_eq_left', exists_eq_left, exists_eq_right, exists_eq_right', cd_sh, cd_ow, D.int.injEq, D.bl.injEq, D.str.injEq, D.tup.injEq, D.lst.injEq, C.ow.injEq, C.sh.injEq, List.cons.injEq, reduceCtorEq, exists_and_left, exists_and_right, exists_const, implies_true, exists_eq, exists_eq', okEq_int, okEq_bl, okEq_non, deq_int, deq_bl, List.length_cons, List.length_nil, Nat.reduceAdd, true_and, and_true, if_true, if_false, decide_eq_true_eq, Bool.true_eq_false, Bool.false_eq_true, false_and, and_false, false_or, or_false, exists_false, and_self, D.hd.injEq, exists_prop, exists_eq_or_imp, Bool.not_eq_true, -Int.reducePow, -Nat.reducePow]
      have key : wSs gam b27_8 { nx := fun e => ∃ o6 o7 o8 : Option C, e = [none, some (.sh (.hd 0)), some (.sh (.int t)), some (.sh (SC sc)), some (.sh (.lst T)), some (.sh (.str (txt (.lst T)))), o6, o7, o8], rt := fun c => c.d = .bl true, bk := fun e1 => wSs gam b27_10 { nx := fun e => ∃ o2 o3 o4 o5 o6 o7 o8 : Option C, e = [none, some (.sh (.hd 0)), o2, o3, o4, o5, o6, o7, o8], rt := fun c => c.d = .bl true, bk := fun env1 => wSs gam b27_12 { nx := fun x => False, rt := fun c => c.d = .bl true } env1, ct := fun e => ∃ o2 o3 o4 o5 o6 o7 o8 : Option C, e = [none, some (.sh (.hd 0)), o2, o3, o4, o5, o6, o7, o8] } e1, ct := fun e => ∃ o6 o7 o8 : Option C, e = [none, some (.sh (.hd 0)), some (.sh (.int t)), some (.sh (SC sc)), some (.sh (.lst T)), some (.sh (.str (txt (.lst T)))), o6, o7, o8] }
          [none, some (.sh (.hd 0)), some (.sh (.int t)), some (.sh (SC sc)), some (.sh (.lst T)), some (.sh (.str (txt (.lst T)))), some (.sh (.int i)), some (.sh x), some (.sh (scerr x))] := by
        have sn := scerr_sn x
        have ok2 : okShB (.lst [scerr x, scerr x]) := (sn_row (l := [scerr x, scerr x]) (j := 2) (Nat.le_refl 2) (all_c sn (all_c sn all_n))).2.ok (by decide) (by decide)
        unfold b27_8
        (refine go1 ?_; try simp only [ss_nil, st_asg, st_asgT, st_par, st_seti, st_setk, st_app, st_ins, st_ext, st_expr, st_ret, st_iff, st_forr, st_whl, st_pass, st_brk, st_cont, tg_nm, tg_n, tg_c, tg_co, ev_var, ev_cst, ev_bin, ev_neg, ev_nt, ev_bop, ev_cmp, ev_chn, ev_ife, ev_tup, ev_lst, ev_ix, ev_sl, ev_rv, ev_dnil, ev_dsp, ev_bi, ev_call, ev_pop, ev_popA, ev_comp, ev_isi, te_nt, te_bop, te_cmp, te_chn, te_ife, te_var, te_call, te_bi, te_ix, te_bin, te_isi, te_cst, pk_var, pk_cst, pk_bin, pk_neg, pk_nt, pk_bop, pk_cmp, pk_chn, pk_ife, pk_tup, pk_lst, pk_ix, pk_sl, pk_rv, pk_dnil, pk_dsp, pk_bi, pk_call, pk_pop, pk_popA, pk_comp, pk_isi, rt_var, rt_cst, rt_bin, rt_neg, rt_nt, rt_bop, rt_cmp, rt_chn, rt_ife, rt_tup, rt_lst, rt_ix, rt_sl, rt_rv, rt_dnil, rt_dsp, rt_bi, rt_call, rt_pop, rt_comp, rt_isi, es_nil, es_cons, cs_nil, cs_cons, ps_nil, ps_cons, o_no, o_so, c_no, c_so, i_rg1, i_rg2, i_rg3, i_sq, i_dk, i_en, i_zp, i_rev, get_v, get_s, gets_nil, gets_cons, own_iff, ownd_iff, set_nil, set_cons, o_add, o_adds, o_addl, o_addt, o_sub, o_mul, o_mull, o_multt, o_div, o_mod, o_pow, o_shl, o_shr, o_and, o_or, o_xor, q_eq, q_ne, ek_s, ek_i, ek_b, ek_n, ek_l, ek_t, deq_str, q_lt, q_le, q_gt, q_ge, q_is, q_isn, q_isb, q_isnb, q_inl, q_int, q_nil, q_nit, x_l, x_t, x_s, z_l, z_t, v_l, v_t, f_lenl, f_lent, f_lens, f_abs, f_int, f_intb, f_bool, f_boolb, f_str, f_repr, f_reprB, f_sum, f_max1, f_min1, f_minP, f_max2, f_min2, f_lstl, f_lstt, f_lstd, f_dct, f_sortd, y_d1, y_d2, p_dic, k_dic, f_tupl, f_tupt, f_sorted, f_sortet, f_sset, f_sseu, f_all, f_any, f_gcd, f_lrg1, f_lrg2, f_trg1, f_trg2, t_bl, t_int, t_non, t_lst, t_tup, t_str, List.getElem?_cons_zero, List.getElem?_cons_succ, List.set_cons_zero, List.set_cons_succ, Option.some.injEq, exists_eq_left', exists_eq_left, exists_eq_right, exists_eq_right', cd_sh, cd_ow, D.int.injEq, D.bl.injEq, D.str.injEq, D.tup.injEq, D.lst.injEq, C.ow.injEq, C.sh.injEq, List.cons.injEq, reduceCtorEq, exists_and_left, exists_and_right, exists_const, implies_true, exists_eq, exists_eq', okEq_int, okEq_bl, okEq_non, deq_int, deq_bl, List.length_cons, List.length_nil, Nat.reduceAdd, true_and, and_true, if_true, if_false, decide_eq_true_eq, Bool.true_eq_false, Bool.false_eq_true, false_and, and_false, false_or, or_false, exists_false, and_self, D.hd.injEq, exists_prop, exists_eq_or_imp, Bool.not_eq_true, -Int.reducePow, -Nat.reducePow, g11, g24])
        exact ⟨tx.p, s1000 _ (by decide), ok2, tx.p, s1000 _ (by decide), ⟨by decide, by decide, s1000 _ (by decide)⟩, ok2, ndec_pos rfl trivial⟩
      unfold l27_7
      (refine go1 ?_; try simp only [ss_nil, st_asg, st_asgT, st_par, st_seti, st_setk, st_app, st_ins, st_ext, st_expr, st_ret, st_iff, st_forr, st_whl, st_pass, st_brk, st_cont, tg_nm, tg_n, tg_c, tg_co, ev_var, ev_cst, ev_bin, ev_neg, ev_nt, ev_bop, ev_cmp, ev_chn, ev_ife, ev_tup, ev_lst, ev_ix, ev_sl, ev_rv, ev_dnil, ev_dsp, ev_bi, ev_call, ev_pop, ev_popA, ev_comp, ev_isi, te_nt, te_bop, te_cmp, te_chn, te_ife, te_var, te_call, te_bi, te_ix, te_bin, te_isi, te_cst, pk_var, pk_cst, pk_bin, pk_neg, pk_nt, pk_bop, pk_cmp, pk_chn, pk_ife, pk_tup, pk_lst, pk_ix, pk_sl, pk_rv, pk_dnil, pk_dsp, pk_bi, pk_call, pk_pop, pk_popA, pk_comp, pk_isi, rt_var, rt_cst, rt_bin, rt_neg, rt_nt, rt_bop, rt_cmp, rt_chn, rt_ife, rt_tup, rt_lst, rt_ix, rt_sl, rt_rv, rt_dnil, rt_dsp, rt_bi, rt_call, rt_pop, rt_comp, rt_isi, es_nil, es_cons, cs_nil, cs_cons, ps_nil, ps_cons, o_no, o_so, c_no, c_so, i_rg1, i_rg2, i_rg3, i_sq, i_dk, i_en, i_zp, i_rev, get_v, get_s, gets_nil, gets_cons, own_iff, ownd_iff, set_nil, set_cons, o_add, o_adds, o_addl, o_addt, o_sub, o_mul, o_mull, o_multt, o_div, o_mod, o_pow, o_shl, o_shr, o_and, o_or, o_xor, q_eq, q_ne, ek_s, ek_i, ek_b, ek_n, ek_l, ek_t, deq_str, q_lt, q_le, q_gt, q_ge, q_is, q_isn, q_isb, q_isnb, q_inl, q_int, q_nil, q_nit, x_l, x_t, x_s, z_l, z_t, v_l, v_t, f_lenl, f_lent, f_lens, f_abs, f_int, f_intb, f_bool, f_boolb, f_str, f_repr, f_reprB, f_sum, f_max1, f_min1, f_minP, f_max2, f_min2, f_lstl, f_lstt, f_lstd, f_dct, f_sortd, y_d1, y_d2, p_dic, k_dic, f_tupl, f_tupt, f_sorted, f_sortet, f_sset, f_sseu, f_all, f_any, f_gcd, f_lrg1, f_lrg2, f_trg1, f_trg2, t_bl, t_int, t_non, t_lst, t_tup, t_str, List.getElem?_cons_zero, List.getElem?_cons_succ, List.set_cons_zero, List.set_cons_succ, Option.some.injEq, exists_eq_left', exists_eq_left, exists_eq_right, exists_eq_right', cd_sh, cd_ow, D.int.injEq, D.bl.injEq, D.str.injEq, D.tup.injEq, D.lst.injEq, C.ow.injEq, C.sh.injEq, List.cons.injEq, reduceCtorEq, exists_and_left, exists_and_right, exists_const, implies_true, exists_eq, exists_eq', okEq_int, okEq_bl, okEq_non, deq_int, deq_bl, List.length_cons, List.length_nil, Nat.reduceAdd, true_and, and_true, if_true, if_false, decide_eq_true_eq, Bool.true_eq_false, Bool.false_eq_true, false_and, and_false, false_or, or_false, exists_false, and_self, D.hd.injEq, exists_prop, exists_eq_or_imp, Bool.not_eq_true, -Int.reducePow, -Nat.reducePow, g2000, g11])
      by_cases c : (i : Int) = t
      · exact if_p c ⟨tx.p, key⟩
      · exact if_q c ⟨tx.p, key⟩
    · subst he
      unfold b27_10
      (refine go1 ?_; try simp only [ss_nil, st_asg, st_asgT, st_par, st_seti, st_setk, st_app, st_ins, st_ext, st_expr, st_ret, st_iff, st_forr, st_whl, st_pass, st_brk, st_cont, tg_nm, tg_n, tg_c, tg_co, ev_var, ev_cst, ev_bin, ev_neg, ev_nt, ev_bop, ev_cmp, ev_chn, ev_ife, ev_tup, ev_lst, ev_ix, ev_sl, ev_rv, ev_dnil, ev_dsp, ev_bi, ev_call, ev_pop, ev_popA, ev_comp, ev_isi, te_nt, te_bop, te_cmp, te_chn, te_ife, te_var, te_call, te_bi, te_ix, te_bin, te_isi, te_cst, pk_var, pk_cst, pk_bin, pk_neg, pk_nt, pk_bop, pk_cmp, pk_chn, pk_ife, pk_tup, pk_lst, pk_ix, pk_sl, pk_rv, pk_dnil, pk_dsp, pk_bi, pk_call, pk_pop, pk_popA, pk_comp, pk_isi, rt_var, rt_cst, rt_bin, rt_neg, rt_nt, rt_bop, rt_cmp, rt_chn, rt_ife, rt_tup, rt_lst, rt_ix, rt_sl, rt_rv, rt_dnil, rt_dsp, rt_bi, rt_call, rt_pop, rt_comp, rt_isi, es_nil, es_cons, cs_nil, cs_cons, ps_nil, ps_cons, o_no, o_so, c_no, c_so, i_rg1, i_rg2, i_rg3, i_sq, i_dk, i_en, i_zp, i_rev, get_v, get_s, gets_nil, gets_cons, own_iff, ownd_iff, set_nil, set_cons, o_add, o_adds, o_addl, o_addt, o_sub, o_mul, o_mull, o_multt, o_div, o_mod, o_pow, o_shl, o_shr, o_and, o_or, o_xor, q_eq, q_ne, ek_s, ek_i, ek_b, ek_n, ek_l, ek_t, deq_str, q_lt, q_le, q_gt, q_ge, q_is, q_isn, q_isb, q_isnb, q_inl, q_int, q_nil, q_nit, x_l, x_t, x_s, z_l, z_t, v_l, v_t, f_lenl, f_lent, f_lens, f_abs, f_int, f_intb, f_bool, f_boolb, f_str, f_repr, f_reprB, f_sum, f_max1, f_min1, f_minP, f_max2, f_min2, f_lstl, f_lstt, f_lstd, f_dct, f_sortd, y_d1, y_d2, p_dic, k_dic, f_tupl, f_tupt, f_sorted, f_sortet, f_sset, f_sseu, f_all, f_any, f_gcd, f_lrg1, f_lrg2, f_trg1, f_trg2, t_bl, t_int, t_non, t_lst, t_tup, t_str, List.getElem?_cons_zero, List.getElem?_cons_succ, List.set_cons_zero, List.set_cons_succ, Option.some.injEq, exists_eq_left', exists_eq_left, exists_eq_right, exists_eq_right', cd_sh, cd_ow, D.int.injEq, D.bl.injEq, D.str.injEq, D.tup.injEq, D.lst.injEq, C.ow.injEq, C.sh.injEq, List.cons.injEq, reduceCtorEq, exists_and_left, exists_and_right, exists_const, implies_true, exists_eq, exists_eq', okEq_int, okEq_bl, okEq_non, deq_int, deq_bl, List.length_cons, List.length_nil, Nat.reduceAdd, true_and, and_true, if_true, if_false, decide_eq_true_eq, Bool.true_eq_false, Bool.false_eq_true, false_and, and_false, false_or, or_false, exists_false, and_self, D.hd.injEq, exists_prop, exists_eq_or_imp, Bool.not_eq_true, -Int.reducePow, -Nat.reducePow])
      exact ⟨ok, ndec_pos trivial trivial⟩
  · subst he
    unfold b27_12
    (refine go1 ?_; try simp only [ss_nil, st_asg, st_asgT, st_par, st_seti, st_setk, st_app, st_ins, st_ext, st_expr, st_ret, st_iff, st_forr, st_whl, st_pass, st_brk, st_cont, tg_nm, tg_n, tg_c, tg_co, ev_var, ev_cst, ev_bin, ev_neg, ev_nt, ev_bop, ev_cmp, ev_chn, ev_ife, ev_tup, ev_lst, ev_ix, ev_sl, ev_rv, ev_dnil, ev_dsp, ev_bi, ev_call, ev_pop, ev_popA, ev_comp, ev_isi, te_nt, te_bop, te_cmp, te_chn, te_ife, te_var, te_call, te_bi, te_ix, te_bin, te_isi, te_cst, pk_var, pk_cst, pk_bin, pk_neg, pk_nt, pk_bop, pk_cmp, pk_chn, pk_ife, pk_tup, pk_lst, pk_ix, pk_sl, pk_rv, pk_dnil, pk_dsp, pk_bi, pk_call, pk_pop, pk_popA, pk_comp, pk_isi, rt_var, rt_cst, rt_bin, rt_neg, rt_nt, rt_bop, rt_cmp, rt_chn, rt_ife, rt_tup, rt_lst, rt_ix, rt_sl, rt_rv, rt_dnil, rt_dsp, rt_bi, rt_call, rt_pop, rt_comp, rt_isi, es_nil, es_cons, cs_nil, cs_cons, ps_nil, ps_cons, o_no, o_so, c_no, c_so, i_rg1, i_rg2, i_rg3, i_sq, i_dk, i_en, i_zp, i_rev, get_v, get_s, gets_nil, gets_cons, own_iff, ownd_iff, set_nil, set_cons, o_add, o_adds, o_addl, o_addt, o_sub, o_mul, o_mull, o_multt, o_div, o_mod, o_pow, o_shl, o_shr, o_and, o_or, o_xor, q_eq, q_ne, ek_s, ek_i, ek_b, ek_n, ek_l, ek_t, deq_str, q_lt, q_le, q_gt, q_ge, q_is, q_isn, q_isb, q_isnb, q_inl, q_int, q_nil, q_nit, x_l, x_t, x_s, z_l, z_t, v_l, v_t, f_lenl, f_lent, f_lens, f_abs, f_int, f_intb, f_bool, f_boolb, f_str, f_repr, f_reprB, f_sum, f_max1, f_min1, f_minP, f_max2, f_min2, f_lstl, f_lstt, f_lstd, f_dct, f_sortd, y_d1, y_d2, p_dic, k_dic, f_tupl, f_tupt, f_sorted, f_sortet, f_sset, f_sseu, f_all, f_any, f_gcd, f_lrg1, f_lrg2, f_trg1, f_trg2, t_bl, t_int, t_non, t_lst, t_tup, t_str, List.getElem?_cons_zero, List.getElem?_cons_succ, List.set_cons_zero, List.set_cons_succ, Option.some.injEq, exists_eq_left', exists_eq_left, exists_eq_right, exists_eq_right', cd_sh, cd_ow, D.int.injEq, D.bl.injEq, D.str.injEq, D.tup.injEq, D.lst.injEq, C.ow.injEq, C.sh.injEq, List.cons.injEq, reduceCtorEq, exists_and_left, exists_and_right, exists_const, implies_true, exists_eq, exists_eq', okEq_int, okEq_bl, okEq_non, deq_int, deq_bl, List.length_cons, List.length_nil, Nat.reduceAdd, true_and, and_true, if_true, if_false, decide_eq_true_eq, Bool.true_eq_false, Bool.false_eq_true, false_and, and_false, false_or, or_false, exists_false, and_self, D.hd.injEq, exists_prop, exists_eq_or_imp, Bool.not_eq_true, -Int.reducePow, -Nat.reducePow, g11])
    have s40 : scerr (.tup (List.replicate (Int.toNat 40) [D.tup [D.int 0, D.int 2]]).flatten) = .non := by kernel_rfl
    have s41 : scerr (.tup (List.replicate (Int.toNat 41) [D.tup [D.int 0, D.int 2]]).flatten) = .str "form" := by kernel_rfl
    have p : ∀ n, plx (.tup (List.replicate n [D.tup [D.int 0, D.int 2]]).flatten) = true := fun n => plx_all (rep_mem (all_c rfl all_n))
    have f : okShB (.str "form") := (wd_sn (by simp)).ok (by decide) (by decide)
    exact ⟨s1000 _ (by decide), s1000 _ (by decide), ⟨by decide, by decide, by decide⟩, p _, if_p (by rw [s40]; rfl) ⟨s1000 _ (by decide), s1000 _ (by decide), ⟨by decide, by decide, by decide⟩, p _, by rw [s41]; exact f, f, by rw [s41]⟩⟩
theorem t7 (d : D) (Q : C → Prop) (h : plx d = true) (q : Q (.sh (.bl (whl d)))) : Bd b7 [some (.sh d)] Q := by
  rw [← whl_eq] at q
  unfold Bd b7
  (refine go1 ?_; try simp only [ss_nil, st_asg, st_asgT, st_par, st_seti, st_setk, st_app, st_ins, st_ext, st_expr, st_ret, st_iff, st_forr, st_whl, st_pass, st_brk, st_cont, tg_nm, tg_n, tg_c, tg_co, ev_var, ev_cst, ev_bin, ev_neg, ev_nt, ev_bop, ev_cmp, ev_chn, ev_ife, ev_tup, ev_lst, ev_ix, ev_sl, ev_rv, ev_dnil, ev_dsp, ev_bi, ev_call, ev_pop, ev_popA, ev_comp, ev_isi, te_nt, te_bop, te_cmp, te_chn, te_ife, te_var, te_call, te_bi, te_ix, te_bin, te_isi, te_cst, pk_var, pk_cst, pk_bin, pk_neg, pk_nt, pk_bop, pk_cmp, pk_chn, pk_ife, pk_tup, pk_lst, pk_ix, pk_sl, pk_rv, pk_dnil, pk_dsp, pk_bi, pk_call, pk_pop, pk_popA, pk_comp, pk_isi, rt_var, rt_cst, rt_bin, rt_neg, rt_nt, rt_bop, rt_cmp, rt_chn, rt_ife, rt_tup, rt_lst, rt_ix, rt_sl, rt_rv, rt_dnil, rt_dsp, rt_bi, rt_call, rt_pop, rt_comp, rt_isi, es_nil, es_cons, cs_nil, cs_cons, ps_nil, ps_cons, o_no, o_so, c_no, c_so, i_rg1, i_rg2, i_rg3, i_sq, i_dk, i_en, i_zp, i_rev, get_v, get_s, gets_nil, gets_cons, own_iff, ownd_iff, set_nil, set_cons, o_add, o_adds, o_addl, o_addt, o_sub, o_mul, o_mull, o_multt, o_div, o_mod, o_pow, o_shl, o_shr, o_and, o_or, o_xor, q_eq, q_ne, ek_s, ek_i, ek_b, ek_n, ek_l, ek_t, deq_str, q_lt, q_le, q_gt, q_ge, q_is, q_isn, q_isb, q_isnb, q_inl, q_int, q_nil, q_nit, x_l, x_t, x_s, z_l, z_t, v_l, v_t, f_lenl, f_lent, f_lens, f_abs, f_int, f_intb, f_bool, f_boolb, f_str, f_repr, f_reprB, f_sum, f_max1, f_min1, f_minP, f_max2, f_min2, f_lstl, f_lstt, f_lstd, f_dct, f_sortd, y_d1, y_d2, p_dic, k_dic, f_tupl, f_tupt, f_sorted, f_sortet, f_sset, f_sseu, f_all, f_any, f_gcd, f_lrg1, f_lrg2, f_trg1, f_trg2, t_bl, t_int, t_non, t_lst, t_tup, t_str, List.getElem?_cons_zero, List.getElem?_cons_succ, List.set_cons_zero, List.set_cons_succ, Option.some.injEq, exists_eq_left', exists_eq_left, exists_eq_right, exists_eq_right', cd_sh, cd_ow, D.int.injEq, D.bl.injEq, D.str.injEq, D.tup.injEq, D.lst.injEq, C.ow.injEq, C.sh.injEq, List.cons.injEq, reduceCtorEq, exists_and_left, exists_and_right, exists_const, implies_true, exists_eq, exists_eq', okEq_int, okEq_bl, okEq_non, deq_int, deq_bl, List.length_cons, List.length_nil, Nat.reduceAdd, true_and, and_true, if_true, if_false, decide_eq_true_eq, Bool.true_eq_false, Bool.false_eq_true, false_and, and_false, false_or, or_false, exists_false, and_self, D.hd.injEq, exists_prop, exists_eq_or_imp, Bool.not_eq_true, -Int.reducePow, -Nat.reducePow, ty_int h, ty_bool h])
  revert q
  cases isIB d <;> cases isB d <;> exact fun q => q

def d5 : He.DefD := ⟨("common_multiple", none), "common_multiple", "common_multiple", defArgs (top 5), defBody (top 5), defScope (top 5), [], []⟩
def d7 : He.DefD := ⟨("is_integer", none), "is_integer", "is_integer", defArgs (top 7), defBody (top 7), defScope (top 7), [], []⟩
def d8 : He.DefD := ⟨("is_number", none), "is_number", "is_number", defArgs (top 8), defBody (top 8), defScope (top 8), [], []⟩
def d9 : He.DefD := ⟨("is_rule", none), "is_rule", "is_rule", defArgs (top 9), defBody (top 9), defScope (top 9), [], []⟩
def d10 : He.DefD := ⟨("steps_multiple", none), "steps_multiple", "steps_multiple", defArgs (top 10), defBody (top 10), defScope (top 10), [], []⟩
def d11 : He.DefD := ⟨("scale_error", none), "scale_error", "scale_error", defArgs (top 11), defBody (top 11), defScope (top 11), [], []⟩
def d13 : He.DefD := ⟨("_law_deck", none), "_law_deck", "_law_deck", defArgs (top 13), defBody (top 13), defScope (top 13), [], []⟩
def d14 : He.DefD := ⟨("_law_draw", none), "_law_draw", "_law_draw", defArgs (top 14), defBody (top 14), defScope (top 14), [], []⟩
def d15 : He.DefD := ⟨("_law_pick", none), "_law_pick", "_law_pick", defArgs (top 15), defBody (top 15), defScope (top 15), [], []⟩
def d16 : He.DefD := ⟨("_law_mixed", none), "_law_mixed", "_law_mixed", defArgs (top 16), defBody (top 16), defScope (top 16), [], []⟩
def d17 : He.DefD := ⟨("_law_divisor", none), "_law_divisor", "_law_divisor", defArgs (top 17), defBody (top 17), defScope (top 17), [], []⟩
def d18 : He.DefD := ⟨("_law_multiple", none), "_law_multiple", "_law_multiple", defArgs (top 18), defBody (top 18), defScope (top 18), [], []⟩
def d19 : He.DefD := ⟨("_law_raised", none), "_law_raised", "_law_raised", defArgs (top 19), defBody (top 19), defScope (top 19), [], []⟩
def d20 : He.DefD := ⟨("_law_step", none), "_law_step", "_law_step", defArgs (top 20), defBody (top 20), defScope (top 20), [], []⟩
def d21 : He.DefD := ⟨("_law_kinds", none), "_law_kinds", "_law_kinds", defArgs (top 21), defBody (top 21), defScope (top 21), [], []⟩
def d22 : He.DefD := ⟨("_law_great", none), "_law_great", "_law_great", defArgs (top 22), defBody (top 22), defScope (top 22), [], []⟩
def d23 : He.DefD := ⟨("_law_is_whole", none), "_law_is_whole", "_law_is_whole", defArgs (top 23), defBody (top 23), defScope (top 23), [], []⟩
def d24 : He.DefD := ⟨("_law_due", none), "_law_due", "_law_due", defArgs (top 24), defBody (top 24), defScope (top 24), [], []⟩
def d25 : He.DefD := ⟨("_law_odd", none), "_law_odd", "_law_odd", defArgs (top 25), defBody (top 25), defScope (top 25), [], []⟩
def d26 : He.DefD := ⟨("_law_spoilt", none), "_law_spoilt", "_law_spoilt", defArgs (top 26), defBody (top 26), defScope (top 26), [], []⟩
def d27 : He.DefD := ⟨("law", none), "law", "law", defArgs (top 27), defBody (top 27), defScope (top 27), [], []⟩
def fnL : List He.DefD := [d5, d7, d8, d9, d10, d11, d13, d14, d15, d16, d17, d18, d19, d20, d21, d22, d23, d24, d25, d26, d27]
def fa : List He.Fa := [.glo "common_multiple", .glo "is_integer", .glo "is_number", .glo "is_rule", .glo "steps_multiple", .glo "scale_error", .glo "_law_deck", .glo "_law_draw", .glo "_law_pick", .glo "_law_mixed", .glo "_law_divisor", .glo "_law_multiple", .glo "_law_raised", .glo "_law_step", .glo "_law_kinds", .glo "_law_great", .glo "_law_is_whole", .glo "_law_due", .glo "_law_odd", .glo "_law_spoilt", .glo "law", .free "len", .free "abs", .free "int", .free "bool", .free "str", .free "repr", .free "sum", .free "max", .free "min", .free "list", .free "tuple", .free "sorted", .free "all", .free "any", .free "range", .free "enumerate", .free "zip", .free "reversed", .free "isinstance", .free "dict", .free "set", .int "MAX_RULES" 40, .int "MAX_NUMBER" 1000000000000000000000000000000000000000000000000000000000000, .int "MAX_STEP" 1000000000000000000000000000000000000000000000000000000000000]
abbrev R : PySem.W.OpenRow := PySem.W.OpenLaw.row PySem.Challenge.rw_everyexact_k01_what_are_scales
abbrev hk : PySem.W.Hook := hookX (fun K => gcdB K && digB K) 4 fa fnL
def ob (s : PySem.W.SharedT) : He.AlD := obsXG (fun K => gcdB K && digB K) 4 fa fnL (HandSHeadRun.getT s)
theorem ob_eq (s : PySem.W.SharedT) : ob s = hk.obs s.abs := obsXG_eq (HandSHeadRun.getT_eq s)
theorem run (w : World) : HandSHeadRun.RunEqI R (PySem.W.view R.prog [0, 27]) hk ob 2000 [("common_multiple" : PySem.Str), ("is_integer" : PySem.Str), ("is_number" : PySem.Str), ("is_rule" : PySem.Str), ("steps_multiple" : PySem.Str), ("scale_error" : PySem.Str), ("_law_deck" : PySem.Str), ("_law_draw" : PySem.Str), ("_law_pick" : PySem.Str), ("_law_mixed" : PySem.Str), ("_law_divisor" : PySem.Str), ("_law_multiple" : PySem.Str), ("_law_raised" : PySem.Str), ("_law_step" : PySem.Str), ("_law_kinds" : PySem.Str), ("_law_great" : PySem.Str), ("_law_is_whole" : PySem.Str), ("_law_due" : PySem.Str), ("_law_odd" : PySem.Str), ("_law_spoilt" : PySem.Str), ("MAX_RULES" : PySem.Str), ("MAX_NUMBER" : PySem.Str), ("MAX_STEP" : PySem.Str)] w := by
  unfold HandSHeadRun.RunEqI
  kernel_rfl
theorem sc5 : FnScope N5 ["one", "other"] (defScope (top 5)) := ⟨rfl, rfl, rfl, by decide +kernel, rfl, by decide +kernel, by decide +kernel⟩
theorem sc7 : FnScope N7 ["value"] (defScope (top 7)) := ⟨rfl, rfl, rfl, by decide +kernel, rfl, by decide +kernel, by decide +kernel⟩
theorem sc8 : FnScope N8 ["value"] (defScope (top 8)) := ⟨rfl, rfl, rfl, by decide +kernel, rfl, by decide +kernel, by decide +kernel⟩
theorem sc9 : FnScope N9 ["value"] (defScope (top 9)) := ⟨rfl, rfl, rfl, by decide +kernel, rfl, by decide +kernel, by decide +kernel⟩
theorem sc10 : FnScope N10 ["rules"] (defScope (top 10)) := ⟨rfl, rfl, rfl, by decide +kernel, rfl, by decide +kernel, by decide +kernel⟩
theorem sc11 : FnScope N11 ["value"] (defScope (top 11)) := ⟨rfl, rfl, rfl, by decide +kernel, rfl, by decide +kernel, by decide +kernel⟩
theorem sc13 : FnScope N13 ["script"] (defScope (top 13)) := ⟨rfl, rfl, rfl, by decide +kernel, rfl, by decide +kernel, by decide +kernel⟩
theorem sc14 : FnScope N14 ["deck", "many"] (defScope (top 14)) := ⟨rfl, rfl, rfl, by decide +kernel, rfl, by decide +kernel, by decide +kernel⟩
theorem sc15 : FnScope N15 ["deck", "items"] (defScope (top 15)) := ⟨rfl, rfl, rfl, by decide +kernel, rfl, by decide +kernel, by decide +kernel⟩
theorem sc16 : FnScope N16 ["deck", "items"] (defScope (top 16)) := ⟨rfl, rfl, rfl, by decide +kernel, rfl, by decide +kernel, by decide +kernel⟩
theorem sc17 : FnScope N17 ["one", "other"] (defScope (top 17)) := ⟨rfl, rfl, rfl, by decide +kernel, rfl, by decide +kernel, by decide +kernel⟩
theorem sc18 : FnScope N18 ["steps"] (defScope (top 18)) := ⟨rfl, rfl, rfl, by decide +kernel, rfl, by decide +kernel, by decide +kernel⟩
theorem sc19 : FnScope N19 ["base", "times"] (defScope (top 19)) := ⟨rfl, rfl, rfl, by decide +kernel, rfl, by decide +kernel, by decide +kernel⟩
theorem sc20 : FnScope N20 ["deck", "kinds"] (defScope (top 20)) := ⟨rfl, rfl, rfl, by decide +kernel, rfl, by decide +kernel, by decide +kernel⟩
theorem sc21 : FnScope N21 ["deck"] (defScope (top 21)) := ⟨rfl, rfl, rfl, by decide +kernel, rfl, by decide +kernel, by decide +kernel⟩
theorem sc22 : FnScope N22 ["deck", "most"] (defScope (top 22)) := ⟨rfl, rfl, rfl, by decide +kernel, rfl, by decide +kernel, by decide +kernel⟩
theorem sc23 : FnScope N23 ["value", "low", "high"] (defScope (top 23)) := ⟨rfl, rfl, rfl, by decide +kernel, rfl, by decide +kernel, by decide +kernel⟩
theorem sc24 : FnScope N24 ["value"] (defScope (top 24)) := ⟨rfl, rfl, rfl, by decide +kernel, rfl, by decide +kernel, by decide +kernel⟩
theorem sc25 : FnScope N25 ["deck", "rule"] (defScope (top 25)) := ⟨rfl, rfl, rfl, by decide +kernel, rfl, by decide +kernel, by decide +kernel⟩
theorem sc26 : FnScope N26 ["deck", "scale"] (defScope (top 26)) := ⟨rfl, rfl, rfl, by decide +kernel, rfl, by decide +kernel, by decide +kernel⟩
theorem sc27 : FnScope N27 ["script"] (defScope (top 27)) := ⟨rfl, rfl, rfl, by decide +kernel, rfl, by decide +kernel, by decide +kernel⟩
section
variable {P : Program} {w : World} {K : PySem.W.Frag} {mg : Str → Option Value} {base : Heap}
structure Mo (K : PySem.W.Frag) (mg : Str → Option Value) (fs : Nat → Addr) (fd : Nat → FuncData) : Prop where
  blt : ∀ nm ∈ blts, mg nm = none
  gcq : mg "gcd" = some (.builtin "math.gcd")
  dgq : digB K = true
  k_MAX_RULES : ∃ t, mg "MAX_RULES" = some (.int 40 t)
  k_MAX_NUMBER : ∃ t, mg "MAX_NUMBER" = some (.int 1000000000000000000000000000000000000000000000000000000000000 t)
  k_MAX_STEP : ∃ t, mg "MAX_STEP" = some (.int 1000000000000000000000000000000000000000000000000000000000000 t)
  g5 : mg "common_multiple" = some (.ref (fs 5))
  f5 : FnP K "common_multiple" (top 5) (fs 5) (fd 5)
  g7 : mg "is_integer" = some (.ref (fs 7))
  f7 : FnP K "is_integer" (top 7) (fs 7) (fd 7)
  g8 : mg "is_number" = some (.ref (fs 8))
  f8 : FnP K "is_number" (top 8) (fs 8) (fd 8)
  g9 : mg "is_rule" = some (.ref (fs 9))
  f9 : FnP K "is_rule" (top 9) (fs 9) (fd 9)
  g10 : mg "steps_multiple" = some (.ref (fs 10))
  f10 : FnP K "steps_multiple" (top 10) (fs 10) (fd 10)
  g11 : mg "scale_error" = some (.ref (fs 11))
  f11 : FnP K "scale_error" (top 11) (fs 11) (fd 11)
  g13 : mg "_law_deck" = some (.ref (fs 13))
  f13 : FnP K "_law_deck" (top 13) (fs 13) (fd 13)
  g14 : mg "_law_draw" = some (.ref (fs 14))
  f14 : FnP K "_law_draw" (top 14) (fs 14) (fd 14)
  g15 : mg "_law_pick" = some (.ref (fs 15))
  f15 : FnP K "_law_pick" (top 15) (fs 15) (fd 15)
  g16 : mg "_law_mixed" = some (.ref (fs 16))
  f16 : FnP K "_law_mixed" (top 16) (fs 16) (fd 16)
  g17 : mg "_law_divisor" = some (.ref (fs 17))
  f17 : FnP K "_law_divisor" (top 17) (fs 17) (fd 17)
  g18 : mg "_law_multiple" = some (.ref (fs 18))
  f18 : FnP K "_law_multiple" (top 18) (fs 18) (fd 18)
  g19 : mg "_law_raised" = some (.ref (fs 19))
  f19 : FnP K "_law_raised" (top 19) (fs 19) (fd 19)
  g20 : mg "_law_step" = some (.ref (fs 20))
  f20 : FnP K "_law_step" (top 20) (fs 20) (fd 20)
  g21 : mg "_law_kinds" = some (.ref (fs 21))
  f21 : FnP K "_law_kinds" (top 21) (fs 21) (fd 21)
  g22 : mg "_law_great" = some (.ref (fs 22))
  f22 : FnP K "_law_great" (top 22) (fs 22) (fd 22)
  g23 : mg "_law_is_whole" = some (.ref (fs 23))
  f23 : FnP K "_law_is_whole" (top 23) (fs 23) (fd 23)
  g24 : mg "_law_due" = some (.ref (fs 24))
  f24 : FnP K "_law_due" (top 24) (fs 24) (fd 24)
  g25 : mg "_law_odd" = some (.ref (fs 25))
  f25 : FnP K "_law_odd" (top 25) (fs 25) (fd 25)
  g26 : mg "_law_spoilt" = some (.ref (fs 26))
  f26 : FnP K "_law_spoilt" (top 26) (fs 26) (fd 26)
  g27 : mg "law" = some (.ref (fs 27))
  f27 : FnP K "law" (top 27) (fs 27) (fd 27)
variable {fs : Nat → Addr} {fd : Nat → FuncData}
theorem csOk (M : Mo K mg fs fd) : ∀ p ∈ consts, ∃ v u, mg p.1 = some u ∧ RelV v u ∧ (p.1 == ("__debug__" : Str)) = false ∧ ∀ K ad H, Rep K ad H v p.2 := by
  intro p hp
  simp only [consts, List.mem_cons, List.not_mem_nil, or_false] at hp
  rcases hp with rfl | rfl | rfl
  · obtain ⟨t, e⟩ := M.k_MAX_RULES
    exact ⟨.int 40, _, e, ⟨t, rfl⟩, by decide +kernel, fun _ _ _ => .int _⟩
  · obtain ⟨t, e⟩ := M.k_MAX_NUMBER
    exact ⟨.int 1000000000000000000000000000000000000000000000000000000000000, _, e, ⟨t, rfl⟩, by decide +kernel, fun _ _ _ => .int _⟩
  · obtain ⟨t, e⟩ := M.k_MAX_STEP
    exact ⟨.int 1000000000000000000000000000000000000000000000000000000000000, _, e, ⟨t, rfl⟩, by decide +kernel, fun _ _ _ => .int _⟩
theorem perm_7 {ds : List D} {Q : C → Prop} (q : gam 7 ds Q) : (perm [0] ds).length = 1 ∧ gam 7 (perm [0] ds) Q := by
  match ds, q with
  | [d], q => exact ⟨rfl, q⟩
theorem perm_8 {ds : List D} {Q : C → Prop} (q : gam 8 ds Q) : (perm [0] ds).length = 1 ∧ gam 8 (perm [0] ds) Q := by
  match ds, q with
  | [d], q => exact ⟨rfl, q⟩
theorem perm_5 {ds : List D} {Q : C → Prop} (q : gam 5 ds Q) : (perm [0, 1] ds).length = 2 ∧ gam 5 (perm [0, 1] ds) Q := by
  match ds, q with
  | [.int a, .int b], q => exact ⟨rfl, q⟩
theorem perm_9 {ds : List D} {Q : C → Prop} (q : gam 9 ds Q) : (perm [0] ds).length = 1 ∧ gam 9 (perm [0] ds) Q := by
  match ds, q with
  | [d], q => exact ⟨rfl, q⟩
theorem perm_10 {ds : List D} {Q : C → Prop} (q : gam 10 ds Q) : (perm [0] ds).length = 1 ∧ gam 10 (perm [0] ds) Q := by
  match ds, q with
  | [.tup l], q => exact ⟨rfl, q⟩
theorem perm_14 {ds : List D} {Q : C → Prop} (q : gam 14 ds Q) : (perm [0, 1] ds).length = 2 ∧ gam 14 (perm [0, 1] ds) Q := by
  match ds, q with
  | [.hd 0, .int m], q => exact ⟨rfl, q⟩
theorem perm_17 {ds : List D} {Q : C → Prop} (q : gam 17 ds Q) : (perm [0, 1] ds).length = 2 ∧ gam 17 (perm [0, 1] ds) Q := by
  match ds, q with
  | [.int a, .int b], q => exact ⟨rfl, q⟩
theorem perm_19 {ds : List D} {Q : C → Prop} (q : gam 19 ds Q) : (perm [0, 1] ds).length = 2 ∧ gam 19 (perm [0, 1] ds) Q := by
  match ds, q with
  | [.int b, .int n], q => exact ⟨rfl, q⟩
theorem perm_15 {ds : List D} {Q : C → Prop} (q : gam 15 ds Q) : (perm [0, 1] ds).length = 2 ∧ gam 15 (perm [0, 1] ds) Q := by
  match ds, q with
  | [.hd 0, .lst l], q => exact ⟨rfl, q⟩
theorem perm_21 {ds : List D} {Q : C → Prop} (q : gam 21 ds Q) : (perm [0] ds).length = 1 ∧ gam 21 (perm [0] ds) Q := by
  match ds, q with
  | [.hd 0], q => exact ⟨rfl, q⟩
theorem perm_20 {ds : List D} {Q : C → Prop} (q : gam 20 ds Q) : (perm [0, 1] ds).length = 2 ∧ gam 20 (perm [0, 1] ds) Q := by
  match ds, q with
  | [.hd 0, l], q => exact ⟨rfl, q⟩
theorem perm_16 {ds : List D} {Q : C → Prop} (q : gam 16 ds Q) : (perm [0, 1] ds).length = 2 ∧ gam 16 (perm [0, 1] ds) Q := by
  match ds, q with
  | [.hd 0, l], q => exact ⟨rfl, q⟩
theorem perm_18 {ds : List D} {Q : C → Prop} (q : gam 18 ds Q) : (perm [0] ds).length = 1 ∧ gam 18 (perm [0] ds) Q := by
  match ds, q with
  | [.lst l], q => exact ⟨rfl, q⟩
theorem perm_23 {ds : List D} {Q : C → Prop} (q : gam 23 ds Q) : (perm [0, 1, 2] ds).length = 3 ∧ gam 23 (perm [0, 1, 2] ds) Q := by
  match ds, q with
  | [d, .int a, .int b], q => exact ⟨rfl, q⟩
theorem perm_25 {ds : List D} {Q : C → Prop} (q : gam 25 ds Q) : (perm [0, 1] ds).length = 2 ∧ gam 25 (perm [0, 1] ds) Q := by
  match ds, q with
  | [.hd 0, r], q => exact ⟨rfl, q⟩
theorem perm_22 {ds : List D} {Q : C → Prop} (q : gam 22 ds Q) : (perm [0, 1] ds).length = 2 ∧ gam 22 (perm [0, 1] ds) Q := by
  match ds, q with
  | [.hd 0, .int m], q => exact ⟨rfl, q⟩
theorem perm_26 {ds : List D} {Q : C → Prop} (q : gam 26 ds Q) : (perm [0, 1] ds).length = 2 ∧ gam 26 (perm [0, 1] ds) Q := by
  match ds, q with
  | [.hd 0, .tup l], q => exact ⟨rfl, q⟩
theorem perm_11 {ds : List D} {Q : C → Prop} (q : gam 11 ds Q) : (perm [0] ds).length = 1 ∧ gam 11 (perm [0] ds) Q := by
  match ds, q with
  | [d], q => exact ⟨rfl, q⟩
theorem perm_2000 {ds : List D} {Q : C → Prop} (q : gam 2000 ds Q) : (perm [0] ds).length = 1 ∧ gam 11 (perm [0] ds) Q := by
  match ds, q with
  | [d], q => exact ⟨rfl, q⟩
theorem perm_24 {ds : List D} {Q : C → Prop} (q : gam 24 ds Q) : (perm [0] ds).length = 1 ∧ gam 24 (perm [0] ds) Q := by
  match ds, q with
  | [d], q => exact ⟨rfl, q⟩
theorem s5 (ds : List D) (Q : C → Prop) (q : gam 5 ds Q) : ds.length = 2 ∧ wSs gam b5 { nx := fun _ => Q (.sh .non), rt := Q } (startE N5 ds) := by
  match ds, q with
  | [.int a, .int b], q0 =>
    refine ⟨rfl, ?_⟩
    exact t5 _ _ _ q0.1 q0.2
theorem s7 (ds : List D) (Q : C → Prop) (q : gam 7 ds Q) : ds.length = 1 ∧ wSs gam b7 { nx := fun _ => Q (.sh .non), rt := Q } (startE N7 ds) := by
  match ds, q with
  | [d], q0 =>
    refine ⟨rfl, ?_⟩
    exact t7 _ _ q0.1 q0.2
theorem s17 (ds : List D) (Q : C → Prop) (q : gam 17 ds Q) : ds.length = 2 ∧ wSs gam b17 { nx := fun _ => Q (.sh .non), rt := Q } (startE N17 ds) := by
  match ds, q with
  | [.int a, .int b], q0 =>
    refine ⟨rfl, ?_⟩
    exact t17 _ _ _ q0
theorem s19 (ds : List D) (Q : C → Prop) (q : gam 19 ds Q) : ds.length = 2 ∧ wSs gam b19 { nx := fun _ => Q (.sh .non), rt := Q } (startE N19 ds) := by
  match ds, q with
  | [.int b, .int n], q0 =>
    refine ⟨rfl, ?_⟩
    exact t19 _ _ _ q0
theorem s23 (ds : List D) (Q : C → Prop) (q : gam 23 ds Q) : ds.length = 3 ∧ wSs gam b23 { nx := fun _ => Q (.sh .non), rt := Q } (startE N23 ds) := by
  match ds, q with
  | [d, .int a, .int b], q0 =>
    refine ⟨rfl, ?_⟩
    exact t23 _ _ _ _ q0.1 q0.2
theorem s8 (ds : List D) (Q : C → Prop) (q : gam 8 ds Q) : ds.length = 1 ∧ wSs gam b8 { nx := fun _ => Q (.sh .non), rt := Q } (startE N8 ds) := by
  match ds, q with
  | [d], q0 =>
    refine ⟨rfl, ?_⟩
    exact t8 _ _ q0.1 q0.2
theorem s10 (ds : List D) (Q : C → Prop) (q : gam 10 ds Q) : ds.length = 1 ∧ wSs gam b10 { nx := fun _ => Q (.sh .non), rt := Q } (startE N10 ds) := by
  match ds, q with
  | [.tup l], q0 =>
    refine ⟨rfl, ?_⟩
    exact t10 _ _ q0.1.1 q0.1.2 q0.2
theorem s15 (ds : List D) (Q : C → Prop) (q : gam 15 ds Q) : ds.length = 2 ∧ wSs gam b15 { nx := fun _ => Q (.sh .non), rt := Q } (startE N15 ds) := by
  match ds, q with
  | [.hd 0, .lst l], q0 =>
    refine ⟨rfl, ?_⟩
    exact t15 _ _ q0
theorem s16 (ds : List D) (Q : C → Prop) (q : gam 16 ds Q) : ds.length = 2 ∧ wSs gam b16 { nx := fun _ => Q (.sh .non), rt := Q } (startE N16 ds) := by
  match ds, q with
  | [.hd 0, l], q0 =>
    refine ⟨rfl, ?_⟩
    obtain ⟨sc, rfl, h1, q2⟩ := q0; exact t16 sc _ h1 q2
theorem s18 (ds : List D) (Q : C → Prop) (q : gam 18 ds Q) : ds.length = 1 ∧ wSs gam b18 { nx := fun _ => Q (.sh .non), rt := Q } (startE N18 ds) := by
  match ds, q with
  | [.lst l], q0 =>
    refine ⟨rfl, ?_⟩
    obtain ⟨ns, rfl, ⟨h1, h2⟩, q2⟩ := q0; exact t18 ns _ h1 h2 q2
theorem s9 (ds : List D) (Q : C → Prop) (q : gam 9 ds Q) : ds.length = 1 ∧ wSs gam b9 { nx := fun _ => Q (.sh .non), rt := Q } (startE N9 ds) := by
  match ds, q with
  | [d], q0 =>
    refine ⟨rfl, ?_⟩
    exact t9 _ _ q0.1 q0.2
theorem s20 (ds : List D) (Q : C → Prop) (q : gam 20 ds Q) : ds.length = 2 ∧ wSs gam b20 { nx := fun _ => Q (.sh .non), rt := Q } (startE N20 ds) := by
  match ds, q with
  | [.hd 0, l], q0 =>
    refine ⟨rfl, ?_⟩
    obtain ⟨ks, rfl, h1, q2⟩ := q0; exact t20 ks _ h1 q2
theorem s21 (ds : List D) (Q : C → Prop) (q : gam 21 ds Q) : ds.length = 1 ∧ wSs gam b21 { nx := fun _ => Q (.sh .non), rt := Q } (startE N21 ds) := by
  match ds, q with
  | [.hd 0], q0 =>
    refine ⟨rfl, ?_⟩
    exact t21 _ q0
theorem s24 (ds : List D) (Q : C → Prop) (q : gam 24 ds Q) : ds.length = 1 ∧ wSs gam b24 { nx := fun _ => Q (.sh .non), rt := Q } (startE N24 ds) := by
  match ds, q with
  | [d], q0 =>
    refine ⟨rfl, ?_⟩
    exact t24 _ _ q0.1 q0.2
theorem s25 (ds : List D) (Q : C → Prop) (q : gam 25 ds Q) : ds.length = 2 ∧ wSs gam b25 { nx := fun _ => Q (.sh .non), rt := Q } (startE N25 ds) := by
  match ds, q with
  | [.hd 0, r], q0 =>
    refine ⟨rfl, ?_⟩
    exact t25 _ _ q0.1 q0.2
theorem s11 (ds : List D) (Q : C → Prop) (q : gam 11 ds Q) : ds.length = 1 ∧ wSs gam b11 { nx := fun _ => Q (.sh .non), rt := Q } (startE N11 ds) := by
  match ds, q with
  | [d], q0 =>
    refine ⟨rfl, ?_⟩
    exact t11 _ _ q0.1 q0.2
theorem s22 (ds : List D) (Q : C → Prop) (q : gam 22 ds Q) : ds.length = 2 ∧ wSs gam b22 { nx := fun _ => Q (.sh .non), rt := Q } (startE N22 ds) := by
  match ds, q with
  | [.hd 0, .int m], q0 =>
    refine ⟨rfl, ?_⟩
    exact t22 _ _ q0
theorem s26 (ds : List D) (Q : C → Prop) (q : gam 26 ds Q) : ds.length = 2 ∧ wSs gam b26 { nx := fun _ => Q (.sh .non), rt := Q } (startE N26 ds) := by
  match ds, q with
  | [.hd 0, .tup l], q0 =>
    refine ⟨rfl, ?_⟩
    exact t26 _ _ q0.1.1 q0.1.2 q0.2
theorem T5 (M : Mo K mg fs fd) : Tells P w K mg base 0 gam ct5 where
  mo := gam_ok
  blt := M.blt
  gc := fun _ => M.gcq
  dg := fun _ => M.dgq
  cs := csOk M
  fs := fun p hp => nomatch hp
theorem F5 (M : Mo K mg fs fd) : FnG P w K mg base 1 (fs 5) (fd 5) ["one", "other"] (spD K 2 (gam 5)) := FnG.of_body M.f5 sc5 (T5 M) rfl rfl c5 s5
theorem T7 (M : Mo K mg fs fd) : Tells P w K mg base 0 gam ct7 where
  mo := gam_ok
  blt := M.blt
  gc := fun _ => M.gcq
  dg := fun _ => M.dgq
  cs := csOk M
  fs := fun p hp => nomatch hp
theorem F7 (M : Mo K mg fs fd) : FnG P w K mg base 1 (fs 7) (fd 7) ["value"] (spD K 1 (gam 7)) := FnG.of_body M.f7 sc7 (T7 M) rfl rfl c7 s7
theorem ok_draw (M : Mo K mg fs fd) : FnOk P w K mg base CX0 1 (fs 14) (fd 14) ["deck", "many"] spDraw := by
  have mI := M.blt "int" (by decide +kernel)
  refine M.f14.ok sc14 (fun vs H Q E h => ?_) fun cdv A outer s H vs Q E hr h => ?_
  · obtain ⟨p, d, many, rfl, _⟩ := h
    rfl
  have u1 : ∀ n, n < 100 → (A.deeper (PyProof.Rows.envOfC "_law_draw" (defScope (top 14)) s.heap.objs.size (fs 14) cdv)).units + n < cLine := fun n hn => by have := hr.un; omega
  exact ⟨t_draw K, PSs.nox (pss_cons (ps_if (pt_cmpR op_lt (pe_var (i := 1) rfl (Or.inl rfl)) pe_int rfl) (pss_one (ps_ret pe_int)) pss_nil)
    (pss_cons (ps_if (pt_cmpR (op_neD (u1 64 (by decide))) (pe_dget (u1 1 (by decide)) (pe_var (i := 0) rfl (Or.inl rfl)) pe_str nosl_str) (pe_lst pa_nil) rfl) (pss_cons (ps_set (i := 2) sc14.nd rfl (Or.inl rfl) (pe_bm0 PySem.F.plainAttrs_list PySem.F.slot_list_pop PySem.F.type_list_pop mt_pop (pe_dget (u1 1 (by decide)) (pe_var (i := 0) rfl (Or.inl rfl)) pe_str nosl_str)))
    (pss_cons (ps_if (pt_cmpR op_ge (pe_var (i := 2) rfl (Or.inl rfl)) (pe_var (i := 1) rfl (Or.inl rfl)) rfl) (pss_one (ps_expr (pe_bm PySem.F.plainAttrs_list PySem.F.slot_list_append PySem.F.type_list_append mt_append (pe_dget (u1 1 (by decide)) (pe_var (i := 0) rfl (Or.inl rfl)) pe_str nosl_str) (pa_cons (pe_op op_fdivW (pe_var (i := 2) rfl (Or.inl rfl)) (pe_var (i := 1) rfl (Or.inl rfl))) pa_nil)))) pss_nil)
    (pss_one (ps_ret (pe_op op_mod (pe_callTy call_int1 rfl mI PySem.Pv.boot_int (pa_cons (pe_var (i := 2) rfl (Or.inl rfl)) pa_nil)) (pe_var (i := 1) rfl (Or.inl rfl))))))) pss_nil)
    (pss_cons (ps_set (i := 3) sc14.nd rfl (Or.inl rfl) (pe_op op_mod (pe_callTy call_int1 rfl mI PySem.Pv.boot_int (pa_cons (pe_op op_add (pe_op op_mulA (pe_dget (u1 1 (by decide)) (pe_var (i := 0) rfl (Or.inl rfl)) pe_str nosl_str) pe_int) pe_int) pa_nil)) pe_int))
    (pss_cons (ps_dput (u1 1 (by decide)) (pe_var (i := 0) rfl (Or.inl rfl)) pe_str (pe_var (i := 3) rfl (Or.inl rfl)) rfl)
    (pss_cons (ps_set (i := 4) sc14.nd rfl (Or.inl rfl) (pe_op op_mod (pe_callTy call_int1 rfl mI PySem.Pv.boot_int (pa_cons (pe_op op_add (pe_op op_add (pe_op op_mulA (pe_var (i := 3) rfl (Or.inl rfl)) (pe_var (i := 3) rfl (Or.inl rfl))) (pe_op op_mulA pe_int (pe_var (i := 3) rfl (Or.inl rfl)))) pe_int) pa_nil)) pe_int))
    (pss_one (ps_ret (pe_op op_mod (pe_callTy call_int1 rfl mI PySem.Pv.boot_int (pa_cons (pe_op op_fdivW (pe_var (i := 4) rfl (Or.inl rfl)) pe_int) pa_nil)) (pe_var (i := 1) rfl (Or.inl rfl)))))))))), draw_pure h⟩

theorem F14 (M : Mo K mg fs fd) : FnG P w K mg base 1 (fs 14) (fd 14) ["deck", "many"] (spD K 2 (gam 14)) := (FnG.of_ok (ok_draw M)).imp fun vs H Q E h => draw_val (by
  obtain ⟨G, Hv, F, ds, hK, hS, r, hl, q⟩ := h
  refine ⟨G, Hv, F, ds, hK, hS, r, hl, ?_⟩
  match ds, q with
  | [.hd 0, .int m], q => exact ⟨_, rfl, q.1.1, q.1.2, q.2⟩)
theorem T17 (M : Mo K mg fs fd) : Tells P w K mg base 0 gam ct17 where
  mo := gam_ok
  blt := M.blt
  gc := fun _ => M.gcq
  dg := fun _ => M.dgq
  cs := csOk M
  fs := fun p hp => nomatch hp
theorem F17 (M : Mo K mg fs fd) : FnG P w K mg base 1 (fs 17) (fd 17) ["one", "other"] (spD K 2 (gam 17)) := FnG.of_body M.f17 sc17 (T17 M) rfl rfl c17 s17
theorem T19 (M : Mo K mg fs fd) : Tells P w K mg base 0 gam ct19 where
  mo := gam_ok
  blt := M.blt
  gc := fun _ => M.gcq
  dg := fun _ => M.dgq
  cs := csOk M
  fs := fun p hp => nomatch hp
theorem F19 (M : Mo K mg fs fd) : FnG P w K mg base 1 (fs 19) (fd 19) ["base", "times"] (spD K 2 (gam 19)) := FnG.of_body M.f19 sc19 (T19 M) rfl rfl c19 s19
theorem T23 (M : Mo K mg fs fd) : Tells P w K mg base 0 gam ct23 where
  mo := gam_ok
  blt := M.blt
  gc := fun _ => M.gcq
  dg := fun _ => M.dgq
  cs := csOk M
  fs := fun p hp => nomatch hp
theorem F23 (M : Mo K mg fs fd) : FnG P w K mg base 1 (fs 23) (fd 23) ["value", "low", "high"] (spD K 3 (gam 23)) := FnG.of_body M.f23 sc23 (T23 M) rfl rfl c23 s23
theorem T8 (M : Mo K mg fs fd) : Tells P w K mg base 1 gam ct8 where
  mo := gam_ok
  blt := M.blt
  gc := fun _ => M.gcq
  dg := fun _ => M.dgq
  cs := csOk M
  fs := fun p hp A hr => by
    simp only [ct8, calls8, List.mem_cons, List.not_mem_nil, or_false] at hp
    rcases hp with rfl
    · exact Fact.of (p := [0]) (F7 M) M.f7 M.g7 (by decide +kernel) (fun _ _ _ _ _ _ us ws hu hw => match us, ws, hu, hw with | [_], [], _, _ => rfl) (by decide) (fun ds Q q => perm_7 q) A hr
theorem F8 (M : Mo K mg fs fd) : FnG P w K mg base 2 (fs 8) (fd 8) ["value"] (spD K 1 (gam 8)) := FnG.of_body M.f8 sc8 (T8 M) rfl rfl c8 s8
theorem T10 (M : Mo K mg fs fd) : Tells P w K mg base 1 gam ct10 where
  mo := gam_ok
  blt := M.blt
  gc := fun _ => M.gcq
  dg := fun _ => M.dgq
  cs := csOk M
  fs := fun p hp A hr => by
    simp only [ct10, calls10, List.mem_cons, List.not_mem_nil, or_false] at hp
    rcases hp with rfl
    · exact Fact.of (p := [0, 1]) (F5 M) M.f5 M.g5 (by decide +kernel) (fun _ _ _ _ _ _ us ws hu hw => match us, ws, hu, hw with | [_, _], [], _, _ => rfl) (by decide) (fun ds Q q => perm_5 q) A hr
theorem F10 (M : Mo K mg fs fd) : FnG P w K mg base 2 (fs 10) (fd 10) ["rules"] (spD K 1 (gam 10)) := FnG.of_body M.f10 sc10 (T10 M) rfl rfl c10 s10
theorem T15 (M : Mo K mg fs fd) : Tells P w K mg base 1 gam ct15 where
  mo := gam_ok
  blt := M.blt
  gc := fun _ => M.gcq
  dg := fun _ => M.dgq
  cs := csOk M
  fs := fun p hp A hr => by
    simp only [ct15, calls15, List.mem_cons, List.not_mem_nil, or_false] at hp
    rcases hp with rfl
    · exact Fact.of (p := [0, 1]) (F14 M) M.f14 M.g14 (by decide +kernel) (fun _ _ _ _ _ _ us ws hu hw => match us, ws, hu, hw with | [_, _], [], _, _ => rfl) (by decide) (fun ds Q q => perm_14 q) A hr
theorem F15 (M : Mo K mg fs fd) : FnG P w K mg base 2 (fs 15) (fd 15) ["deck", "items"] (spD K 2 (gam 15)) := FnG.of_body M.f15 sc15 (T15 M) rfl rfl c15 s15
theorem T16 (M : Mo K mg fs fd) : Tells P w K mg base 1 gam ct16 where
  mo := gam_ok
  blt := M.blt
  gc := fun _ => M.gcq
  dg := fun _ => M.dgq
  cs := csOk M
  fs := fun p hp A hr => by
    simp only [ct16, calls16, List.mem_cons, List.not_mem_nil, or_false] at hp
    rcases hp with rfl
    · exact Fact.of (p := [0, 1]) (F14 M) M.f14 M.g14 (by decide +kernel) (fun _ _ _ _ _ _ us ws hu hw => match us, ws, hu, hw with | [_, _], [], _, _ => rfl) (by decide) (fun ds Q q => perm_14 q) A hr
theorem F16 (M : Mo K mg fs fd) : FnG P w K mg base 2 (fs 16) (fd 16) ["deck", "items"] (spD K 2 (gam 16)) := FnG.of_body M.f16 sc16 (T16 M) rfl rfl c16 s16
theorem T18 (M : Mo K mg fs fd) : Tells P w K mg base 1 gam ct18 where
  mo := gam_ok
  blt := M.blt
  gc := fun _ => M.gcq
  dg := fun _ => M.dgq
  cs := csOk M
  fs := fun p hp A hr => by
    simp only [ct18, calls18, List.mem_cons, List.not_mem_nil, or_false] at hp
    rcases hp with rfl
    · exact Fact.of (p := [0, 1]) (F17 M) M.f17 M.g17 (by decide +kernel) (fun _ _ _ _ _ _ us ws hu hw => match us, ws, hu, hw with | [_, _], [], _, _ => rfl) (by decide) (fun ds Q q => perm_17 q) A hr
theorem F18 (M : Mo K mg fs fd) : FnG P w K mg base 2 (fs 18) (fd 18) ["steps"] (spD K 1 (gam 18)) := FnG.of_body M.f18 sc18 (T18 M) rfl rfl c18 s18
theorem T9 (M : Mo K mg fs fd) : Tells P w K mg base 2 gam ct9 where
  mo := gam_ok
  blt := M.blt
  gc := fun _ => M.gcq
  dg := fun _ => M.dgq
  cs := csOk M
  fs := fun p hp A hr => by
    simp only [ct9, calls9, List.mem_cons, List.not_mem_nil, or_false] at hp
    rcases hp with rfl | rfl
    · exact Fact.of (p := [0]) (F8 M) M.f8 M.g8 (by decide +kernel) (fun _ _ _ _ _ _ us ws hu hw => match us, ws, hu, hw with | [_], [], _, _ => rfl) (by decide) (fun ds Q q => perm_8 q) A hr
    · exact Fact.of (p := [0]) (F7 M) M.f7 M.g7 (by decide +kernel) (fun _ _ _ _ _ _ us ws hu hw => match us, ws, hu, hw with | [_], [], _, _ => rfl) (by decide) (fun ds Q q => perm_7 q) A hr
theorem F9 (M : Mo K mg fs fd) : FnG P w K mg base 3 (fs 9) (fd 9) ["value"] (spD K 1 (gam 9)) := FnG.of_body M.f9 sc9 (T9 M) rfl rfl c9 s9
theorem T20 (M : Mo K mg fs fd) : Tells P w K mg base 2 gam ct20 where
  mo := gam_ok
  blt := M.blt
  gc := fun _ => M.gcq
  dg := fun _ => M.dgq
  cs := csOk M
  fs := fun p hp A hr => by
    simp only [ct20, calls20, List.mem_cons, List.not_mem_nil, or_false] at hp
    rcases hp with rfl | rfl | rfl
    · exact Fact.of (p := [0, 1]) (F19 M) M.f19 M.g19 (by decide +kernel) (fun _ _ _ _ _ _ us ws hu hw => match us, ws, hu, hw with | [_, _], [], _, _ => rfl) (by decide) (fun ds Q q => perm_19 q) A hr
    · exact Fact.of (p := [0, 1]) (F14 M) M.f14 M.g14 (by decide +kernel) (fun _ _ _ _ _ _ us ws hu hw => match us, ws, hu, hw with | [_, _], [], _, _ => rfl) (by decide) (fun ds Q q => perm_14 q) A hr
    · exact Fact.of (p := [0, 1]) (F15 M) M.f15 M.g15 (by decide +kernel) (fun _ _ _ _ _ _ us ws hu hw => match us, ws, hu, hw with | [_, _], [], _, _ => rfl) (by decide) (fun ds Q q => perm_15 q) A hr
theorem F20 (M : Mo K mg fs fd) : FnG P w K mg base 3 (fs 20) (fd 20) ["deck", "kinds"] (spD K 2 (gam 20)) := FnG.of_body M.f20 sc20 (T20 M) rfl rfl c20 s20
theorem T21 (M : Mo K mg fs fd) : Tells P w K mg base 2 gam ct21 where
  mo := gam_ok
  blt := M.blt
  gc := fun _ => M.gcq
  dg := fun _ => M.dgq
  cs := csOk M
  fs := fun p hp A hr => by
    simp only [ct21, calls21, List.mem_cons, List.not_mem_nil, or_false] at hp
    rcases hp with rfl
    · exact Fact.of (p := [0, 1]) (F15 M) M.f15 M.g15 (by decide +kernel) (fun _ _ _ _ _ _ us ws hu hw => match us, ws, hu, hw with | [_, _], [], _, _ => rfl) (by decide) (fun ds Q q => perm_15 q) A hr
theorem F21 (M : Mo K mg fs fd) : FnG P w K mg base 3 (fs 21) (fd 21) ["deck"] (spD K 1 (gam 21)) := FnG.of_body M.f21 sc21 (T21 M) rfl rfl c21 s21
theorem T24 (M : Mo K mg fs fd) : Tells P w K mg base 2 gam ct24 where
  mo := gam_ok
  blt := M.blt
  gc := fun _ => M.gcq
  dg := fun _ => M.dgq
  cs := csOk M
  fs := fun p hp A hr => by
    simp only [ct24, calls24, List.mem_cons, List.not_mem_nil, or_false] at hp
    rcases hp with rfl | rfl
    · exact Fact.of (p := [0]) (F18 M) M.f18 M.g18 (by decide +kernel) (fun _ _ _ _ _ _ us ws hu hw => match us, ws, hu, hw with | [_], [], _, _ => rfl) (by decide) (fun ds Q q => perm_18 q) A hr
    · exact Fact.of (p := [0, 1, 2]) (F23 M) M.f23 M.g23 (by decide +kernel) (fun _ _ _ _ _ _ us ws hu hw => match us, ws, hu, hw with | [_, _, _], [], _, _ => rfl) (by decide) (fun ds Q q => perm_23 q) A hr
theorem F24 (M : Mo K mg fs fd) : FnG P w K mg base 3 (fs 24) (fd 24) ["value"] (spD K 1 (gam 24)) := FnG.of_body M.f24 sc24 (T24 M) rfl rfl c24 s24
theorem T25 (M : Mo K mg fs fd) : Tells P w K mg base 2 gam ct25 where
  mo := gam_ok
  blt := M.blt
  gc := fun _ => M.gcq
  dg := fun _ => M.dgq
  cs := csOk M
  fs := fun p hp A hr => by
    simp only [ct25, calls25, List.mem_cons, List.not_mem_nil, or_false] at hp
    rcases hp with rfl
    · exact Fact.of (p := [0, 1]) (F15 M) M.f15 M.g15 (by decide +kernel) (fun _ _ _ _ _ _ us ws hu hw => match us, ws, hu, hw with | [_, _], [], _, _ => rfl) (by decide) (fun ds Q q => perm_15 q) A hr
theorem F25 (M : Mo K mg fs fd) : FnG P w K mg base 3 (fs 25) (fd 25) ["deck", "rule"] (spD K 2 (gam 25)) := FnG.of_body M.f25 sc25 (T25 M) rfl rfl c25 s25
theorem T11 (M : Mo K mg fs fd) : Tells P w K mg base 3 gam ct11 where
  mo := gam_ok
  blt := M.blt
  gc := fun _ => M.gcq
  dg := fun _ => M.dgq
  cs := csOk M
  fs := fun p hp A hr => by
    simp only [ct11, calls11, List.mem_cons, List.not_mem_nil, or_false] at hp
    rcases hp with rfl | rfl
    · exact Fact.of (p := [0]) (F9 M) M.f9 M.g9 (by decide +kernel) (fun _ _ _ _ _ _ us ws hu hw => match us, ws, hu, hw with | [_], [], _, _ => rfl) (by decide) (fun ds Q q => perm_9 q) A hr
    · exact Fact.of (p := [0]) (F10 M) M.f10 M.g10 (by decide +kernel) (fun _ _ _ _ _ _ us ws hu hw => match us, ws, hu, hw with | [_], [], _, _ => rfl) (by decide) (fun ds Q q => perm_10 q) A hr
theorem F11 (M : Mo K mg fs fd) : FnG P w K mg base 4 (fs 11) (fd 11) ["value"] (spD K 1 (gam 11)) := FnG.of_body M.f11 sc11 (T11 M) rfl rfl c11 s11
theorem T22 (M : Mo K mg fs fd) : Tells P w K mg base 3 gam ct22 where
  mo := gam_ok
  blt := M.blt
  gc := fun _ => M.gcq
  dg := fun _ => M.dgq
  cs := csOk M
  fs := fun p hp A hr => by
    simp only [ct22, calls22, List.mem_cons, List.not_mem_nil, or_false] at hp
    rcases hp with rfl | rfl | rfl | rfl | rfl
    · exact Fact.of (p := [0]) (F21 M) M.f21 M.g21 (by decide +kernel) (fun _ _ _ _ _ _ us ws hu hw => match us, ws, hu, hw with | [_], [], _, _ => rfl) (by decide) (fun ds Q q => perm_21 q) A hr
    · exact Fact.of (p := [0, 1]) (F15 M) M.f15 M.g15 (by decide +kernel) (fun _ _ _ _ _ _ us ws hu hw => match us, ws, hu, hw with | [_, _], [], _, _ => rfl) (by decide) (fun ds Q q => perm_15 q) A hr
    · exact Fact.of (p := [0, 1]) (F20 M) M.f20 M.g20 (by decide +kernel) (fun _ _ _ _ _ _ us ws hu hw => match us, ws, hu, hw with | [_, _], [], _, _ => rfl) (by decide) (fun ds Q q => perm_20 q) A hr
    · exact Fact.of (p := [0, 1]) (F14 M) M.f14 M.g14 (by decide +kernel) (fun _ _ _ _ _ _ us ws hu hw => match us, ws, hu, hw with | [_, _], [], _, _ => rfl) (by decide) (fun ds Q q => perm_14 q) A hr
    · exact Fact.of (p := [0, 1]) (F16 M) M.f16 M.g16 (by decide +kernel) (fun _ _ _ _ _ _ us ws hu hw => match us, ws, hu, hw with | [_, _], [], _, _ => rfl) (by decide) (fun ds Q q => perm_16 q) A hr
theorem F22 (M : Mo K mg fs fd) : FnG P w K mg base 4 (fs 22) (fd 22) ["deck", "most"] (spD K 2 (gam 22)) := FnG.of_body M.f22 sc22 (T22 M) rfl rfl c22 s22
theorem T26 (M : Mo K mg fs fd) : Tells P w K mg base 3 gam ct26 where
  mo := gam_ok
  blt := M.blt
  gc := fun _ => M.gcq
  dg := fun _ => M.dgq
  cs := csOk M
  fs := fun p hp A hr => by
    simp only [ct26, calls26, List.mem_cons, List.not_mem_nil, or_false] at hp
    rcases hp with rfl | rfl | rfl
    · exact Fact.of (p := [0, 1]) (F14 M) M.f14 M.g14 (by decide +kernel) (fun _ _ _ _ _ _ us ws hu hw => match us, ws, hu, hw with | [_, _], [], _, _ => rfl) (by decide) (fun ds Q q => perm_14 q) A hr
    · exact Fact.of (p := [0, 1]) (F15 M) M.f15 M.g15 (by decide +kernel) (fun _ _ _ _ _ _ us ws hu hw => match us, ws, hu, hw with | [_, _], [], _, _ => rfl) (by decide) (fun ds Q q => perm_15 q) A hr
    · exact Fact.of (p := [0, 1]) (F25 M) M.f25 M.g25 (by decide +kernel) (fun _ _ _ _ _ _ us ws hu hw => match us, ws, hu, hw with | [_, _], [], _, _ => rfl) (by decide) (fun ds Q q => perm_25 q) A hr
theorem F26 (M : Mo K mg fs fd) : FnG P w K mg base 4 (fs 26) (fd 26) ["deck", "scale"] (spD K 2 (gam 26)) := FnG.of_body M.f26 sc26 (T26 M) rfl rfl c26 s26
theorem T27 (M : Mo K mg fs fd) : Tells P w K mg base 4 gam ct27 where
  mo := gam_ok
  blt := M.blt
  gc := fun _ => M.gcq
  dg := fun _ => M.dgq
  cs := csOk M
  fs := fun p hp A hr => by
    simp only [ct27, calls27, List.mem_cons, List.not_mem_nil, or_false] at hp
    rcases hp with rfl | rfl | rfl | rfl | rfl | rfl
    · exact Fact.of (p := [0, 1]) (F22 M) M.f22 M.g22 (by decide +kernel) (fun _ _ _ _ _ _ us ws hu hw => match us, ws, hu, hw with | [_, _], [], _, _ => rfl) (by decide) (fun ds Q q => perm_22 q) A hr
    · exact Fact.of (p := [0, 1]) (F26 M) M.f26 M.g26 (by decide +kernel) (fun _ _ _ _ _ _ us ws hu hw => match us, ws, hu, hw with | [_, _], [], _, _ => rfl) (by decide) (fun ds Q q => perm_26 q) A hr
    · exact Fact.of (p := [0]) (F11 M) M.f11 M.g11 (by decide +kernel) (fun _ _ _ _ _ _ us ws hu hw => match us, ws, hu, hw with | [_], [], _, _ => rfl) (by decide) (fun ds Q q => perm_11 q) A hr
    · exact Fact.of (p := [0]) (F11 M) M.f11 M.g11 (by decide +kernel) (fun _ _ _ _ _ _ us ws hu hw => match us, ws, hu, hw with | [], [_], _, _ => rfl) (by decide) (fun ds Q q => perm_2000 q) A hr
    · exact Fact.of (p := [0, 1]) (F14 M) M.f14 M.g14 (by decide +kernel) (fun _ _ _ _ _ _ us ws hu hw => match us, ws, hu, hw with | [_, _], [], _, _ => rfl) (by decide) (fun ds Q q => perm_14 q) A hr
    · exact Fact.of (p := [0]) (F24 M) M.f24 M.g24 (by decide +kernel) (fun _ _ _ _ _ _ us ws hu hw => match us, ws, hu, hw with | [_], [], _, _ => rfl) (by decide) (fun ds Q q => perm_24 q) A hr
theorem scDeck : FnScope ["script", "deck", "cell", "whole", "state"] ["script"] (defScope (top 13)) := ⟨rfl, rfl, rfl, by decide +kernel, rfl, by decide +kernel, by decide +kernel⟩
theorem ok_deck (M : Mo K mg fs fd) : FnOk P w K mg base CX0 1 (fs 13) (fd 13) ["script"] (spDeck K) := by
  have mL := M.blt "len" (by decide +kernel)
  have mI := M.blt "int" (by decide +kernel)
  have mA := M.blt "abs" (by decide +kernel)
  refine M.f13.ok scDeck (fun vs H Q E h => ?_) fun cdv A outer s H vs Q E hr h => ?_
  · obtain ⟨a, ns, rfl, _⟩ := h
    rfl
  have u1 : ∀ n, n < 100 → (A.deeper (PyProof.Rows.envOfC "_law_deck" (defScope (top 13)) s.heap.objs.size (fs 13) cdv)).units + n < cLine := fun n hn => by have := hr.un; omega
  exact ⟨t_deck K _ (t_bodyA _ _), PSs.nox (pss_cons (ps_set (i := 1) scDeck.nd rfl (Or.inl rfl) (pe_disp (pps_cons pe_str (pe_lst pa_nil) (pps_cons pe_str (pe_op op_add pe_int (pe_callB call_len rfl mL boot_len (pa_cons (pe_slice sl_list (pe_var (i := 0) rfl (Or.inl rfl)) po_none (po_some pe_int)) pa_nil))) pps_nil)) rfl rfl (fun z => nomatch z) (by decide)))
    (pss_cons (ps_for PassesOwn.never rfl (pi_list (pe_slice sl_list (pe_var (i := 0) rfl (Or.inl rfl)) po_none (po_some pe_int))) (pg_name (i := 2) scDeck.nd rfl (Or.inl rfl)) (pss_cons (ps_set (i := 3) scDeck.nd rfl (Or.inl rfl) (pe_callB call_abs rfl mA (by decide +kernel) (pa_cons (pe_var (i := 2) rfl (Or.inl rfl)) pa_nil)))
    (pss_cons (ps_if (pt_cmpR op_ge (pe_var (i := 3) rfl (Or.inl rfl)) (pe_op op_pow pe_int pe_int) rfl) (pss_one (ps_dput (u1 1 (by decide)) (pe_var (i := 1) rfl (Or.inl rfl)) pe_str (pe_op op_cat (pe_lst (pa_cons (pe_var (i := 3) rfl (Or.inl rfl)) pa_nil)) (pe_dget (u1 1 (by decide)) (pe_var (i := 1) rfl (Or.inl rfl)) pe_str nosl_str)) rfl)) pss_nil)
    (pss_cons (ps_set (i := 4) scDeck.nd rfl (Or.inl rfl) (pe_op op_add (pe_op op_mulA (pe_op op_add (pe_op op_add (pe_op op_add (pe_dget (u1 1 (by decide)) (pe_var (i := 1) rfl (Or.inl rfl)) pe_str nosl_str) (pe_op op_mulA pe_int (pe_var (i := 3) rfl (Or.inl rfl)))) (pe_callTy call_int1 rfl mI PySem.Pv.boot_int (pa_cons (pe_cmpR op_lt (pe_var (i := 2) rfl (Or.inl rfl)) pe_int rfl) pa_nil))) pe_int) pe_int) pe_int))
    (pss_one (ps_dput (u1 1 (by decide)) (pe_var (i := 1) rfl (Or.inl rfl)) pe_str (pe_op op_mod (pe_callTy call_int1 rfl mI PySem.Pv.boot_int (pa_cons (pe_var (i := 4) rfl (Or.inl rfl)) pa_nil)) pe_int) rfl))))))
    (pss_one (ps_ret (pe_var (i := 1) rfl (Or.inl rfl)))))), deck_pure (by decide) (by decide) (fun σ H R r => r) (fun p q a ms i n H os D ho hi hI k => bodyA_ok _ _ (by decide) p q a ms i n H os D ho hi hI k) h⟩
theorem F27 (M : Mo K mg fs fd) : FnG P w K mg base 5 (fs 27) (fd 27) ["script"] (spLaw K) := by
  refine FnG.of_law (j := 1) M.f27 sc27 (T27 M) rfl rfl rfl c27 (by decide) (fun X hP hw hK hm hb hN hs hr hfn => ?_) t27
  subst hP hw hK hm hb
  refine ps_set (i := 1) (by rw [hN]; exact sc27.nd) (by rw [hN]; rfl) (by rw [hs]; first | exact .inl rfl | exact .inr rfl) (pe_call (ok_deck M) (hr.mono (by decide)) (by show X.env.scope.names.lookup _ = _; rw [hs]; rfl) M.g13 M.f13.kp (M.f13.bindsN fun _ _ _ _ _ _ us hl => match us, hl with | [_], _ => rfl) .nil pass0 (pa_cons (pe_var (i := 0) (by rw [hN]; rfl) (Or.inl (by rw [hs]; rfl))) pa_nil)) rfl (Or.inl (hfn _))

end
theorem facts {P : Program} {w : World} {K : PySem.W.Frag} {h : Heap} {mg : Str → Option Value} {f : Addr} (X : K.In h) (G : h.Ns mainGlobals mg) (hfa : mg ("law" : Str) = some (.ref f)) (cq : SaysX (fun K => gcdB K && digB K) fa fnL K) :
    ∃ fd : FuncData, (∀ (s : Shared) (v : Value), BindsTo s fd ⟨[v], []⟩ [("script", v)]) ∧ ∀ base : Heap, K.In base → base.Ns mainGlobals mg → FnG P w K mg base 5 f fd ["script"] (spLaw K) := by
  have c := cq.d
  obtain ⟨fd5, FD5⟩ := c.def_ 0 (d := d5) rfl
  have e5 := He.glo_ok X G (c.fact 0 (f := .glo "common_multiple") rfl)
  obtain ⟨fd7, FD7⟩ := c.def_ 1 (d := d7) rfl
  have e7 := He.glo_ok X G (c.fact 1 (f := .glo "is_integer") rfl)
  obtain ⟨fd8, FD8⟩ := c.def_ 2 (d := d8) rfl
  have e8 := He.glo_ok X G (c.fact 2 (f := .glo "is_number") rfl)
  obtain ⟨fd9, FD9⟩ := c.def_ 3 (d := d9) rfl
  have e9 := He.glo_ok X G (c.fact 3 (f := .glo "is_rule") rfl)
  obtain ⟨fd10, FD10⟩ := c.def_ 4 (d := d10) rfl
  have e10 := He.glo_ok X G (c.fact 4 (f := .glo "steps_multiple") rfl)
  obtain ⟨fd11, FD11⟩ := c.def_ 5 (d := d11) rfl
  have e11 := He.glo_ok X G (c.fact 5 (f := .glo "scale_error") rfl)
  obtain ⟨fd13, FD13⟩ := c.def_ 6 (d := d13) rfl
  have e13 := He.glo_ok X G (c.fact 6 (f := .glo "_law_deck") rfl)
  obtain ⟨fd14, FD14⟩ := c.def_ 7 (d := d14) rfl
  have e14 := He.glo_ok X G (c.fact 7 (f := .glo "_law_draw") rfl)
  obtain ⟨fd15, FD15⟩ := c.def_ 8 (d := d15) rfl
  have e15 := He.glo_ok X G (c.fact 8 (f := .glo "_law_pick") rfl)
  obtain ⟨fd16, FD16⟩ := c.def_ 9 (d := d16) rfl
  have e16 := He.glo_ok X G (c.fact 9 (f := .glo "_law_mixed") rfl)
  obtain ⟨fd17, FD17⟩ := c.def_ 10 (d := d17) rfl
  have e17 := He.glo_ok X G (c.fact 10 (f := .glo "_law_divisor") rfl)
  obtain ⟨fd18, FD18⟩ := c.def_ 11 (d := d18) rfl
  have e18 := He.glo_ok X G (c.fact 11 (f := .glo "_law_multiple") rfl)
  obtain ⟨fd19, FD19⟩ := c.def_ 12 (d := d19) rfl
  have e19 := He.glo_ok X G (c.fact 12 (f := .glo "_law_raised") rfl)
  obtain ⟨fd20, FD20⟩ := c.def_ 13 (d := d20) rfl
  have e20 := He.glo_ok X G (c.fact 13 (f := .glo "_law_step") rfl)
  obtain ⟨fd21, FD21⟩ := c.def_ 14 (d := d21) rfl
  have e21 := He.glo_ok X G (c.fact 14 (f := .glo "_law_kinds") rfl)
  obtain ⟨fd22, FD22⟩ := c.def_ 15 (d := d22) rfl
  have e22 := He.glo_ok X G (c.fact 15 (f := .glo "_law_great") rfl)
  obtain ⟨fd23, FD23⟩ := c.def_ 16 (d := d23) rfl
  have e23 := He.glo_ok X G (c.fact 16 (f := .glo "_law_is_whole") rfl)
  obtain ⟨fd24, FD24⟩ := c.def_ 17 (d := d24) rfl
  have e24 := He.glo_ok X G (c.fact 17 (f := .glo "_law_due") rfl)
  obtain ⟨fd25, FD25⟩ := c.def_ 18 (d := d25) rfl
  have e25 := He.glo_ok X G (c.fact 18 (f := .glo "_law_odd") rfl)
  obtain ⟨fd26, FD26⟩ := c.def_ 19 (d := d26) rfl
  have e26 := He.glo_ok X G (c.fact 19 (f := .glo "_law_spoilt") rfl)
  obtain ⟨fd27, FD27⟩ := c.def_ 20 (d := d27) rfl
  have e27 := He.glo_ok X G (c.fact 20 (f := .glo "law") rfl)
  obtain rfl : f = He.ga K "law" := by
    have z := hfa.symm.trans e27
    injection z with z
    injection z
  let fs : Nat → Addr := fun n => match n with
    | 5 => He.ga K "common_multiple"
    | 7 => He.ga K "is_integer"
    | 8 => He.ga K "is_number"
    | 9 => He.ga K "is_rule"
    | 10 => He.ga K "steps_multiple"
    | 11 => He.ga K "scale_error"
    | 13 => He.ga K "_law_deck"
    | 14 => He.ga K "_law_draw"
    | 15 => He.ga K "_law_pick"
    | 16 => He.ga K "_law_mixed"
    | 17 => He.ga K "_law_divisor"
    | 18 => He.ga K "_law_multiple"
    | 19 => He.ga K "_law_raised"
    | 20 => He.ga K "_law_step"
    | 21 => He.ga K "_law_kinds"
    | 22 => He.ga K "_law_great"
    | 23 => He.ga K "_law_is_whole"
    | 24 => He.ga K "_law_due"
    | 25 => He.ga K "_law_odd"
    | 26 => He.ga K "_law_spoilt"
    | 27 => He.ga K "law"
    | _ => He.ga K "law"
  let fd : Nat → FuncData := fun n => match n with
    | 5 => fd5
    | 7 => fd7
    | 8 => fd8
    | 9 => fd9
    | 10 => fd10
    | 11 => fd11
    | 13 => fd13
    | 14 => fd14
    | 15 => fd15
    | 16 => fd16
    | 17 => fd17
    | 18 => fd18
    | 19 => fd19
    | 20 => fd20
    | 21 => fd21
    | 22 => fd22
    | 23 => fd23
    | 24 => fd24
    | 25 => fd25
    | 26 => fd26
    | 27 => fd27
    | _ => fd27
  have M : Mo K mg fs fd := ⟨fun nm hn => by
    simp only [blts, List.mem_cons, List.not_mem_nil, or_false] at hn
    rcases hn with rfl | rfl | rfl | rfl | rfl | rfl | rfl | rfl | rfl | rfl | rfl | rfl | rfl | rfl | rfl | rfl | rfl | rfl | rfl | rfl | rfl
    · exact He.free_ok X G (c.fact 21 (f := .free "len") rfl)
    · exact He.free_ok X G (c.fact 22 (f := .free "abs") rfl)
    · exact He.free_ok X G (c.fact 23 (f := .free "int") rfl)
    · exact He.free_ok X G (c.fact 24 (f := .free "bool") rfl)
    · exact He.free_ok X G (c.fact 25 (f := .free "str") rfl)
    · exact He.free_ok X G (c.fact 26 (f := .free "repr") rfl)
    · exact He.free_ok X G (c.fact 27 (f := .free "sum") rfl)
    · exact He.free_ok X G (c.fact 28 (f := .free "max") rfl)
    · exact He.free_ok X G (c.fact 29 (f := .free "min") rfl)
    · exact He.free_ok X G (c.fact 30 (f := .free "list") rfl)
    · exact He.free_ok X G (c.fact 31 (f := .free "tuple") rfl)
    · exact He.free_ok X G (c.fact 32 (f := .free "sorted") rfl)
    · exact He.free_ok X G (c.fact 33 (f := .free "all") rfl)
    · exact He.free_ok X G (c.fact 34 (f := .free "any") rfl)
    · exact He.free_ok X G (c.fact 35 (f := .free "range") rfl)
    · exact He.free_ok X G (c.fact 36 (f := .free "enumerate") rfl)
    · exact He.free_ok X G (c.fact 37 (f := .free "zip") rfl)
    · exact He.free_ok X G (c.fact 38 (f := .free "reversed") rfl)
    · exact He.free_ok X G (c.fact 39 (f := .free "isinstance") rfl)
    · exact He.free_ok X G (c.fact 40 (f := .free "dict") rfl)
    · exact He.free_ok X G (c.fact 41 (f := .free "set") rfl)
    , gcdB_mg (Bool.and_eq_true_iff.mp cq.chk).1 X G, (Bool.and_eq_true_iff.mp cq.chk).2
    , He.int_ok X G (c.fact 42 (f := .int "MAX_RULES" 40) rfl)
    , He.int_ok X G (c.fact 43 (f := .int "MAX_NUMBER" 1000000000000000000000000000000000000000000000000000000000000) rfl)
    , He.int_ok X G (c.fact 44 (f := .int "MAX_STEP" 1000000000000000000000000000000000000000000000000000000000000) rfl)
    , e5, FD5, e7, FD7, e8, FD8, e9, FD9, e10, FD10, e11, FD11, e13, FD13, e14, FD14, e15, FD15, e16, FD16, e17, FD17, e18, FD18, e19, FD19, e20, FD20, e21, FD21, e22, FD22, e23, FD23, e24, FD24, e25, FD25, e26, FD26, e27, FD27⟩
  have b := FunD.bindsA (ps := ["script"]) FD27 fun _ _ _ _ _ _ us hl => match us, hl with | [_], _ => rfl
  exact ⟨fd27, fun s v => b s [v] rfl, fun base _ _ => F27 M⟩
end B
open PySem PySem.W PySem.Calls PyProof.Rows
theorem PySem.Challenge.cw_everyexact_k01_what_are_scales_holds : PySem.Challenge.rw_everyexact_k01_what_are_scales.Holds := by
  w_on; o_law
  refine HandSHeadRun.head_imp (r := OpenLaw.row PySem.Challenge.rw_everyexact_k01_what_are_scales) (q := view (OpenLaw.row PySem.Challenge.rw_everyexact_k01_what_are_scales).prog [0, 27]) (H := B.hk) (ob := B.ob) (M := 2000) (loose := [("common_multiple" : PySem.Str), ("is_integer" : PySem.Str), ("is_number" : PySem.Str), ("is_rule" : PySem.Str), ("steps_multiple" : PySem.Str), ("scale_error" : PySem.Str), ("_law_deck" : PySem.Str), ("_law_draw" : PySem.Str), ("_law_pick" : PySem.Str), ("_law_mixed" : PySem.Str), ("_law_divisor" : PySem.Str), ("_law_multiple" : PySem.Str), ("_law_raised" : PySem.Str), ("_law_step" : PySem.Str), ("_law_kinds" : PySem.Str), ("_law_great" : PySem.Str), ("_law_is_whole" : PySem.Str), ("_law_due" : PySem.Str), ("_law_odd" : PySem.Str), ("_law_spoilt" : PySem.Str), ("MAX_RULES" : PySem.Str), ("MAX_NUMBER" : PySem.Str), ("MAX_STEP" : PySem.Str)]) (d := HandSHeadRun.topDef (OpenLaw.row PySem.Challenge.rw_everyexact_k01_what_are_scales).prog 27) (kwd := []) B.ob_eq
     B.run (by kernel_rfl) (by kernel_rfl) (by kernel_rfl) (by rfl) (by first | assumption | decide +kernel) (by decide +kernel) ⟨rfl, rfl, rfl, rfl, rfl, by decide +kernel⟩ ?hw ?hc
  case hw => w_witness2
  case hc =>
    refine B.walk_end (l := PySem.Challenge.rw_everyexact_k01_what_are_scales) (k := 5) (x := "script") rfl (by kernel_rfl) ⟨rfl, by decide, by decide⟩ ?F
    intro w mg fa h Y G hmg0
    obtain ⟨K, KX, c⟩ := Y
    have hmg : mg ("law" : PySem.Str) = some (.ref fa) := by
      have e : (HandSHeadRun.topDef (OpenLaw.row PySem.Challenge.rw_everyexact_k01_what_are_scales).prog 27).name = ("law" : PySem.Str) := by kernel_rfl
      rw [← e]
      exact hmg0
    obtain ⟨fd, hb, hF⟩ := B.facts (P := (PySem.Challenge.rw_everyexact_k01_what_are_scales).prog) (w := w) KX G hmg c
    exact ⟨K, fd, KX, hb, hF⟩


