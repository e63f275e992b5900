import PyProof.Rows.All
import Wide.All
import OpenK.AllK
import Wide.FinOn
import HandS.ForMost
import HandS.TupAny
import HandS.Conv
import HandS.Deep
import HandS.Style
import HandS.Wide
import HandS.Rev
import HandS.Zip
import HandS.SortInts
import HandS.NoneIn
import HandS.Defaults
import KE.GoesMore
import HandS.IsInst
import HandS.Strs
import HandS.More
import PyProof.Rows.RegFStrParts
import PyProof.P3Eq
import HandS.Zip0
import HandS.Text
import PySem.Challenge.RW_passmarks_k12_whole_orders_and_rows
/-! text Ev0 -/
set_option Elab.async false
set_option linter.all false
set_option maxRecDepth 100000
set_option maxHeartbeats 4000000
namespace Ev
open PySem L2

/-- data, without addresses -/
inductive D where
  | non | bl (b : Bool) | int (i : Int) | str (s : Str)
  | tup (xs : List D) | lst (xs : List D) | dct (t : Bool) (kvs : List (D × D)) | obj (c : Str) (fs : List (Str × D)) | scr (ns : List Int)

instance : Inhabited D := ⟨.non⟩

/-- what a mutable object holds -/
inductive C where
  | lst (xs : List D) | dct (t : Bool) (kvs : List (D × D)) | ins (c : Str) (fs : List (Str × D))
def C.toD : C → D
  | .lst xs => .lst xs
  | .dct t kvs => .dct t kvs
  | .ins c fs => .obj c fs

/-- a slot: unset, data, an object of one's own, a caller's object -/
inductive Sl where
  | un | imm (d : D) | own (c : C) | par (c : C)
def Sl.cont : Sl → Option C
  | .own c => some c
  | .par c => some c
  | _ => none
abbrev Env := List Sl

def keyD : D → Option Key
  | .int i => some (.inl i)
  | .str s => some (.inr s)
  | _ => none
def keysD : List D → Option (List Key)
  | [] => some []
  | d :: ds => (keyD d).bind fun k => (keysD ds).map (k :: ·)

/-- what an exactly held value stands for; G: where the classes stand -/
structure Wd where
  K : PySem.W.Frag
  mg : Str → Option Value

mutual
inductive Rp (W : Wd) (H : Hp) : V → D → Prop
  | non : Rp W H .non .non
  | bl (b : Bool) : Rp W H (.bl b) (.bl b)
  | int (i : Int) : Rp W H (.int i) (.int i)
  | str (x : Str) : Rp W H (.str x) (.str x)
  | tup {a : Addr} {ob : Obj} {vs : List V} {ds : List D} : H a = some (.frz ob (.tup vs)) → ob.dict = none → RpL W H vs ds → Rp W H (.ref a) (.tup ds)
  | lst {a : Addr} {vs : List V} {ds : List D} : H a = some (.lst vs) → RpL W H vs ds → Rp W H (.ref a) (.lst ds)
  | dK {a : Addr} {ks : List (Key × V)} {ds : List (D × D)} : H a = some (.dK ks) → RpK W H ks ds → Rp W H (.ref a) (.dct false ds)
  | dT {a : Addr} {ks : List (List Key × V)} {ds : List (D × D)} : H a = some (.dT ks) → RpT W H ks ds → Rp W H (.ref a) (.dct true ds)
  | obj {a Cc dx : Addr} {fs : List (Str × V)} {c : Str} {ds : List (Str × D)} : H a = some (.ins Cc dx fs) → W.mg c = some (.ref Cc) → RpF W H fs ds → Rp W H (.ref a) (.obj c ds)
  | scr {a : Addr} {ns : List Int} : SqL W.K H a (ns.map V.int) → Rp W H (.ref a) (.scr ns)
inductive RpL (W : Wd) (H : Hp) : List V → List D → Prop
  | nil : RpL W H [] []
  | cons {v : V} {vs : List V} {d : D} {ds : List D} : Rp W H v d → RpL W H vs ds → RpL W H (v :: vs) (d :: ds)
inductive RpK (W : Wd) (H : Hp) : List (Key × V) → List (D × D) → Prop
  | nil : RpK W H [] []
  | cons {k : Key} {v : V} {vs : List (Key × V)} {kd d : D} {ds : List (D × D)} : keyD kd = some k → Rp W H v d → RpK W H vs ds → RpK W H ((k, v) :: vs) ((kd, d) :: ds)
inductive RpT (W : Wd) (H : Hp) : List (List Key × V) → List (D × D) → Prop
  | nil : RpT W H [] []
  | cons {k : List Key} {v : V} {vs : List (List Key × V)} {kd : List D} {d : D} {ds : List (D × D)} : keysD kd = some k → Rp W H v d → RpT W H vs ds → RpT W H ((k, v) :: vs) ((.tup kd, d) :: ds)
inductive RpF (W : Wd) (H : Hp) : List (Str × V) → List (Str × D) → Prop
  | nil : RpF W H [] []
  | cons {f : Str} {v : V} {vs : List (Str × V)} {d : D} {ds : List (Str × D)} : Rp W H v d → RpF W H vs ds → RpF W H ((f, v) :: vs) ((f, d) :: ds)
end

theorem sqT_mono {K : PySem.W.Frag} {H H' : Hp} {a : Addr} {xs : List V} (e : ∀ b o, H b = some o → H' b = some o) (h : SqT K H a xs) : SqT K H' a xs := by
  rcases h with (h | ⟨o, h⟩) | h
  · exact .inl (.inl (e _ _ h))
  · exact .inl (.inr ⟨o, e _ _ h⟩)
  · exact .inr h
theorem sqL_mono {K : PySem.W.Frag} {H H' : Hp} {a : Addr} {xs : List V} (e : ∀ b o, H b = some o → H' b = some o) (h : SqL K H a xs) : SqL K H' a xs := by
  rcases h with (h | ⟨o, h⟩) | h
  · exact .inl (.inl (e _ _ h))
  · exact .inl (.inr ⟨o, e _ _ h⟩)
  · exact .inr h

section
variable {W : Wd} {H H' : Hp}
mutual
theorem Rp.mono (e : ∀ b o, H b = some o → H' b = some o) : ∀ {v : V} {d : D}, Rp W H v d → Rp W H' v d
  | _, _, .non => .non
  | _, _, .bl b => .bl b
  | _, _, .int i => .int i
  | _, _, .str x => .str x
  | _, _, .tup h n r => .tup (e _ _ h) n (RpL.mono e r)
  | _, _, .lst h r => .lst (e _ _ h) (RpL.mono e r)
  | _, _, .dK h r => .dK (e _ _ h) (RpK.mono e r)
  | _, _, .dT h r => .dT (e _ _ h) (RpT.mono e r)
  | _, _, .obj h m r => .obj (e _ _ h) m (RpF.mono e r)
  | _, _, .scr h => .scr (sqL_mono e h)
theorem RpL.mono (e : ∀ b o, H b = some o → H' b = some o) : ∀ {v : List V} {d : List D}, RpL W H v d → RpL W H' v d
  | _, _, .nil => .nil
  | _, _, .cons r t => .cons (Rp.mono e r) (RpL.mono e t)
theorem RpK.mono (e : ∀ b o, H b = some o → H' b = some o) : ∀ {v : List (Key × V)} {d : List (D × D)}, RpK W H v d → RpK W H' v d
  | _, _, .nil => .nil
  | _, _, .cons k r t => .cons k (Rp.mono e r) (RpK.mono e t)
theorem RpT.mono (e : ∀ b o, H b = some o → H' b = some o) : ∀ {v : List (List Key × V)} {d : List (D × D)}, RpT W H v d → RpT W H' v d
  | _, _, .nil => .nil
  | _, _, .cons k r t => .cons k (Rp.mono e r) (RpT.mono e t)
theorem RpF.mono (e : ∀ b o, H b = some o → H' b = some o) : ∀ {v : List (Str × V)} {d : List (Str × D)}, RpF W H v d → RpF W H' v d
  | _, _, .nil => .nil
  | _, _, .cons r t => .cons (Rp.mono e r) (RpF.mono e t)
end
end

theorem RpL.length {W : Wd} {H : Hp} : ∀ {vs : List V} {ds : List D}, RpL W H vs ds → vs.length = ds.length
  | _, _, .nil => rfl
  | _, _, .cons _ t => congrArg (· + 1) t.length
theorem RpL.append {W : Wd} {H : Hp} : ∀ {vs ws : List V} {ds es : List D}, RpL W H vs ds → RpL W H ws es → RpL W H (vs ++ ws) (ds ++ es)
  | _, _, _, _, .nil, s => s
  | _, _, _, _, .cons r t, s => .cons r (t.append s)
theorem RpL.get {W : Wd} {H : Hp} : ∀ {vs : List V} {ds : List D} {i : Nat} {d : D}, RpL W H vs ds → ds[i]? = some d → ∃ v, vs[i]? = some v ∧ Rp W H v d
  | _, _, _, _, .nil, e => by simp at e
  | _, _, 0, _, .cons r _, e => ⟨_, rfl, by simp at e; exact e ▸ r⟩
  | _, _, i + 1, _, .cons _ t, e => by
    obtain ⟨v, h, r⟩ := t.get (i := i) (by simpa using e)
    exact ⟨v, by simpa using h, r⟩
theorem RpL.getV {W : Wd} {H : Hp} : ∀ {vs : List V} {ds : List D} {i : Nat} {v : V}, RpL W H vs ds → vs[i]? = some v → ∃ d, ds[i]? = some d ∧ Rp W H v d
  | _, _, _, _, .nil, e => by simp at e
  | _, _, 0, _, .cons r _, e => ⟨_, rfl, by simp at e; exact e ▸ r⟩
  | _, _, i + 1, _, .cons _ t, e => by
    obtain ⟨v, h, r⟩ := t.getV (i := i) (by simpa using e)
    exact ⟨v, by simpa using h, r⟩
theorem RpL.drop {W : Wd} {H : Hp} : ∀ {vs : List V} {ds : List D} (n : Nat), RpL W H vs ds → RpL W H (vs.drop n) (ds.drop n)
  | _, _, 0, r => r
  | _, _, _ + 1, .nil => .nil
  | _, _, n + 1, .cons _ t => t.drop n
theorem RpL.take {W : Wd} {H : Hp} : ∀ {vs : List V} {ds : List D} (n : Nat), RpL W H vs ds → RpL W H (vs.take n) (ds.take n)
  | _, _, 0, _ => .nil
  | _, _, _ + 1, .nil => .nil
  | _, _, n + 1, .cons r t => .cons r (t.take n)
theorem RpL.set {W : Wd} {H : Hp} {v : V} {d : D} (r : Rp W H v d) : ∀ {vs : List V} {ds : List D} (i : Nat), RpL W H vs ds → RpL W H (vs.set i v) (ds.set i d)
  | _, _, _, .nil => .nil
  | _, _, 0, .cons _ t => .cons r t
  | _, _, i + 1, .cons q t => .cons q (t.set r i)
theorem RpL.eraseIdx {W : Wd} {H : Hp} : ∀ {vs : List V} {ds : List D} (i : Nat), RpL W H vs ds → RpL W H (vs.eraseIdx i) (ds.eraseIdx i)
  | _, _, _, .nil => .nil
  | _, _, 0, .cons _ t => t
  | _, _, i + 1, .cons q t => .cons q (t.eraseIdx i)
theorem RpL.reverse {W : Wd} {H : Hp} : ∀ {vs : List V} {ds : List D}, RpL W H vs ds → RpL W H vs.reverse ds.reverse
  | _, _, .nil => .nil
  | _, _, .cons r t => by
    rw [List.reverse_cons, List.reverse_cons]
    exact t.reverse.append (.cons r .nil)
theorem RpL.ints {W : Wd} {H : Hp} : ∀ (ns : List Int), RpL W H (ns.map V.int) (ns.map D.int)
  | [] => .nil
  | n :: ns => .cons (.int n) (RpL.ints ns)

/-! ### the state -/
/-- at p, in H, stands what c says, its parts in Hf -/
def OwnAt (W : Wd) (H Hf : Hp) (p : Addr) : C → Prop
  | .lst ds => ∃ vs, H p = some (.lst vs) ∧ RpL W Hf vs ds
  | .dct false kvs => ∃ ks, H p = some (.dK ks) ∧ RpK W Hf ks kvs
  | .dct true kvs => ∃ ks, H p = some (.dT ks) ∧ RpT W Hf ks kvs
  | .ins c fs => ∃ Cc dx vfs, H p = some (.ins Cc dx vfs) ∧ W.mg c = some (.ref Cc) ∧ RpF W Hf vfs fs
theorem OwnAt.mono {W : Wd} {H Hf H' Hf' : Hp} {p : Addr} {c : C} (h : OwnAt W H Hf p c) (e : ∀ o, H p = some o → H' p = some o) (ef : ∀ b o, Hf b = some o → Hf' b = some o) : OwnAt W H' Hf' p c := by
  cases c with
  | lst ds => obtain ⟨vs, h1, h2⟩ := h; exact ⟨vs, e _ h1, h2.mono ef⟩
  | dct t kvs =>
    cases t with
    | false => obtain ⟨ks, h1, h2⟩ := h; exact ⟨ks, e _ h1, h2.mono ef⟩
    | true => obtain ⟨ks, h1, h2⟩ := h; exact ⟨ks, e _ h1, h2.mono ef⟩
  | ins c fs => obtain ⟨Cc, dx, vfs, h1, h2, h3⟩ := h; exact ⟨Cc, dx, vfs, e _ h1, h2, h3.mono ef⟩
theorem OwnAt.there {W : Wd} {H Hf : Hp} {p : Addr} {c : C} (h : OwnAt W H Hf p c) : H p ≠ none := by
  cases c with
  | lst ds => obtain ⟨vs, h1, h2⟩ := h; rw [h1]; simp
  | dct t kvs => cases t <;> (obtain ⟨ks, h1, h2⟩ := h; rw [h1]; simp)
  | ins c fs => obtain ⟨Cc, dx, vfs, h1, h2, h3⟩ := h; rw [h1]; simp
/-- as data, where it is among what doesn't change any more -/
theorem OwnAt.rp {W : Wd} {H Hf : Hp} {p : Addr} {c : C} (h : OwnAt W H Hf p c) (hs : ∀ b o, Hf b = some o → H b = some o) : Rp W H (.ref p) c.toD := by
  cases c with
  | lst ds => obtain ⟨vs, h1, h2⟩ := h; exact .lst h1 (h2.mono hs)
  | dct t kvs =>
    cases t with
    | false => obtain ⟨ks, h1, h2⟩ := h; exact .dK h1 (h2.mono hs)
    | true => obtain ⟨ks, h1, h2⟩ := h; exact .dT h1 (h2.mono hs)
  | ins c fs => obtain ⟨Cc, dx, vfs, h1, h2, h3⟩ := h; exact .obj h1 h2 (h3.mono hs)

/-- where the thing itself is fixed as it stands -/
theorem OwnAt.fixedRp {W : Wd} {H Hf : Hp} {p : Addr} {cc : C} {u : HO} (o : OwnAt W H Hf p cc) (hu : H p = some u) (hp : Hf p = none) : Rp W (upd Hf p u) (.ref p) cc.toD := by
  have up : ∀ b o, Hf b = some o → (upd Hf p u) b = some o := fun b o h => by rw [upd_ne (ne_of_none h hp)]; exact h
  have e1 : (upd Hf p u) p = some u := upd_same
  have m : OwnAt W (upd Hf p u) (upd Hf p u) p cc := o.mono (fun v hv => by rw [hu] at hv; cases hv; exact e1) up
  exact m.rp fun _ _ h => h

abbrev Loc := Nat → Addr
def IsOwn (ρ : Env) (loc : Loc) (a : Addr) : Prop := ∃ (i : Nat) (s : Sl) (c : C), ρ[i]? = some s ∧ s.cont = some c ∧ loc i = a

structure SOk (W : Wd) (ρ : Env) (loc : Loc) (σ : St) (H Hf : Hp) : Prop where
  sub : ∀ a o, Hf a = some o → H a = some o
  len : σ.length = ρ.length
  imm : ∀ (i : Nat) (d : D), ρ[i]? = some (Sl.imm d) → ∃ v, σ[i]? = some (some v) ∧ Rp W Hf v d
  own : ∀ (i : Nat) (s : Sl) (c : C), ρ[i]? = some s → s.cont = some c → σ[i]? = some (some (.ref (loc i))) ∧ Hf (loc i) = none ∧ OwnAt W H Hf (loc i) c
  inj : ∀ (i j : Nat) (s t : Sl) (c d : C), ρ[i]? = some s → ρ[j]? = some t → s.cont = some c → t.cont = some d → loc i = loc j → i = j

/-- from one state to a later one: only one's own objects change, what is fixed stays fixed, only new things or own ones become fixed -/
structure Go (ρ : Env) (loc : Loc) (H Hf : Hp) (ρ' : Env) (loc' : Loc) (H' Hf' : Hp) : Prop where
  there : ∀ a, H' a = none → H a = none
  keep : ∀ a o, H a = some o → ¬ IsOwn ρ loc a → H' a = some o
  frz : ∀ a o, H a = some o → ¬ IsOwn ρ loc a → Hf' a = Hf a
  par : ∀ (i : Nat) (c' : C), ρ'[i]? = some (Sl.par c') → (∃ c, ρ[i]? = some (Sl.par c)) ∧ loc' i = loc i
  parK : ∀ (i : Nat) (c : C), ρ[i]? = some (Sl.par c) → ∃ c', ρ'[i]? = some (Sl.par c')
  own : ∀ (i : Nat) (c' : C), ρ'[i]? = some (Sl.own c') → H (loc' i) = none ∨ ∃ (j : Nat) (c : C), ρ[j]? = some (Sl.own c) ∧ loc j = loc' i

theorem Go.refl {ρ : Env} {loc : Loc} {H Hf : Hp} : Go ρ loc H Hf ρ loc H Hf :=
  ⟨fun _ h => h, fun _ _ h _ => h, fun _ _ _ _ => rfl, fun _ c h => ⟨⟨c, h⟩, rfl⟩, fun _ c h => ⟨c, h⟩, fun i c h => .inr ⟨i, c, h, rfl⟩⟩
theorem IsOwn.back {ρ ρ1 : Env} {loc loc1 : Loc} {H Hf H1 Hf1 : Hp} (g : Go ρ loc H Hf ρ1 loc1 H1 Hf1) {a : Addr} {o : HO} (h : H a = some o) (i : IsOwn ρ1 loc1 a) : IsOwn ρ loc a := by
  obtain ⟨i, s, c, h1, h2, rfl⟩ := i
  cases s with
  | un => cases h2
  | imm d => cases h2
  | own c' =>
    rcases g.own i c' h1 with q | ⟨j, c2, q, e⟩
    · rw [h] at q; cases q
    · exact ⟨j, _, c2, q, rfl, e⟩
  | par c' =>
    obtain ⟨⟨c2, q⟩, e⟩ := g.par i c' h1
    exact ⟨i, _, c2, q, rfl, e.symm⟩
theorem Go.trans {W : Wd} {σ1 : St} {ρ ρ1 ρ2 : Env} {loc loc1 loc2 : Loc} {H Hf H1 Hf1 H2 Hf2 : Hp} (a : Go ρ loc H Hf ρ1 loc1 H1 Hf1) (s1 : SOk W ρ1 loc1 σ1 H1 Hf1) (b : Go ρ1 loc1 H1 Hf1 ρ2 loc2 H2 Hf2) : Go ρ loc H Hf ρ2 loc2 H2 Hf2 where
  there := fun x h => a.there x (b.there x h)
  keep := fun x o h n => b.keep x o (a.keep x o h n) fun z => n (z.back a h)
  frz := fun x o h n => (b.frz x o (a.keep x o h n) fun z => n (z.back a h)).trans (a.frz x o h n)
  par := fun i c h => by
    obtain ⟨⟨c1, h1⟩, e1⟩ := b.par i c h
    obtain ⟨h2, e2⟩ := a.par i c1 h1
    exact ⟨h2, e1.trans e2⟩
  parK := fun i c h => by
    obtain ⟨c1, h1⟩ := a.parK i c h
    exact b.parK i c1 h1
  own := fun i c h => by
    rcases b.own i c h with q | ⟨j, c1, h1, e1⟩
    · cases hh : H (loc2 i) with
      | none => exact .inl rfl
      | some o =>
        by_cases n : IsOwn ρ loc (loc2 i)
        · obtain ⟨k, s, c3, k1, k2, k3⟩ := n
          cases s with
          | un => cases k2
          | imm d => cases k2
          | own c4 => exact .inr ⟨k, c4, k1, k3⟩
          | par c4 =>
            obtain ⟨c5, k5⟩ := a.parK k c4 k1
            have k6 := (a.par k c5 k5).2
            have := (s1.own k _ c5 k5 rfl).2.2.there
            rw [k6, k3, q] at this
            exact absurd rfl this
        · have := a.keep _ o hh n
          rw [q] at this; cases this
    · rcases a.own j c1 h1 with q | ⟨k, c2, h2, e2⟩
      · exact .inl (e1 ▸ q)
      · exact .inr ⟨k, c2, h2, e2.trans e1⟩

section
variable {W : Wd} {ρ ρ' : Env} {loc loc' : Loc} {σ : St} {H Hf H' Hf' : Hp}
theorem SOk.notOwn (s : SOk W ρ loc σ H Hf) {a : Addr} {o : HO} (h : Hf a = some o) : ¬ IsOwn ρ loc a := fun ⟨i, t, c, h1, h2, h3⟩ => by
  have := (s.own i t c h1 h2).2.1
  rw [h3, h] at this; cases this
theorem Go.fixed (g : Go ρ loc H Hf ρ' loc' H' Hf') (s : SOk W ρ loc σ H Hf) : ∀ b o, Hf b = some o → Hf' b = some o := fun b o h =>
  (g.frz b o (s.sub b o h) (s.notOwn h)).trans h

/-- within an expression: the slots stay, but for what their objects hold, and for what becomes fixed -/
structure Ge (ρ : Env) (loc : Loc) (H Hf : Hp) (ρ' : Env) (H' Hf' : Hp) : Prop where
  there : ∀ a, H' a = none → H a = none
  keep : ∀ a o, H a = some o → ¬ IsOwn ρ loc a → H' a = some o
  frz : ∀ a o, H a = some o → ¬ IsOwn ρ loc a → Hf' a = Hf a
  own : ∀ (i : Nat) (c' : C), ρ'[i]? = some (Sl.own c') → ∃ c, ρ[i]? = some (Sl.own c)
  par : ∀ (i : Nat) (c' : C), ρ'[i]? = some (Sl.par c') → ∃ c, ρ[i]? = some (Sl.par c)
  parK : ∀ (i : Nat) (c : C), ρ[i]? = some (Sl.par c) → ∃ c', ρ'[i]? = some (Sl.par c')
theorem Ge.go (g : Ge ρ loc H Hf ρ' H' Hf') : Go ρ loc H Hf ρ' loc H' Hf' :=
  ⟨g.there, g.keep, g.frz, fun i c h => ⟨g.par i c h, rfl⟩, g.parK, fun i c h => let ⟨c2, q⟩ := g.own i c h; .inr ⟨i, c2, q, rfl⟩⟩
theorem Ge.refl : Ge ρ loc H Hf ρ H Hf := ⟨fun _ h => h, fun _ _ h _ => h, fun _ _ _ _ => rfl, fun _ c h => ⟨c, h⟩, fun _ c h => ⟨c, h⟩, fun _ c h => ⟨c, h⟩⟩
theorem Ge.isOwn (g : Ge ρ loc H Hf ρ' H' Hf') {a : Addr} : IsOwn ρ' loc a → IsOwn ρ loc a := fun ⟨i, s, c, h1, h2, h3⟩ => by
  cases s with
  | un => cases h2
  | imm d => cases h2
  | own c' => obtain ⟨c2, q⟩ := g.own i c' h1; exact ⟨i, _, c2, q, rfl, h3⟩
  | par c' => obtain ⟨c2, q⟩ := g.par i c' h1; exact ⟨i, _, c2, q, rfl, h3⟩
theorem Ge.trans {ρ1 : Env} {H1 Hf1 : Hp} (a : Ge ρ loc H Hf ρ1 H1 Hf1) (b : Ge ρ1 loc H1 Hf1 ρ' H' Hf') : Ge ρ loc H Hf ρ' H' Hf' where
  there := fun x h => a.there x (b.there x h)
  keep := fun x o h n => b.keep x o (a.keep x o h n) fun z => n (a.isOwn z)
  frz := fun x o h n => (b.frz x o (a.keep x o h n) fun z => n (a.isOwn z)).trans (a.frz x o h n)
  own := fun i c h => let ⟨c1, h1⟩ := b.own i c h; a.own i c1 h1
  par := fun i c h => let ⟨c1, h1⟩ := b.par i c h; a.par i c1 h1
  parK := fun i c h => let ⟨c1, h1⟩ := a.parK i c h; b.parK i c1 h1
theorem Ge.fixed (g : Ge ρ loc H Hf ρ' H' Hf') (s : SOk W ρ loc σ H Hf) : ∀ b o, Hf b = some o → Hf' b = some o := g.go.fixed s
theorem SOk.newNot (s : SOk W ρ loc σ H Hf) {p : Addr} (hp : H p = none) : ¬ IsOwn ρ loc p := fun ⟨i, t, c, h1, h2, h3⟩ => by
  have := (s.own i t c h1 h2).2.2.there
  rw [h3] at this
  exact this hp

/-! ### new things alone -/
structure Ext (H Hf H' Hf' : Hp) : Prop where
  sub : ∀ a o, Hf' a = some o → H' a = some o
  keep : ∀ a o, H a = some o → H' a = some o
  frz : ∀ a o, H a = some o → Hf' a = Hf a
theorem Ext.refl (h : ∀ a o, Hf a = some o → H a = some o) : Ext H Hf H Hf := ⟨h, fun _ _ e => e, fun _ _ _ => rfl⟩
theorem Ext.trans {H1 Hf1 : Hp} (a : Ext H Hf H1 Hf1) (b : Ext H1 Hf1 H' Hf') : Ext H Hf H' Hf' :=
  ⟨b.sub, fun x o h => b.keep x o (a.keep x o h), fun x o h => (b.frz x o (a.keep x o h)).trans (a.frz x o h)⟩
theorem Ext.there (e : Ext H Hf H' Hf') : ∀ a, H' a = none → H a = none := fun a h => by
  cases q : H a with
  | none => rfl
  | some o => rw [e.keep a o q] at h; cases h
theorem Ext.fixed (e : Ext H Hf H' Hf') (hs : ∀ a o, Hf a = some o → H a = some o) : ∀ b o, Hf b = some o → Hf' b = some o := fun b o h => (e.frz b o (hs b o h)).trans h
theorem SOk.ext (s : SOk W ρ loc σ H Hf) (e : Ext H Hf H' Hf') : SOk W ρ loc σ H' Hf' where
  sub := e.sub
  len := s.len
  imm := fun i d h => let ⟨v, h1, r⟩ := s.imm i d h; ⟨v, h1, r.mono (e.fixed s.sub)⟩
  own := fun i t c h1 h2 => by
    obtain ⟨a, b, o⟩ := s.own i t c h1 h2
    obtain ⟨u, hu⟩ := Option.ne_none_iff_exists'.mp o.there
    exact ⟨a, (e.frz _ u hu).trans b, o.mono (fun _ q => e.keep _ _ q) (e.fixed s.sub)⟩
  inj := s.inj
theorem Ext.ge (e : Ext H Hf H' Hf') : Ge ρ loc H Hf ρ H' Hf' :=
  ⟨e.there, fun a o h _ => e.keep a o h, fun a o h _ => e.frz a o h, fun _ c h => ⟨c, h⟩, fun _ c h => ⟨c, h⟩, fun _ c h => ⟨c, h⟩⟩
/-- a new thing, fixed at once -/
theorem Ext.newF (hs : ∀ a o, Hf a = some o → H a = some o) {p : Addr} (hp : H p = none) (o : HO) : Ext H Hf (upd H p o) (upd Hf p o) := by
  refine ⟨fun a u h => ?_, fun a u h => ?_, fun a u h => ?_⟩
  · by_cases e : a = p
    · subst e; rw [upd_same] at h ⊢; exact h
    · rw [upd_ne e] at h ⊢; exact hs a u h
  · rw [upd_ne (ne_of_none h hp)]; exact h
  · rw [upd_ne (ne_of_none h hp)]
/-- a new thing that may change yet -/
theorem Ext.newO (hs : ∀ a o, Hf a = some o → H a = some o) {p : Addr} (hp : H p = none) (o : HO) : Ext H Hf (upd H p o) Hf :=
  ⟨fun a u h => by rw [upd_ne (ne_of_none (hs a u h) hp)]; exact hs a u h, fun a u h => by rw [upd_ne (ne_of_none h hp)]; exact h, fun _ _ _ => rfl⟩
/-- a thing that was new since H is fixed -/
theorem Ext.fix (e : Ext H Hf H' Hf') {p : Addr} {o : HO} (hp : H p = none) (h' : H' p = some o) : Ext H Hf H' (upd Hf' p o) := by
  refine ⟨fun a u h => ?_, e.keep, fun a u h => ?_⟩
  · by_cases q : a = p
    · subst q; rw [upd_same] at h; exact h'.trans h
    · rw [upd_ne q] at h; exact e.sub a u h
  · rw [upd_ne (ne_of_none h hp)]; exact e.frz a u h

/-! ### results -/
/-- data, or a new object of one's own -/
inductive Rv where
  | imm (d : D) | own (c : C)
def Rv.toD : Rv → D
  | .imm d => d
  | .own c => c.toD
/-- H: the heap ahead -/
def RvOk (W : Wd) (H : Hp) (v : V) (H' Hf' : Hp) : Rv → Prop
  | .imm d => Rp W Hf' v d
  | .own c => ∃ p, v = .ref p ∧ H p = none ∧ Hf' p = none ∧ OwnAt W H' Hf' p c
end
end Ev
/-! text EvT -/
set_option Elab.async false
set_option linter.all false
set_option maxRecDepth 100000
set_option maxHeartbeats 4000000
namespace Ev
open PySem PySem.Spec PyProof.Rows L2

/-! ### new tuples, known to the object -/
/-- a tuple's object without a dict -/
def FT (xs : List V) (u : HO) : Prop := ∃ ob : Obj, ob.dict = none ∧ u = .frz ob (.tup xs)
section
variable {X : Cx} {pins : List (Addr × Obj)} {σ : L2.St} {H : Hp} {s : Shared}
theorem laidT {a : Addr} {xs : List V} {its : List Value} {h' : Heap} {t' : Nat} {ob : Obj} (I : Inv X pins σ H s) (r : Vals xs its) (hz : xs.length ≤ sizeLine) (k : ∀ b u, s.heap.get? b = some u → h'.get? b = some u) (hp : s.heap.objs.size ≤ a)
    (e : h'.get? a = some ob) (hc : ob.cls = .type "tuple") (hd : ∃ n, ob.data = .seq its.toArray n) : Inv X pins σ (upd H a (.frz ob (.tup xs))) { s with heap := h', toks := t' } :=
  I.laid k hp ⟨e, hz, its, r, ob, e, hc, hd⟩
def tTupF (t : TA) : TE := fun σ H Q => t σ H fun xs H1 => xs.length ≤ sizeLine ∧ ∀ p u, FT xs u → H1 p = none → Q (.ref p) (upd H1 p u)
theorem pe_tupF {es : List Expr} {t : TA} {x1} {pos : Pos} (h : PA X es t) : PE X (.Tuple es x1 pos) (tTupF t) := by
  refine ⟨fun pins s σ H Q I hq => ?_⟩
  refine wpAny_Tuple_spliced (thn (h.run pos pins s σ H _ I hq) fun us s1 ⟨xs, H1, I1, r, z, q⟩ => ⟨by rw [← r.length]; exact z, ?_⟩)
  have hf : H1 s1.heap.objs.size = none := I1.hok.fresh (Nat.le_refl _)
  exact ⟨.ref s1.heap.objs.size, _, laidT (t' := s1.toks) I1 r z (fun b u e => Heap.get?_push_of_some _ e) (Nat.le_refl _) (Heap.get?_push_size _ rfl) rfl ⟨_, rfl⟩, rfl, q _ _ ⟨_, rfl, rfl⟩ hf⟩
/-- t + u -/
def rCatF (K : PySem.W.Frag) : R2 := fun x y H Q => ∃ a b xs ys, x = .ref a ∧ y = .ref b ∧ SqT K H a xs ∧ SqT K H b ys ∧ xs.length + ys.length ≤ sizeLine ∧
  (xs = [] → Q (.ref b) H) ∧ (xs ≠ [] → ys = [] → Q (.ref a) H) ∧ (xs ≠ [] → ys ≠ [] → ∀ p u, FT (xs ++ ys) u → H p = none → Q (.ref p) (upd H p u))
theorem op_catF : OpR X (binaryOp .Add) (rCatF X.K) := by
  intro pins s σ H x y v u Q I rx ry h
  obtain ⟨a, b, xs, ys, rfl, rfl, ha, hb, hz, q0, q1, q2⟩ := h
  cases rx
  cases ry
  obtain ⟨its, r1, p1, _⟩ := I.tuple ha
  obtain ⟨its2, r2, p2, _⟩ := I.tuple hb
  by_cases hx : xs = []
  · subst hx
    cases r1
    exact cat_tup0 p1 p2 ⟨.ref b, H, I, rfl, q0 rfl⟩
  · refine HT.cat_tup p1 p2 (fun z => hx (r1.nil_iff.mp z)) (fun z => ⟨.ref a, H, I, rfl, q1 hx (r2.nil_iff.mp z)⟩) (fun z => ?_) (by rw [← r1.length, ← r2.length]; exact hz)
    exact ⟨.ref s.heap.objs.size, _, laidT (t' := s.toks) I (r1.append r2) (by rw [List.length_append]; exact hz) (fun b ob q => Heap.get?_push_of_some _ q) (Nat.le_refl _) (Heap.get?_push_size _ rfl) rfl ⟨_, rfl⟩, rfl,
      q2 hx (fun w => z (r2.nil_iff.mpr w)) _ _ ⟨_, rfl, rfl⟩ (I.hok.fresh (Nat.le_refl _))⟩
/-- t[lo:hi] -/
def rSlF (K : PySem.W.Frag) : V → Option Int → Option Int → Hp → VK → Prop := fun x lo hi H Q => ∃ a xs, x = .ref a ∧ SqT K H a xs ∧
  (HT.sIx xs.length 0 lo = 0 ∧ HT.sIx xs.length xs.length hi = xs.length → Q (.ref a) H) ∧ (¬ (HT.sIx xs.length 0 lo = 0 ∧ HT.sIx xs.length xs.length hi = xs.length) → ∀ p u, FT (cutV xs lo hi) u → H p = none → Q (.ref p) (upd H p u))
theorem sl_tupF : L2.SlR X (rSlF X.K) := by
  intro pins s σ H x v vl vu lo hi sl Q I rx hs pl pu h
  obtain ⟨a, xs, rfl, hx, q1, q2⟩ := h
  cases rx
  obtain ⟨its, r, ht, hz⟩ := I.tuple hx
  have hlen : its.toArray.size = xs.length := by rw [List.size_toArray]; exact r.length.symm
  refine ⟨"tuple", _, PyProof.Rows.slot_tuple_getitem.lookup, ht.typeIs, ?_⟩
  by_cases hw : HT.sIx xs.length 0 lo = 0 ∧ HT.sIx xs.length xs.length hi = xs.length
  · exact getItem_tuple_whole ht hs pl pu (by rw [hlen]; exact hw) ⟨.ref a, H, I, rfl, q1 hw⟩
  · refine HT.getItem_tuple_cut ht hs pl pu (by rw [hlen]; exact hw) ?_ (by rw [hlen]; exact hz)
    rw [hlen]
    exact ⟨.ref s.heap.objs.size, _, laidT (t' := s.toks) (xs := cutV xs lo hi) I ((r.drop (HT.sIx xs.length 0 lo)).take (HT.sIx xs.length xs.length hi - HT.sIx xs.length 0 lo)) (Nat.le_trans (cutV_length xs lo hi) hz) (fun b ob q => Heap.get?_push_of_some _ q) (Nat.le_refl _)
      (Heap.get?_push_size _ rfl) rfl ⟨_, rfl⟩, rfl, q2 hw _ _ ⟨_, rfl, rfl⟩ (I.hok.fresh (Nat.le_refl _))⟩
/-- tuple(xs) -/
theorem cr_tupF : CallR X (.type "tuple") (fun xs H Q => ∃ p ys, xs = [.ref p] ∧ ((SqL X.K H p ys ∧ ∀ l u, FT ys u → H l = none → Q (.ref l) (upd H l u)) ∨ (SqT X.K H p ys ∧ Q (.ref p) H))) := by
  intro pins s σ H xs us Q I r h
  obtain ⟨p, ys, rfl, h⟩ := h
  obtain ⟨u, rfl, ru⟩ := vals1 r
  cases ru
  rcases h with ⟨hs, q⟩ | ⟨hs, q⟩
  · obtain ⟨its, rv, pl, hz⟩ := I.list hs
    refine call_tuple_list pl.isList (fun h' hk => ?_) (by rw [List.size_toArray, ← rv.length]; exact hz)
    have I1 : Inv X pins σ H { s with heap := h' } := I.kept (t' := s.toks) hk
    have I2 : Inv X pins σ (upd H h'.objs.size (.frz { cls := .type "tuple", data := .seq its.toArray } (.tup ys))) { s with heap := h'.push { cls := .type "tuple", data := .seq its.toArray } } :=
      laidT (s := { s with heap := h' }) (t' := s.toks) I1 rv hz (fun b o e => Heap.get?_push_of_some _ e) (Nat.le_refl _) (Heap.get?_push_size _ rfl) rfl ⟨_, rfl⟩
    exact ⟨.ref h'.objs.size, _, I2, rfl, q _ _ ⟨_, rfl, rfl⟩ (I1.hok.fresh (Nat.le_refl _))⟩
  · obtain ⟨its, rv, pl, hz⟩ := I.tuple hs
    exact call_tuple_tup pl ⟨.ref p, H, I, rfl, q⟩
/-- tuple(range(..)) -/
def tTupRgF (te : L2.St → Hp → (Int → Int → Hp → Prop) → Prop) : TE := fun σ H Q => te σ H fun a b H1 => RgOk a b ∧ ∀ q u, FT (rgV a b) u → H1 q = none → Q (.ref q) (upd H1 q u)
theorem pe_tupRgF {e : Expr} {te : L2.St → Hp → (Int → Int → Hp → Prop) → Prop} {p pos : Pos} (hc : X.calm = true) (hg : Gl X "tuple") (hm : X.mg "tuple" = none) (he : PRg X e te) (na : starEach [e] X.env = (false, eval e X.env) :: starEach [] X.env) : PE X (.Call (.Name "tuple" p) [e] [] pos) (tTupRgF te) := by
  refine ⟨fun pins s σ H Q I h => ?_⟩
  refine PyProof.Rows.Call_ (ld_blt I hg hm boot_tuple (PyProof.Rows.callWith_type1 (args_cons (thn (he pins s σ H _ I h) fun x s1 ⟨r, a, b, t, u, v, H1, ex, hr, I1, ok, q⟩ => args_nil ?_) na) na))
  subst ex
  obtain ⟨b1, b2, b3, b4, b5⟩ := ok
  refine call_tuple_range (n := (b - a).toNat) (I1.ok.hd hc) hr (small_one b1 b2 b3 b4) (rangeSize_nat a b) b5 fun h' tk acc hk hi => ?_
  have I2 : Inv X pins σ H1 { s1 with heap := h', toks := tk } := I1.kept hk
  have I3 : Inv X pins σ (upd H1 h'.objs.size (.frz { cls := .type "tuple", data := .seq acc } (.tup (rgV a b)))) { s1 with heap := h'.push { cls := .type "tuple", data := .seq acc }, toks := tk } :=
    laidT (s := { s1 with heap := h', toks := tk }) (t' := tk) I2 (vals_rg hi) (by rw [rgV_length, sizeLine_eq]; omega) (fun c o e => Heap.get?_push_of_some _ e) (Nat.le_refl _) (Heap.get?_push_size _ rfl) rfl ⟨_, by rw [Array.toArray_toList]⟩
  exact ⟨.ref h'.objs.size, _, I3, rfl, q _ _ ⟨_, rfl, rfl⟩ (I2.hok.fresh (Nat.le_refl _))⟩
/-- tuple(range(a, b, -1)) -/
def rgdV (a b : Int) : List V := (List.range (a - b).toNat).map fun i => V.int (a - (i : Nat))
def PRd (X : Cx) (e : Expr) (t : L2.St → Hp → (Int → Int → Hp → Prop) → Prop) : Prop :=
  ∀ (pins : List (Addr × Obj)) (s : Shared) (σ : L2.St) (H : Hp) (Q : Int → Int → Hp → Prop), Inv X pins σ H s → t σ H Q →
    wpAny (model X.prog X.w) X.A (eval e X.env) (fun x s' => ∃ r a b t u v H', x = .ref r ∧ IsRange s'.heap r a b (-1) t u v ∧ Inv X pins σ H' s' ∧ Q a b H') X.xe s
end
/-! dicts by such keys -/
def DGetF (H : Hp) (a : Addr) (y : V) (r : Option V) : Prop := DGet H a y r ∨ ∃ kvs k b ob, Rd H a (.dT kvs) ∧ y = .ref b ∧ H b = some (.frz ob (.tup (k.map kV))) ∧ r = valV kvs k
section
variable {X : Cx} {pins : List (Addr × Obj)} {σ : L2.St} {H : Hp} {s : Shared} {a : Addr} {y v : V} {u r : Value} {o : Option V} {A : Around} {E : Value → Shared → Prop}
theorem key_ofF {P : Program} {w : World} {h : Heap} {b : Addr} {ob : Obj} {ks : List L2.Key} (ok : HOk P w H h) (e : H b = some (.frz ob (.tup (ks.map kV)))) : (tupleKind (mixKind P w)).is h ks b := by
  obtain ⟨_, _, its, r, o, h1, h2, n, h3⟩ := (show ObjOk P w H h b (.frz ob (.tup (ks.map kV))) from ok b _ e)
  exact ⟨o, its.toArray, n, h1, h2, h3, by simpa using items_are r⟩
theorem dF_typeIs (I : Inv X pins σ H s) (g : DGetF H a y o) : s.TypeIs (.ref a) "dict" := by
  rcases g with g | ⟨kvs, k, b, ob, e, _, _, _⟩
  · exact dict_typeIs I g
  · obtain ⟨_, _, xs, _, dd⟩ := dt_rd I.hok e
    exact dd.typeIs
theorem dF_getItem {Q : Value → Shared → Prop} (hu : A.units + 1 < cLine) (I : Inv X pins σ H s) (g : DGetF H a y (some v)) (ry : RelV y u) (h : ∀ w' s', Inv X pins σ H s' → RelV v w' → Q w' s') :
    wpAny (model X.prog X.w) A (getItem (.ref a) u) Q E s := by
  rcases g with g | ⟨kvs, k, b, ob, e, ey, eb, l⟩
  · exact d_getItem hu I g ry h
  · subst ey
    cases (show u = Value.ref b from ry)
    obtain ⟨z, hd, xs, rel, dd⟩ := dt_rd I.hok e
    obtain ⟨w', hw, rw'⟩ := RelO.some_of (v := v) (o := (atKey xs k).map (·.2)) (by rw [l]; exact rel.val k)
    obtain ⟨p, hp, hp2⟩ := Option.map_eq_some_iff.mp hw
    refine wpAny_getItem_heap (tupleKind_room_in1 hu) (key_ofF I.hok eb) dd hp ?_
    rw [hp2]
    exact h w' _ (I.tok _) rw'
theorem dF_in {Q : Value → Shared → Prop} (hu : A.units + 1 < cLine) (I : Inv X pins σ H s) (g : DGetF H a y o) (ry : RelV y u) (h : ∀ s', Inv X pins σ H s' → Q (.bool o.isSome) s') :
    wpAny (model X.prog X.w) A (compareOp .In u (.ref a)) Q E s := by
  rcases g with g | ⟨kvs, k, b, ob, e, ey, eb, l⟩
  · exact d_in hu I g ry h
  · subst ey
    cases (show u = Value.ref b from ry)
    obtain ⟨z, hd, xs, rel, dd⟩ := dt_rd I.hok e
    refine wpAny_in_heap (tupleKind_room_in1 hu) (key_ofF I.hok eb) hd dd ?_
    have q := (rel.val k).isSome_eq
    rw [Option.isSome_map] at q
    rw [← q, ← l]
    exact h _ (I.tok _)
theorem dF_notIn {Q : Value → Shared → Prop} (hu : A.units + 1 < cLine) (I : Inv X pins σ H s) (g : DGetF H a y o) (ry : RelV y u) (h : ∀ s', Inv X pins σ H s' → Q (.bool (!o.isSome)) s') :
    wpAny (model X.prog X.w) A (compareOp .NotIn u (.ref a)) Q E s := by
  rcases g with g | ⟨kvs, k, b, ob, e, ey, eb, l⟩
  · exact d_notIn hu I g ry h
  · subst ey
    cases (show u = Value.ref b from ry)
    obtain ⟨z, hd, xs, rel, dd⟩ := dt_rd I.hok e
    refine wpAny_notIn_heap (tupleKind_room_in1 hu) (key_ofF I.hok eb) hd dd ?_
    have q := (rel.val k).isSome_eq
    rw [Option.isSome_map] at q
    rw [← q, ← l]
    exact h _ (I.tok _)
end
section
variable {X : Cx} {o i : Expr} {pos : Pos} {td ty : TE}
def tDGetF (td ty : TE) : TE := fun σ H Q => td σ H fun x H1 => ty σ H1 fun y H2 => ∃ a v, x = .ref a ∧ DGetF H2 a y (some v) ∧ Q v H2
def tDInF (ty td : TE) : TE := fun σ H Q => ty σ H fun y H1 => td σ H1 fun x H2 => ∃ a o, x = .ref a ∧ DGetF H2 a y o ∧ Q (.bl o.isSome) H2
def tDNinF (ty td : TE) : TE := fun σ H Q => ty σ H fun y H1 => td σ H1 fun x H2 => ∃ a o, x = .ref a ∧ DGetF H2 a y o ∧ Q (.bl (!o.isSome)) H2
theorem pe_dgetF (hu : X.A.units + 1 < cLine) (ho : PE X o td) (hi : PE X i ty) (hs : NoSl i) : PE X (.Subscript o i pos) (tDGetF td ty) := by
  refine ⟨fun pins s σ H Q I h => ?_⟩
  refine subD_of PySem.F.slot_dict_getitem.lookup hs (thn (ho.run pins s σ H _ I h) fun u s1 ⟨x, H1, I1, rx, q1⟩ => thn (hi.run pins s1 σ H1 _ I1 q1) fun iv s2 ⟨y, H2, I2, ry, a, v, ex, g, q2⟩ => ?_)
  subst ex
  obtain rfl : u = Value.ref a := rx
  exact ⟨dF_typeIs I2 g, dF_getItem hu I2 g ry fun w' s3 I3 rw' => ⟨v, H2, I3, rw', q2⟩⟩
theorem pc_dinF (hu : X.A.units + 1 < cLine) (hi : PE X i ty) (ho : PE X o td) : PC X .In i o (tDInF ty td) := by
  refine ⟨fun pins s σ H Q I h => ?_⟩
  refine thn (hi.run pins s σ H _ I h) fun iv s1 ⟨y, H1, I1, ry, q1⟩ => thn (ho.run pins s1 σ H1 _ I1 q1) fun u s2 ⟨x, H2, I2, rx, a, ov, ex, g, q2⟩ => ?_
  subst ex
  obtain rfl : u = Value.ref a := rx
  exact dF_in hu I2 g ry fun s3 I3 => ⟨.bl ov.isSome, H2, I3, rfl, q2⟩
theorem pc_dnotinF (hu : X.A.units + 1 < cLine) (hi : PE X i ty) (ho : PE X o td) : PC X .NotIn i o (tDNinF ty td) := by
  refine ⟨fun pins s σ H Q I h => ?_⟩
  refine thn (hi.run pins s σ H _ I h) fun iv s1 ⟨y, H1, I1, ry, q1⟩ => thn (ho.run pins s1 σ H1 _ I1 q1) fun u s2 ⟨x, H2, I2, rx, a, ov, ex, g, q2⟩ => ?_
  subst ex
  obtain rfl : u = Value.ref a := rx
  exact dF_notIn hu I2 g ry fun s3 I3 => ⟨.bl (!ov.isSome), H2, I3, rfl, q2⟩
end
theorem sqT_fz {K : PySem.W.Frag} {H : Hp} {a : Addr} {ob : Obj} {xs : List V} (h : H a = some (.frz ob (.tup xs))) : SqT K H a xs := .inl (.inr ⟨ob, h⟩)
end Ev
/-! text Ev1 -/
set_option Elab.async false
set_option linter.all false
set_option maxRecDepth 100000
set_option maxHeartbeats 4000000
namespace Ev
open PySem L2

abbrev wd (X : Cx) : Wd := ⟨X.K, X.mg⟩
/-- a read value, or one's own object by its slot -/
inductive AR where
  | val (d : D) | rf (i : Nat)
abbrev Fe := Env → Option (Rv × Env)
abbrev Fd := Env → Option (D × Env)
abbrev Fr := Env → Option (AR × Env)
abbrev Ft := Env → Option (Bool × Env)
abbrev Fa := Env → Option (List AR × Env)
abbrev Fl := Env → Option (List D × Env)

def contAt (ρ : Env) (i : Nat) : Option C := (ρ[i]?).bind Sl.cont
def deref (ρ : Env) : AR → Option D
  | .val d => some d
  | .rf i => (contAt ρ i).map C.toD
def derefs (ρ : Env) : List AR → Option (List D)
  | [] => some []
  | a :: as => (deref ρ a).bind fun d => (derefs ρ as).map (d :: ·)

theorem contAt_some {ρ : Env} {i : Nat} {c : C} (h : contAt ρ i = some c) : ∃ s, ρ[i]? = some s ∧ s.cont = some c := by
  unfold contAt at h
  cases e : ρ[i]? with
  | none => rw [e] at h; cases h
  | some s => rw [e] at h; exact ⟨s, rfl, h⟩

def AROk (W : Wd) (loc : Loc) (v : V) (Hf : Hp) : AR → Prop
  | .val d => Rp W Hf v d
  | .rf i => v = .ref (loc i)
theorem AROk.mono {W : Wd} {loc : Loc} {v : V} {Hf Hf' : Hp} (e : ∀ b o, Hf b = some o → Hf' b = some o) : ∀ {a : AR}, AROk W loc v Hf a → AROk W loc v Hf' a
  | .val _, h => Rp.mono e h
  | .rf _, h => h
def ARsOk (W : Wd) (loc : Loc) (Hf : Hp) : List V → List AR → Prop
  | [], [] => True
  | v :: vs, a :: as => AROk W loc v Hf a ∧ ARsOk W loc Hf vs as
  | _, _ => False
theorem ARsOk.mono {W : Wd} {loc : Loc} {Hf Hf' : Hp} (e : ∀ b o, Hf b = some o → Hf' b = some o) : ∀ {vs : List V} {as : List AR}, ARsOk W loc Hf vs as → ARsOk W loc Hf' vs as
  | [], [], _ => trivial
  | _ :: _, _ :: _, h => ⟨AROk.mono e h.1, ARsOk.mono e h.2⟩
  | [], _ :: _, h => h.elim
  | _ :: _, [], h => h.elim

/-- a value as it is read now: the thing itself may yet change, its parts don't -/
def RpB (W : Wd) (H Hf : Hp) (v : V) : D → Prop
  | .lst ds => ∃ a vs, v = .ref a ∧ H a = some (.lst vs) ∧ RpL W Hf vs ds
  | .dct false ds => ∃ a ks, v = .ref a ∧ H a = some (.dK ks) ∧ RpK W Hf ks ds
  | .dct true ds => ∃ a ks, v = .ref a ∧ H a = some (.dT ks) ∧ RpT W Hf ks ds
  | .obj c ds => ∃ a Cc dx vfs, v = .ref a ∧ H a = some (.ins Cc dx vfs) ∧ W.mg c = some (.ref Cc) ∧ RpF W Hf vfs ds
  | d => Rp W Hf v d
theorem Rp.b {W : Wd} {H Hf : Hp} {v : V} {d : D} (h : Rp W Hf v d) (hs : ∀ a o, Hf a = some o → H a = some o) : RpB W H Hf v d := by
  cases h with
  | non => exact .non
  | bl b => exact .bl b
  | int i => exact .int i
  | str x => exact .str x
  | tup a n b => exact .tup a n b
  | lst a b => exact ⟨_, _, rfl, hs _ _ a, b⟩
  | dK a b => exact ⟨_, _, rfl, hs _ _ a, b⟩
  | dT a b => exact ⟨_, _, rfl, hs _ _ a, b⟩
  | obj a m b => exact ⟨_, _, _, _, rfl, hs _ _ a, m, b⟩
  | scr a => exact .scr a
theorem OwnAt.b {W : Wd} {H Hf : Hp} {p : Addr} {c : C} (h : OwnAt W H Hf p c) : RpB W H Hf (.ref p) c.toD := by
  cases c with
  | lst ds => obtain ⟨vs, a, b⟩ := h; exact ⟨_, _, rfl, a, b⟩
  | dct t ds => cases t <;> (obtain ⟨ks, h1, h2⟩ := h; exact ⟨_, _, rfl, h1, h2⟩)
  | ins c fs => obtain ⟨Cc, dx, vfs, a, m, b⟩ := h; exact ⟨_, _, _, _, rfl, a, m, b⟩
theorem deref_b {W : Wd} {ρ : Env} {loc : Loc} {σ : St} {H Hf : Hp} {v : V} {a : AR} {d : D} (s : SOk W ρ loc σ H Hf) (h : AROk W loc v Hf a) (e : deref ρ a = some d) : RpB W H Hf v d := by
  cases a with
  | val x =>
    have : x = d := Option.some.inj e
    subst this
    exact Rp.b h s.sub
  | rf i =>
    cases hc : contAt ρ i with
    | none => simp [deref, hc] at e
    | some c =>
      simp [deref, hc] at e
      subst e
      obtain ⟨sl, h1, h2⟩ := contAt_some hc
      have hv : v = .ref (loc i) := h
      subst hv
      exact (s.own i sl c h1 h2).2.2.b
def RpBs (W : Wd) (H Hf : Hp) : List V → List D → Prop
  | [], [] => True
  | v :: vs, a :: as => RpB W H Hf v a ∧ RpBs W H Hf vs as
  | _, _ => False
theorem derefs_b {W : Wd} {ρ : Env} {loc : Loc} {σ : St} {H Hf : Hp} (s : SOk W ρ loc σ H Hf) : ∀ {vs : List V} {as : List AR} {ds : List D}, ARsOk W loc Hf vs as → derefs ρ as = some ds → RpBs W H Hf vs ds
  | [], [], ds, _, e => by
    have : ds = [] := (Option.some.inj e).symm
    subst this; trivial
  | v :: vs, a :: as, ds, h, e => by
    cases e1 : deref ρ a with
    | none => simp [derefs, e1] at e
    | some d =>
      cases e2 : derefs ρ as with
      | none => simp [derefs, e1, e2] at e
      | some ds' =>
        simp [derefs, e1, e2] at e
        subst e
        exact ⟨deref_b s h.1 e1, derefs_b s h.2 e2⟩
  | [], _ :: _, _, h, _ => h.elim
  | _ :: _, [], _, h, _ => h.elim

/-! ### readings -/
def tX (W : Wd) (F : Fe) : TE := fun σ H Q => ∃ ρ loc Hf r ρ', SOk W ρ loc σ H Hf ∧ F ρ = some (r, ρ') ∧
  ∀ v H' Hf', Ge ρ loc H Hf ρ' H' Hf' → SOk W ρ' loc σ H' Hf' → RvOk W H v H' Hf' r → Q v H'
def tD (W : Wd) (F : Fd) : TE := fun σ H Q => ∃ ρ loc Hf r ρ', SOk W ρ loc σ H Hf ∧ F ρ = some (r, ρ') ∧
  ∀ v H' Hf', Ge ρ loc H Hf ρ' H' Hf' → SOk W ρ' loc σ H' Hf' → Rp W Hf' v r → Q v H'
def tR (W : Wd) (F : Fr) : TE := fun σ H Q => ∃ ρ loc Hf r ρ', SOk W ρ loc σ H Hf ∧ F ρ = some (r, ρ') ∧
  ∀ v H' Hf', Ge ρ loc H Hf ρ' H' Hf' → SOk W ρ' loc σ H' Hf' → AROk W loc v Hf' r → Q v H'
def tT (W : Wd) (F : Ft) : TT := fun σ H Q => ∃ ρ loc Hf r ρ', SOk W ρ loc σ H Hf ∧ F ρ = some (r, ρ') ∧
  ∀ H' Hf', Ge ρ loc H Hf ρ' H' Hf' → SOk W ρ' loc σ H' Hf' → Q r H'
def tA (W : Wd) (F : Fa) : TA := fun σ H Q => ∃ ρ loc Hf r ρ', SOk W ρ loc σ H Hf ∧ F ρ = some (r, ρ') ∧
  ∀ vs H' Hf', Ge ρ loc H Hf ρ' H' Hf' → SOk W ρ' loc σ H' Hf' → ARsOk W loc Hf' vs r → Q vs H'
def tL (W : Wd) (F : Fl) : TA := fun σ H Q => ∃ ρ loc Hf r ρ', SOk W ρ loc σ H Hf ∧ F ρ = some (r, ρ') ∧
  ∀ vs H' Hf', Ge ρ loc H Hf ρ' H' Hf' → SOk W ρ' loc σ H' Hf' → RpL W Hf' vs r → Q vs H'

abbrev PX (X : Cx) (e : Expr) (F : Fe) := PE X e (tX (wd X) F)
abbrev PD (X : Cx) (e : Expr) (F : Fd) := PE X e (tD (wd X) F)
abbrev PR (X : Cx) (e : Expr) (F : Fr) := PE X e (tR (wd X) F)
abbrev PB (X : Cx) (e : Expr) (F : Ft) := PT X e (tT (wd X) F)
abbrev PAs (X : Cx) (es : List Expr) (F : Fa) := PA X es (tA (wd X) F)
abbrev PLs (X : Cx) (es : List Expr) (F : Fl) := PA X es (tL (wd X) F)

section
variable {X : Cx} {e a b c : Expr}
theorem pe_imp {t t' : TE} (h : PE X e t) (k : ∀ σ H Q, t' σ H Q → t σ H Q) : PE X e t' := ⟨fun pins s σ H Q I w => h.run pins s σ H Q I (k σ H Q w)⟩
theorem pt_imp {t t' : TT} (h : PT X e t) (k : ∀ σ H Q, t' σ H Q → t σ H Q) : PT X e t' := ⟨fun pins s σ H Q I w => h.run pins s σ H Q I (k σ H Q w)⟩
theorem pw_imp {t t' : TT} (h : PW X e t) (k : ∀ σ H Q, t' σ H Q → t σ H Q) : PW X e t' := ⟨fun wh pins s σ H Q I w => h.run wh pins s σ H Q I (k σ H Q w)⟩
theorem pa_imp {es : List Expr} {t t' : TA} (h : PA X es t) (k : ∀ σ H Q, t' σ H Q → t σ H Q) : PA X es t' := ⟨fun pos pins s σ H Q I w => h.run pos pins s σ H Q I (k σ H Q w)⟩
theorem ps_imp {st : Stmt} {t t' : TS} (h : PS X st t) (k : ∀ D σ H, t' D σ H → t D σ H) : PS X st t' := ⟨fun pins s σ H D I w => h.run pins s σ H D I (k D σ H w)⟩
theorem pss_imp {st : List Stmt} {t t' : TS} (h : PSs X st t) (k : ∀ D σ H, t' D σ H → t D σ H) : PSs X st t' := ⟨fun pins s σ H D I w => h.run pins s σ H D I (k D σ H w)⟩
theorem pe_or2 {t u : TE} (h : PE X e t) (k : PE X e u) : PE X e (fun σ H Q => t σ H Q ∨ u σ H Q) :=
  ⟨fun pins s σ H Q I w => w.elim (h.run pins s σ H Q I) (k.run pins s σ H Q I)⟩
/-- what is never asked -/
theorem pe_none {t : TE} (k : ∀ σ H Q, ¬ t σ H Q) : PE X e t := ⟨fun _ _ _ _ _ _ h => (k _ _ _ h).elim⟩

/-! ### fixing what is new -/
/-- the thing at p becomes fixed -/
theorem fix_own {W : Wd} {ρ ρ' : Env} {loc : Loc} {σ : St} {H Hf H' Hf' : Hp} {p : Addr} {cc : C} (g : Ge ρ loc H Hf ρ' H' Hf') (s : SOk W ρ' loc σ H' Hf') (hp : H p = none) (hp' : Hf' p = none) (o : OwnAt W H' Hf' p cc)
    (hno : ¬ IsOwn ρ' loc p) : ∃ Hf2, Ge ρ loc H Hf ρ' H' Hf2 ∧ SOk W ρ' loc σ H' Hf2 ∧ Rp W Hf2 (.ref p) cc.toD := by
  obtain ⟨u, hu⟩ := Option.ne_none_iff_exists'.mp o.there
  have sb : ∀ a o, (upd Hf' p u) a = some o → H' a = some o := fun a o h => by
    by_cases q : a = p
    · subst q; rw [upd_same] at h; exact hu.trans h
    · rw [upd_ne q] at h; exact s.sub a o h
  have up : ∀ b o, Hf' b = some o → (upd Hf' p u) b = some o := fun b o h => by rw [upd_ne (ne_of_none h hp')]; exact h
  refine ⟨upd Hf' p u, ⟨g.there, g.keep, fun a o h n => ?_, g.own, g.par, g.parK⟩, ⟨sb, s.len, fun i d h => ?_, fun i t c h1 h2 => ?_, s.inj⟩, ?_⟩
  · rw [upd_ne (ne_of_none h hp)]; exact g.frz a o h n
  · obtain ⟨v, h1, r⟩ := s.imm i d h
    exact ⟨v, h1, r.mono up⟩
  · obtain ⟨x, y, z⟩ := s.own i t c h1 h2
    have ne : loc i ≠ p := fun q => hno ⟨i, t, c, h1, h2, q⟩
    exact ⟨x, by rw [upd_ne ne]; exact y, z.mono (fun _ q => q) up⟩
  · exact o.fixedRp hu hp'
/-- a result, fixed where it is new -/
theorem fix_rv {W : Wd} {ρ ρ' : Env} {loc : Loc} {σ : St} {H Hf H' Hf' : Hp} {v : V} {r : Rv} (s0 : SOk W ρ loc σ H Hf) (g : Ge ρ loc H Hf ρ' H' Hf') (s : SOk W ρ' loc σ H' Hf') (h : RvOk W H v H' Hf' r) :
    ∃ Hf2, Ge ρ loc H Hf ρ' H' Hf2 ∧ SOk W ρ' loc σ H' Hf2 ∧ Rp W Hf2 v r.toD := by
  cases r with
  | imm d => exact ⟨Hf', g, s, h⟩
  | own cc =>
    obtain ⟨p, rfl, hp, hp', o⟩ := h
    exact fix_own g s hp hp' o fun z => s0.newNot hp (g.isOwn z)
def fixF (F : Fe) : Fd := fun ρ => (F ρ).map fun x => (x.1.toD, x.2)
theorem pd_fix {F : Fe} (h : PX X e F) : PD X e (fixF F) := pe_imp h fun σ H Q ⟨ρ, loc, Hf, d, ρ', s, hF, k⟩ => by
  unfold fixF at hF
  cases q : F ρ with
  | none => rw [q] at hF; cases hF
  | some x =>
    obtain ⟨r, ρ1⟩ := x
    rw [q] at hF
    cases hF
    refine ⟨ρ, loc, Hf, r, _, s, q, fun v H' Hf' g s' o => ?_⟩
    obtain ⟨Hf2, g2, s2, r2⟩ := fix_rv s g s' o
    exact k v H' Hf2 g2 s2 r2
def immF (F : Fd) : Fe := fun ρ => (F ρ).map fun x => (.imm x.1, x.2)
theorem px_imm {F : Fd} (h : PD X e F) : PX X e (immF F) := pe_imp h fun σ H Q ⟨ρ, loc, Hf, d, ρ', s, hF, k⟩ => by
  unfold immF at hF
  cases q : F ρ with
  | none => rw [q] at hF; cases hF
  | some x =>
    obtain ⟨r, ρ1⟩ := x
    rw [q] at hF
    cases hF
    exact ⟨ρ, loc, Hf, r, _, s, q, fun v H' Hf' g s' o => k v H' Hf' g s' o⟩
def valF (F : Fd) : Fr := fun ρ => (F ρ).map fun x => (.val x.1, x.2)
theorem pr_val {F : Fd} (h : PD X e F) : PR X e (valF F) := pe_imp h fun σ H Q ⟨ρ, loc, Hf, d, ρ', s, hF, k⟩ => by
  unfold valF at hF
  cases q : F ρ with
  | none => rw [q] at hF; cases hF
  | some x =>
    obtain ⟨r, ρ1⟩ := x
    rw [q] at hF
    cases hF
    exact ⟨ρ, loc, Hf, r, _, s, q, fun v H' Hf' g s' o => k v H' Hf' g s' o⟩

/-! ### names -/
def varR (i : Nat) : Fr := fun ρ => match ρ[i]? with
  | some (.imm d) => some (.val d, ρ)
  | some (.own _) => some (.rf i, ρ)
  | some (.par _) => some (.rf i, ρ)
  | _ => none
def varD (i : Nat) : Fd := fun ρ => match ρ[i]? with
  | some (.imm d) => some (d, ρ)
  | some (.own c) => some (c.toD, ρ.set i (.imm c.toD))
  | _ => none
theorem SOk.lt {W : Wd} {ρ : Env} {loc : Loc} {σ : St} {H Hf : Hp} (s : SOk W ρ loc σ H Hf) {i : Nat} {x : Sl} (h : ρ[i]? = some x) : i < ρ.length := (List.getElem?_eq_some_iff.mp h).1
theorem pr_var {i : Nat} (h : PE X e (tVar i)) : PR X e (varR i) := pe_imp h fun σ H Q ⟨ρ, loc, Hf, d, ρ', s, hF, k⟩ => by
  unfold varR at hF
  split at hF
  · rename_i d' q
    cases hF
    obtain ⟨v, h1, r⟩ := s.imm i d' q
    exact ⟨v, h1, k v H Hf .refl s r⟩
  · rename_i c' q
    cases hF
    exact ⟨_, (s.own i _ c' q rfl).1, k _ H Hf .refl s rfl⟩
  · rename_i c' q
    cases hF
    exact ⟨_, (s.own i _ c' q rfl).1, k _ H Hf .refl s rfl⟩
  · cases hF
/-- a slot's object becomes fixed -/
theorem freeze {W : Wd} {ρ : Env} {loc : Loc} {σ : St} {H Hf : Hp} {i : Nat} {c : C} (s : SOk W ρ loc σ H Hf) (q : ρ[i]? = some (Sl.own c)) :
    ∃ Hf', Ge ρ loc H Hf (ρ.set i (.imm c.toD)) H Hf' ∧ SOk W (ρ.set i (.imm c.toD)) loc σ H Hf' ∧ Rp W Hf' (.ref (loc i)) c.toD := by
  have hi := s.lt q
  obtain ⟨hσ, hn, o⟩ := s.own i _ c q rfl
  obtain ⟨u, hu⟩ := Option.ne_none_iff_exists'.mp o.there
  have sb : ∀ a o, (upd Hf (loc i) u) a = some o → H a = some o := fun a o h => by
    by_cases z : a = loc i
    · subst z; rw [upd_same] at h; exact hu.trans h
    · rw [upd_ne z] at h; exact s.sub a o h
  have up : ∀ b o, Hf b = some o → (upd Hf (loc i) u) b = some o := fun b o h => by rw [upd_ne (ne_of_none h hn)]; exact h
  have rp : Rp W (upd Hf (loc i) u) (.ref (loc i)) c.toD := o.fixedRp hu hn
  have other : ∀ (j : Nat) (t : Sl), (ρ.set i (.imm c.toD))[j]? = some t → (j = i ∧ t = .imm c.toD) ∨ (j ≠ i ∧ ρ[j]? = some t) := fun j t h => by
    by_cases z : j = i
    · subst z; rw [List.getElem?_set_self hi] at h; exact .inl ⟨rfl, (Option.some.inj h).symm⟩
    · rw [List.getElem?_set_ne (Ne.symm z)] at h; exact .inr ⟨z, h⟩
  refine ⟨upd Hf (loc i) u, ⟨fun _ h => h, fun _ _ h _ => h, fun a o h n => ?_, fun j c' h => ?_, fun j c' h => ?_, fun j c' h => ?_⟩, ⟨sb, by rw [List.length_set]; exact s.len, fun j d h => ?_, fun j t c' h1 h2 => ?_, fun j l t t' c1 c2 h1 h2 h3 h4 => ?_⟩, rp⟩
  · rw [upd_ne fun z => n ⟨i, _, c, q, rfl, z.symm⟩]
  · rcases other j _ h with ⟨_, z⟩ | ⟨_, z⟩
    · cases z
    · exact ⟨c', z⟩
  · rcases other j _ h with ⟨_, z⟩ | ⟨_, z⟩
    · cases z
    · exact ⟨c', z⟩
  · have z : j ≠ i := fun z => by subst z; rw [q] at h; cases h
    exact ⟨c', by rw [List.getElem?_set_ne (Ne.symm z)]; exact h⟩
  · rcases other j _ h with ⟨z, z2⟩ | ⟨_, z⟩
    · cases z2
      subst z
      exact ⟨_, hσ, rp⟩
    · obtain ⟨v, h1, r⟩ := s.imm j d z
      exact ⟨v, h1, r.mono up⟩
  · rcases other j _ h1 with ⟨z, z2⟩ | ⟨nj, z⟩
    · subst z2; cases h2
    · obtain ⟨x, y, w⟩ := s.own j t c' z h2
      have ne : loc j ≠ loc i := fun e => nj (s.inj j i t _ c' c z q h2 rfl e)
      exact ⟨x, by rw [upd_ne ne]; exact y, w.mono (fun _ q => q) up⟩
  · rcases other j _ h1 with ⟨_, z2⟩ | ⟨_, z⟩
    · subst z2; cases h3
    · rcases other l _ h2 with ⟨_, z2⟩ | ⟨_, z'⟩
      · subst z2; cases h4
      · exact s.inj j l t t' c1 c2 z z' h3 h4
theorem pd_var {i : Nat} (h : PE X e (tVar i)) : PD X e (varD i) := pe_imp h fun σ H Q ⟨ρ, loc, Hf, d, ρ', s, hF, k⟩ => by
  unfold varD at hF
  split at hF
  · rename_i d' q
    cases hF
    obtain ⟨v, h1, r⟩ := s.imm i _ q
    exact ⟨v, h1, k v H Hf .refl s r⟩
  · rename_i c' q
    cases hF
    obtain ⟨Hf', g, s', r⟩ := freeze s q
    exact ⟨_, (s.own i _ c' q rfl).1, k _ H Hf' g s' r⟩
  · cases hF

/-! ### constants -/
def constF (d : D) : Fd := fun ρ => some (d, ρ)
theorem pd_const {v : V} {d : D} (h : PE X e (tC v)) (r : ∀ W H, Rp W H v d) : PD X e (constF d) := pe_imp h fun σ H Q ⟨ρ, loc, Hf, d', ρ', s, hF, k⟩ => by
  cases hF
  exact k v H Hf .refl s (r _ _)

/-! ### lists of expressions -/
def nilA : Fa := fun ρ => some ([], ρ)
def consA (F : Fr) (G : Fa) : Fa := fun ρ => (F ρ).bind fun x => (G x.2).map fun y => (x.1 :: y.1, y.2)
theorem pas_nil : PAs X [] nilA := pa_imp pa_nil fun σ H Q ⟨ρ, loc, Hf, r, ρ', s, hF, k⟩ => by
  cases hF
  exact k [] H Hf .refl s trivial
theorem pas_cons {es : List Expr} {F : Fr} {G : Fa} (ha : PR X e F) (hr : PAs X es G) (hs : starEach (e :: es) X.env = (false, eval e X.env) :: starEach es X.env) : PAs X (e :: es) (consA F G) :=
  pa_imp (pa_cons ha hr hs) fun σ H Q ⟨ρ, loc, Hf, r, ρ', s, hF, k⟩ => by
    unfold consA at hF
    obtain ⟨⟨a, ρ1⟩, q1, hF⟩ := Option.bind_eq_some_iff.mp hF
    obtain ⟨⟨as, ρ2⟩, q2, hF⟩ := Option.map_eq_some_iff.mp hF
    cases hF
    refine ⟨ρ, loc, Hf, a, ρ1, s, q1, fun v H1 Hf1 g1 s1 o1 => ⟨ρ1, loc, Hf1, as, ρ2, s1, q2, fun vs H2 Hf2 g2 s2 o2 => ?_⟩⟩
    exact k (v :: vs) H2 Hf2 (g1.trans g2) s2 ⟨o1.mono (g2.fixed s1), o2⟩
def nilL : Fl := fun ρ => some ([], ρ)
def consL (F : Fd) (G : Fl) : Fl := fun ρ => (F ρ).bind fun x => (G x.2).map fun y => (x.1 :: y.1, y.2)
theorem pls_nil : PLs X [] nilL := pa_imp pa_nil fun σ H Q ⟨ρ, loc, Hf, r, ρ', s, hF, k⟩ => by
  cases hF
  exact k [] H Hf .refl s .nil
theorem pls_cons {es : List Expr} {F : Fd} {G : Fl} (ha : PD X e F) (hr : PLs X es G) (hs : starEach (e :: es) X.env = (false, eval e X.env) :: starEach es X.env) : PLs X (e :: es) (consL F G) :=
  pa_imp (pa_cons ha hr hs) fun σ H Q ⟨ρ, loc, Hf, r, ρ', s, hF, k⟩ => by
    unfold consL at hF
    obtain ⟨⟨a, ρ1⟩, q1, hF⟩ := Option.bind_eq_some_iff.mp hF
    obtain ⟨⟨as, ρ2⟩, q2, hF⟩ := Option.map_eq_some_iff.mp hF
    cases hF
    refine ⟨ρ, loc, Hf, a, ρ1, s, q1, fun v H1 Hf1 g1 s1 o1 => ⟨ρ1, loc, Hf1, as, ρ2, s1, q2, fun vs H2 Hf2 g2 s2 o2 => ?_⟩⟩
    exact k (v :: vs) H2 Hf2 (g1.trans g2) s2 (.cons (o1.mono (g2.fixed s1)) o2)

/-! ### displays -/
def tupF (G : Fl) : Fe := fun ρ => (G ρ).bind fun y => if y.1.length ≤ sizeLine then some (.imm (.tup y.1), y.2) else none
def lstF (G : Fl) : Fe := fun ρ => (G ρ).bind fun y => if y.1.length ≤ sizeLine then some (.own (.lst y.1), y.2) else none
theorem px_tup {es : List Expr} {G : Fl} {k p} (h : PLs X es G) : PX X (.Tuple es k p) (tupF G) := pe_imp (pe_tupF h) fun σ H Q ⟨ρ, loc, Hf, r, ρ', s, hF, k⟩ => by
  unfold tupF at hF
  obtain ⟨⟨ds, ρ1⟩, q1, hF⟩ := Option.bind_eq_some_iff.mp hF
  split at hF
  · rename_i hz
    cases hF
    refine ⟨ρ, loc, Hf, ds, _, s, q1, fun vs H1 Hf1 g1 s1 o1 => ⟨by rw [o1.length]; exact hz, fun p u ⟨ob, hn, eu⟩ hp => ?_⟩⟩
    subst eu
    have E := Ext.newF s1.sub hp (.frz ob (.tup vs))
    exact k _ _ _ (g1.trans E.ge) (s1.ext E) (.tup upd_same hn (o1.mono (E.fixed s1.sub)))
  · cases hF
theorem px_lst {es : List Expr} {G : Fl} {p} (h : PLs X es G) : PX X (.List es p) (lstF G) := pe_imp (pe_lst h) fun σ H Q ⟨ρ, loc, Hf, r, ρ', s, hF, k⟩ => by
  unfold lstF at hF
  obtain ⟨⟨ds, ρ1⟩, q1, hF⟩ := Option.bind_eq_some_iff.mp hF
  split at hF
  · rename_i hz
    cases hF
    refine ⟨ρ, loc, Hf, ds, _, s, q1, fun vs H1 Hf1 g1 s1 o1 => ⟨by rw [o1.length]; exact hz, fun p hp => ?_⟩⟩
    have E := Ext.newO s1.sub hp (.lst vs)
    have hpH : H p = none := g1.there p hp
    have hpf : Hf1 p = none := by
      cases z : Hf1 p with
      | none => rfl
      | some u => rw [s1.sub p u z] at hp; cases hp
    exact k _ _ _ (g1.trans E.ge) (s1.ext E) ⟨p, rfl, hpH, hpf, vs, upd_same, o1.mono (E.fixed s1.sub)⟩
  · cases hF
end
end Ev
/-! text Ev2 -/
set_option Elab.async false
set_option linter.all false
set_option maxRecDepth 100000
set_option maxHeartbeats 4000000
namespace Ev
open PySem L2

/-! ### data as the library's values and data -/
def flat : D → Option V
  | .non => some .non
  | .bl b => some (.bl b)
  | .int i => some (.int i)
  | .str s => some (.str s)
  | _ => none
mutual
def py : D → PyData
  | .non => .none
  | .bl b => .bool b
  | .int i => .int i
  | .str s => .str s
  | .tup xs => .tuple (pyL xs)
  | .lst xs => .list (pyL xs)
  | .dct _ _ => .dict []
  | .obj _ _ => .dict []
  | .scr _ => .dict []
def pyL : List D → List PyData
  | [] => []
  | x :: xs => py x :: pyL xs
end
section
variable {W : Wd} {H Hf : Hp}
theorem Rp.flat {v : V} {d : D} (h : Rp W H v d) {u : V} (e : flat d = some u) : v = u := by
  cases h <;> first | (cases e; rfl) | cases e
mutual
theorem Rp.dp : ∀ {v : V} {d : D}, Rp W H v d → (py d).canLay0 = true → Dp W.K H v (py d)
  | _, _, .non, _ => .non
  | _, _, .bl b, _ => .bl b
  | _, _, .int i, _ => .int i
  | _, _, .str x, _ => .str x
  | _, _, .tup h _ r, k => .tup (sqT_fz h) (RpL.dp r (by simpa [py, PyData.canLay0] using k))
  | _, _, .lst h r, k => .lst (.of h) (RpL.dp r (by simpa [py, PyData.canLay0] using k))
  | _, _, .dK h r, k => by simp [py, PyData.canLay0] at k
  | _, _, .dT h r, k => by simp [py, PyData.canLay0] at k
  | _, _, .obj h m r, k => by simp [py, PyData.canLay0] at k
  | _, _, .scr h, k => by simp [py, PyData.canLay0] at k
theorem RpL.dp : ∀ {v : List V} {d : List D}, RpL W H v d → PyData.canLayAll0 (pyL d) = true → DpAll W.K H v (pyL d)
  | _, _, .nil, _ => .nil
  | _, _, .cons r t, k => by
    simp only [pyL, PyData.canLayAll0, Bool.and_eq_true] at k
    exact .cons (Rp.dp r k.1) (RpL.dp t k.2)
end
theorem RpB.up {v : V} {d : D} (h : RpB W H Hf v d) (hs : ∀ a o, Hf a = some o → H a = some o) : Rp W H v d := by
  cases d with
  | lst ds => obtain ⟨a, vs, rfl, h1, h2⟩ := h; exact .lst h1 (h2.mono hs)
  | dct t ds =>
    cases t with
    | false => obtain ⟨a, ks, rfl, h1, h2⟩ := h; exact .dK h1 (h2.mono hs)
    | true => obtain ⟨a, ks, rfl, h1, h2⟩ := h; exact .dT h1 (h2.mono hs)
  | obj c ds => obtain ⟨a, Cc, dx, vfs, rfl, h1, m, h2⟩ := h; exact .obj h1 m (h2.mono hs)
  | non => exact Rp.mono hs h
  | bl b => exact Rp.mono hs h
  | int i => exact Rp.mono hs h
  | str x => exact Rp.mono hs h
  | tup xs => exact Rp.mono hs h
  | scr ns => exact Rp.mono hs h
theorem RpB.flat {v : V} {d : D} (h : RpB W H Hf v d) {u : V} (e : flat d = some u) : v = u := by
  cases d <;> first | cases e; done | exact Rp.flat h e
end

/-! ### two operands -/
abbrev Sub (Hf H : Hp) : Prop := ∀ a o, Hf a = some o → H a = some o
/-- the rule r does on data what f says -/
def DOp (W : Wd) (r : R2) (f : D → D → Option Rv) : Prop := ∀ (x y : V) (d e : D) (z : Rv) (H Hf : Hp) (Q : VK), Sub Hf H → RpB W H Hf x d → RpB W H Hf y e → f d e = some z →
  (∀ v H' Hf', Ext H Hf H' Hf' → RvOk W H v H' Hf' z → Q v H') → r x y H Q
def DOpB (W : Wd) (r : R2) (f : D → D → Option Bool) : Prop := ∀ (x y : V) (d e : D) (z : Bool) (H Hf : Hp) (Q : VK), Sub Hf H → RpB W H Hf x d → RpB W H Hf y e → f d e = some z → Q (.bl z) H → r x y H Q
theorem DOp.orL {W : Wd} {r r' : R2} {f : D → D → Option Rv} (h : DOp W r f) : DOp W (fun x y H Q => r x y H Q ∨ r' x y H Q) f := fun x y d e z H Hf Q s a b q k => .inl (h x y d e z H Hf Q s a b q k)
theorem DOp.orR {W : Wd} {r r' : R2} {f : D → D → Option Rv} (h : DOp W r' f) : DOp W (fun x y H Q => r x y H Q ∨ r' x y H Q) f := fun x y d e z H Hf Q s a b q k => .inr (h x y d e z H Hf Q s a b q k)

def addD : D → D → Option Rv
  | .int i, .int j => some (.imm (.int (i + j)))
  | .str x, .str y => if x.length + y.length ≤ sizeLine then some (.imm (.str (x ++ y))) else none
  | .lst xs, .lst ys => if xs.length + ys.length ≤ sizeLine then some (.own (.lst (xs ++ ys))) else none
  | .tup xs, .tup ys => if xs.length + ys.length ≤ sizeLine then some (.imm (.tup (xs ++ ys))) else none
  | _, _ => none
def rAddD (K : PySem.W.Frag) : R2 := fun x y H Q => rI0 (fun i j => .int (i + j)) x y H Q ∨ ((∃ i j, x = .str i ∧ y = .str j ∧ i.length + j.length ≤ sizeLine ∧ Q (.str (i ++ j)) H) ∨ (rCat x y H Q ∨ rCatF K x y H Q))
theorem op_addD {X : Cx} : OpR X (binaryOp .Add) (rAddD X.K) := op_add.or (op_add_str.or (op_cat.or op_catF))
theorem dop_add {W : Wd} : DOp W (rAddD W.K) addD := fun x y d e z H Hf Q s a b q k => by
  unfold addD at q
  split at q
  · cases q
    cases a; cases b
    exact .inl ⟨_, _, rfl, rfl, k _ H Hf (.refl s) (.int _)⟩
  · split at q
    · rename_i hz
      cases q
      cases a; cases b
      exact .inr (.inl ⟨_, _, rfl, rfl, hz, k _ H Hf (.refl s) (.str _)⟩)
    · cases q
  · split at q
    · rename_i hz
      cases q
      obtain ⟨p1, vs, rfl, h1, r1⟩ := a
      obtain ⟨p2, ws, rfl, h2, r2⟩ := b
      refine .inr (.inr (.inl ⟨p1, p2, vs, ws, rfl, rfl, h1, h2, by rw [r1.length, r2.length]; exact hz, fun p hp => ?_⟩))
      have E := Ext.newO s hp (.lst (vs ++ ws))
      refine k _ _ _ E ⟨p, rfl, hp, ?_, _, upd_same, r1.append r2⟩
      cases w : Hf p with
      | none => rfl
      | some u => rw [s p u w] at hp; cases hp
    · cases q
  · split at q
    · rename_i hz
      cases q
      cases a with
      | tup h1 n1 r1 =>
      cases b with
      | tup h2 n2 r2 =>
      rename_i p1 ob1 vs p2 ob2 ws
      refine .inr (.inr (.inr ⟨p1, p2, vs, ws, rfl, rfl, sqT_fz (s _ _ h1), sqT_fz (s _ _ h2), by rw [r1.length, r2.length]; exact hz, fun z => ?_, fun _ z => ?_, fun _ _ p u ⟨ob, hn, eu⟩ hp => ?_⟩))
      · subst z; cases r1
        exact k _ H Hf (.refl s) (.tup h2 n2 r2)
      · subst z; cases r2
        refine k _ H Hf (.refl s) ?_
        rw [List.append_nil]
        exact .tup h1 n1 r1
      · subst eu
        have E := Ext.newF s hp (.frz ob (.tup (vs ++ ws)))
        exact k _ _ _ E (.tup upd_same hn ((r1.append r2).mono (E.fixed s)))
    · cases q
  · cases q

def intOp (f : Int → Int → Option Int) : D → D → Option Rv
  | .int i, .int j => (f i j).map fun z => .imm (.int z)
  | _, _ => none
theorem dop_int {W : Wd} {C : Int → Int → Prop} {g : Int → Int → Int} {f : Int → Int → Option Int} (hf : ∀ i j z, f i j = some z → C i j ∧ g i j = z) : DOp W (rI C fun i j => .int (g i j)) (intOp f) := fun x y d e z H Hf Q s a b q k => by
  unfold intOp at q
  split at q
  · obtain ⟨w, q1, q2⟩ := Option.map_eq_some_iff.mp q
    cases q2
    cases a; cases b
    obtain ⟨h1, h2⟩ := hf _ _ _ q1
    exact ⟨_, _, rfl, rfl, h1, k _ H Hf (.refl s) (by subst h2; exact .int _)⟩
  · cases q
def subI (i j : Int) : Option Int := some (i - j)
theorem op_subD {X : Cx} : OpR X (binaryOp .Sub) (rI (fun _ _ => True) fun i j => .int (i - j)) := opI fun _ _ _ _ _ _ _ _ q => PyProof.Rows.sub_int q
theorem dop_sub {W : Wd} : DOp W (rI (fun _ _ => True) fun i j => .int (i - j)) (intOp subI) := dop_int fun i j z h => ⟨trivial, Option.some.inj h⟩
/-- what may stand as sizes of factors -/
def small64 (i : Int) : Bool := decide (-(2 ^ 64) < i) && decide (i < 2 ^ 64)
def mulI (i j : Int) : Option Int := if small64 i || small64 j then some (i * j) else if i.natAbs.log2 + j.natAbs.log2 < 1000000 then some (i * j) else none
def mulD : D → D → Option Rv
  | .int i, .int j => (mulI i j).map fun z => .imm (.int z)
  | .lst xs, .int k => if -(2 ^ 63) ≤ k ∧ k < 2 ^ 63 ∧ xs.length * k.toNat ≤ sizeLine then some (.own (.lst (List.replicate k.toNat xs).flatten)) else none
  | .tup xs, .int k => if xs ≠ [] ∧ 2 ≤ k ∧ k ≤ 1000 ∧ xs.length ≤ 1000 then some (.imm (.tup (List.replicate k.toNat xs).flatten)) else none
  | _, _ => none
theorem RpL.rep {W : Wd} {H : Hp} {vs : List V} {ds : List D} (h : RpL W H vs ds) : ∀ k : Nat, RpL W H (List.replicate k vs).flatten (List.replicate k ds).flatten
  | 0 => .nil
  | k + 1 => by
    rw [List.replicate_succ, List.replicate_succ, List.flatten_cons, List.flatten_cons]
    exact h.append (h.rep k)
def rMulD : R2 := fun x y H Q => rI CMul (fun i j => .int (i * j)) x y H Q ∨ (rI CMulW (fun i j => .int (i * j)) x y H Q ∨ rRep x y H Q)
theorem op_mulD {X : Cx} : OpR X (binaryOp .Mult) rMulD := op_mul.or (op_mulW.or op_rep)
def mulD' : D → D → Option Rv
  | .tup _, _ => none
  | d, e => mulD d e
theorem dop_mul {W : Wd} : DOp W rMulD mulD' := fun x y d e z H Hf Q s a b q k => by
  unfold mulD' at q
  split at q
  · cases q
  · rename_i nt
    unfold mulD at q
    split at q
    · obtain ⟨w, q1, q2⟩ := Option.map_eq_some_iff.mp q
      cases q2
      cases a; cases b
      unfold mulI at q1
      split at q1
      · rename_i hc
        cases q1
        refine .inl ⟨_, _, rfl, rfl, ?_, k _ H Hf (.refl s) (.int _)⟩
        unfold small64 at hc
        simp only [Bool.or_eq_true, Bool.and_eq_true, decide_eq_true_eq] at hc
        exact hc
      · split at q1
        · rename_i hc
          cases q1
          exact .inr (.inl ⟨_, _, rfl, rfl, hc, k _ H Hf (.refl s) (.int _)⟩)
        · cases q1
    · split at q
      · rename_i xs kk hz
        cases q
        obtain ⟨p1, vs, rfl, h1, r1⟩ := a
        cases b
        refine .inr (.inr ⟨p1, _, vs, rfl, rfl, h1, hz.1, hz.2.1, by rw [r1.length]; exact hz.2.2, fun p hp => ?_⟩)
        have E := Ext.newO s hp (.lst (List.replicate kk.toNat vs).flatten)
        refine k _ _ _ E ⟨p, rfl, hp, ?_, _, upd_same, r1.rep _⟩
        cases w : Hf p with
        | none => rfl
        | some u => rw [s p u w] at hp; cases hp
      · cases q
    · exact (nt _ rfl).elim
    · cases q
def fdivI (i j : Int) : Option Int := if j ≠ 0 ∧ j.natAbs < 1073741824 then some (i.fdiv j) else if 0 < j ∧ j.natAbs.log2 < 9000 then some (i / j) else none
def rFdiv : R2 := fun x y H Q => rI CDivN (fun i j => .int (i.fdiv j)) x y H Q ∨ rI CDivW (fun i j => .int (i / j)) x y H Q
theorem op_fdivD {X : Cx} : OpR X (binaryOp .FloorDiv) rFdiv := op_fdivN.or op_fdivW
theorem dop_fdiv {W : Wd} : DOp W rFdiv (intOp fdivI) := fun x y d e z H Hf Q s a b q k => by
  unfold intOp at q
  split at q
  · obtain ⟨w, q1, q2⟩ := Option.map_eq_some_iff.mp q
    cases q2
    cases a; cases b
    unfold fdivI at q1
    split at q1
    · rename_i hc
      cases q1
      exact .inl ⟨_, _, rfl, rfl, hc, k _ H Hf (.refl s) (.int _)⟩
    · split at q1
      · rename_i hc
        cases q1
        exact .inr ⟨_, _, rfl, rfl, hc, k _ H Hf (.refl s) (.int _)⟩
      · cases q1
  · cases q
def modI (i j : Int) : Option Int := if j ≠ 0 then some (i.fmod j) else none
theorem dop_mod {W : Wd} : DOp W (rI (fun _ j => j ≠ 0) fun i j => .int (i.fmod j)) (intOp modI) := dop_int fun i j z h => by
  unfold modI at h
  split at h
  · rename_i c; cases h; exact ⟨c, rfl⟩
  · cases h
def powI (i j : Int) : Option Int := if 0 ≤ j ∧ j ≤ 1000000 ∧ i.natAbs < 2 ^ 64 then some (i ^ j.toNat) else none
theorem dop_pow {W : Wd} : DOp W (rI CPow fun i j => .int (i ^ j.toNat)) (intOp powI) := dop_int fun i j z h => by
  unfold powI at h
  split at h
  · rename_i c; cases h; exact ⟨c, rfl⟩
  · cases h

/-! ### comparisons -/
def eqD (d e : D) : Option Bool := match flat d, flat e with
  | some a, some b => if scal a b then some (decide (a = b)) else none
  | _, _ => if SeqAt.shaped (py d) && SeqAt.shaped (py e) then some (PyData.eqv (py d) (py e)) else none
def rEqX (K : PySem.W.Frag) : R2 := fun x y H Q => rEq x y H Q ∨ rEqD K x y H Q
def rNeX (K : PySem.W.Frag) : R2 := fun x y H Q => rNe x y H Q ∨ rNeD K x y H Q
def neD (d e : D) : Option Bool := (eqD d e).map (!·)
theorem dop_eq {W : Wd} : DOpB W (rEqX W.K) eqD := fun x y d e z H Hf Q s a b q k => by
  unfold eqD at q
  split at q
  · rename_i u w hu hw
    split at q
    · rename_i hc
      cases q
      rw [a.flat hu, b.flat hw]
      exact .inl ⟨hc, k⟩
    · cases q
  · split at q
    · rename_i hc
      cases q
      rw [Bool.and_eq_true] at hc
      exact .inr ⟨_, _, (a.up s).dp (SeqAt.canLay_of_shaped hc.1), (b.up s).dp (SeqAt.canLay_of_shaped hc.2), hc.1, hc.2, k⟩
    · cases q
theorem dop_ne {W : Wd} : DOpB W (rNeX W.K) neD := fun x y d e z H Hf Q s a b q k => by
  unfold neD at q
  obtain ⟨z', q1, q2⟩ := Option.map_eq_some_iff.mp q
  subst q2
  clear q
  have q := q1
  clear q1
  unfold eqD at q
  split at q
  · rename_i u w hu hw
    split at q
    · rename_i hc
      cases q
      rw [a.flat hu, b.flat hw]
      exact .inl ⟨hc, k⟩
    · cases q
  · split at q
    · rename_i hc
      cases q
      rw [Bool.and_eq_true] at hc
      exact .inr ⟨_, _, (a.up s).dp (SeqAt.canLay_of_shaped hc.1), (b.up s).dp (SeqAt.canLay_of_shaped hc.2), hc.1, hc.2, k⟩
    · cases q
def cmpI (f : Int → Int → Bool) : D → D → Option Bool
  | .int i, .int j => some (f i j)
  | _, _ => none
theorem dop_cmpI {W : Wd} {f : Int → Int → Bool} : DOpB W (rI0 fun i j => .bl (f i j)) (cmpI f) := fun x y d e z H Hf Q s a b q k => by
  unfold cmpI at q
  split at q
  · cases q; cases a; cases b
    exact ⟨_, _, rfl, rfl, k⟩
  · cases q
def isD : D → D → Option Bool
  | d, .non => (match d with | .non => some true | .scr _ => none | _ => some false)
  | .bl a, .bl b => some (decide (a = b))
  | _, _ => none
def rIsX : R2 := fun x y H Q => (y = .non ∧ Q (.bl (decide (x = .non))) H) ∨ rIsB x y H Q
def rIsNotX : R2 := fun x y H Q => (y = .non ∧ Q (.bl (!decide (x = .non))) H) ∨ rNotB x y H Q
def isNotD (d e : D) : Option Bool := (isD d e).map (!·)
theorem RpB.non_iff {W : Wd} {H Hf : Hp} {v : V} {d : D} {z : Bool} (h : RpB W H Hf v d) (q : isD d .non = some z) : decide (v = .non) = z := by
  cases d <;> simp only [isD] at q <;> first | (cases q; done) | skip
  · cases q; cases h; rfl
  · cases q; cases h; rfl
  · cases q; cases h; rfl
  · cases q; cases h; rfl
  · cases q; cases h; rfl
  · cases q; obtain ⟨a, vs, rfl, _⟩ := h; rfl
  · rename_i t _; cases q; cases t <;> (obtain ⟨a, _, rfl, _⟩ := h; rfl)
  · cases q; obtain ⟨a, _, _, _, rfl, _⟩ := h; rfl
theorem dop_is {W : Wd} : DOpB W rIsX isD := fun x y d e z H Hf Q s a b q k => by
  by_cases hn : e = .non
  · subst hn
    cases b
    refine .inl ⟨rfl, ?_⟩
    rw [a.non_iff q]; exact k
  · unfold isD at q
    split at q
    · exact (hn rfl).elim
    · cases q; cases a; cases b
      exact .inr ⟨_, _, rfl, rfl, k⟩
    · cases q
theorem dop_isNot {W : Wd} : DOpB W rIsNotX isNotD := fun x y d e z H Hf Q s a b q k => by
  unfold isNotD at q
  obtain ⟨z', q1, q2⟩ := Option.map_eq_some_iff.mp q
  subst q2
  clear q
  have q := q1
  clear q1
  by_cases hn : e = .non
  · subst hn
    cases b
    refine .inl ⟨rfl, ?_⟩
    rw [a.non_iff q]; exact k
  · unfold isD at q
    split at q
    · exact (hn rfl).elim
    · cases q; cases a; cases b
      exact .inr ⟨_, _, rfl, rfl, k⟩
    · cases q
end Ev
/-! text Ev3 -/
set_option Elab.async false
set_option linter.all false
set_option maxRecDepth 100000
set_option maxHeartbeats 4000000
namespace Ev
open PySem L2

theorem RvOk.back {W : Wd} {H H2 H' Hf' : Hp} {v : V} {r : Rv} (h : RvOk W H2 v H' Hf' r) (t : ∀ a, H2 a = none → H a = none) : RvOk W H v H' Hf' r := by
  cases r with
  | imm d => exact h
  | own c => obtain ⟨p, e, h1, h2, h3⟩ := h; exact ⟨p, e, t _ h1, h2, h3⟩

section
variable {X : Cx} {e a b c : Expr}

/-! ### two operands -/
def binF (f : D → D → Option Rv) (FA FB : Fr) : Fe := fun ρ => (FA ρ).bind fun x => (FB x.2).bind fun y => (deref y.2 x.1).bind fun d => (deref y.2 y.1).bind fun e => (f d e).map fun z => (z, y.2)
def binB (f : D → D → Option Bool) (FA FB : Fr) : Ft := fun ρ => (FA ρ).bind fun x => (FB x.2).bind fun y => (deref y.2 x.1).bind fun d => (deref y.2 y.1).bind fun e => (f d e).map fun z => (z, y.2)
theorem binF_some {f : D → D → Option Rv} {FA FB : Fr} {ρ ρ' : Env} {z : Rv} (h : binF f FA FB ρ = some (z, ρ')) :
    ∃ a ρ1 b d e, FA ρ = some (a, ρ1) ∧ FB ρ1 = some (b, ρ') ∧ deref ρ' a = some d ∧ deref ρ' b = some e ∧ f d e = some z := by
  unfold binF at h
  obtain ⟨⟨a, ρ1⟩, h1, h⟩ := Option.bind_eq_some_iff.mp h
  obtain ⟨⟨b, ρ2⟩, h2, h⟩ := Option.bind_eq_some_iff.mp h
  obtain ⟨d, h3, h⟩ := Option.bind_eq_some_iff.mp h
  obtain ⟨e, h4, h⟩ := Option.bind_eq_some_iff.mp h
  obtain ⟨z', h5, h⟩ := Option.map_eq_some_iff.mp h
  cases h
  exact ⟨a, ρ1, b, d, e, h1, h2, h3, h4, h5⟩
theorem binB_some {f : D → D → Option Bool} {FA FB : Fr} {ρ ρ' : Env} {z : Bool} (h : binB f FA FB ρ = some (z, ρ')) :
    ∃ a ρ1 b d e, FA ρ = some (a, ρ1) ∧ FB ρ1 = some (b, ρ') ∧ deref ρ' a = some d ∧ deref ρ' b = some e ∧ f d e = some z := by
  unfold binB at h
  obtain ⟨⟨a, ρ1⟩, h1, h⟩ := Option.bind_eq_some_iff.mp h
  obtain ⟨⟨b, ρ2⟩, h2, h⟩ := Option.bind_eq_some_iff.mp h
  obtain ⟨d, h3, h⟩ := Option.bind_eq_some_iff.mp h
  obtain ⟨e, h4, h⟩ := Option.bind_eq_some_iff.mp h
  obtain ⟨z', h5, h⟩ := Option.map_eq_some_iff.mp h
  cases h
  exact ⟨a, ρ1, b, d, e, h1, h2, h3, h4, h5⟩
/-- the reading of two operands under a rule -/
theorem read2 {W : Wd} {r : R2} {f : D → D → Option Rv} (hd : DOp W r f) {FA FB : Fr} {σ : St} {H : Hp} {Q : VK} (h : tX W (binF f FA FB) σ H Q) : tOp r (tR W FA) (tR W FB) σ H Q := by
  obtain ⟨ρ, loc, Hf, z, ρ', s, hF, k⟩ := h
  obtain ⟨a, ρ1, b, d, e, h1, h2, h3, h4, h5⟩ := binF_some hF
  exact ⟨ρ, loc, Hf, a, ρ1, s, h1, fun v H1 Hf1 g1 s1 o1 => ⟨ρ1, loc, Hf1, b, ρ', s1, h2, fun u H2 Hf2 g2 s2 o2 =>
    hd v u d e z H2 Hf2 Q s2.sub (deref_b s2 (o1.mono (g2.fixed s1)) h3) (deref_b s2 o2 h4) h5 fun w H' Hf' E R =>
      k w H' Hf' (g1.trans (g2.trans E.ge)) (s2.ext E) (R.back fun x q => g1.there x (g2.there x q))⟩⟩
theorem px_bin {op : Operator} {r : R2} {f : D → D → Option Rv} {FA FB : Fr} {pos} (ho : OpR X (binaryOp op) r) (hd : DOp (wd X) r f) (ha : PR X a FA) (hb : PR X b FB) : PX X (.BinOp a op b pos) (binF f FA FB) :=
  pe_imp (pe_op ho ha hb) fun _ _ _ h => read2 hd h
def boolF (F : Ft) : Fd := fun ρ => (F ρ).map fun x => (.bl x.1, x.2)
theorem read2B {W : Wd} {r : R2} {f : D → D → Option Bool} (hd : DOpB W r f) {FA FB : Fr} {σ : St} {H : Hp} {Q : Bool → Hp → Prop} (h : tT W (binB f FA FB) σ H Q) : tTest (tOp r (tR W FA) (tR W FB)) σ H Q := by
  obtain ⟨ρ, loc, Hf, z, ρ', s, hF, k⟩ := h
  obtain ⟨a, ρ1, b, d, e, h1, h2, h3, h4, h5⟩ := binB_some hF
  exact ⟨ρ, loc, Hf, a, ρ1, s, h1, fun v H1 Hf1 g1 s1 o1 => ⟨ρ1, loc, Hf1, b, ρ', s1, h2, fun u H2 Hf2 g2 s2 o2 =>
    hd v u d e z H2 Hf2 _ s2.sub (deref_b s2 (o1.mono (g2.fixed s1)) h3) (deref_b s2 o2 h4) h5 ⟨z, rfl, k H2 Hf2 (g1.trans g2) s2⟩⟩⟩
theorem read2V {W : Wd} {r : R2} {f : D → D → Option Bool} (hd : DOpB W r f) {FA FB : Fr} {σ : St} {H : Hp} {Q : VK} (h : tD W (boolF (binB f FA FB)) σ H Q) : tOp r (tR W FA) (tR W FB) σ H Q := by
  obtain ⟨ρ, loc, Hf, z, ρ', s, hF, k⟩ := h
  obtain ⟨⟨z', ρ2⟩, hF1, q⟩ := Option.map_eq_some_iff.mp hF
  cases q
  obtain ⟨a, ρ1, b, d, e, h1, h2, h3, h4, h5⟩ := binB_some hF1
  exact ⟨ρ, loc, Hf, a, ρ1, s, h1, fun v H1 Hf1 g1 s1 o1 => ⟨ρ1, loc, Hf1, b, _, s1, h2, fun u H2 Hf2 g2 s2 o2 =>
    hd v u d e z' H2 Hf2 _ s2.sub (deref_b s2 (o1.mono (g2.fixed s1)) h3) (deref_b s2 o2 h4) h5 (k _ H2 Hf2 (g1.trans g2) s2 (.bl _))⟩⟩
theorem pb_cmp {op : CmpOp} {r : R2} {f : D → D → Option Bool} {FA FB : Fr} {pos} (ho : OpR X (compareOp op) r) (hd : DOpB (wd X) r f) (ha : PR X a FA) (hb : PR X b FB) (hm : behindInMarks op b = false) : PB X (.Compare a [op] [b] pos) (binB f FA FB) :=
  pt_imp (pt_cmpR ho ha hb hm) fun _ _ _ h => read2B hd h
theorem pd_cmp {op : CmpOp} {r : R2} {f : D → D → Option Bool} {FA FB : Fr} {pos} (ho : OpR X (compareOp op) r) (hd : DOpB (wd X) r f) (ha : PR X a FA) (hb : PR X b FB) (hm : behindInMarks op b = false) : PD X (.Compare a [op] [b] pos) (boolF (binB f FA FB)) :=
  pe_imp (pe_cmpR ho ha hb hm) fun _ _ _ h => read2V hd h
/-- a op b op' c -/
def chainB (f g : D → D → Option Bool) (FA FB FC : Fr) : Ft := fun ρ => (FA ρ).bind fun x => (FB x.2).bind fun y => (deref y.2 x.1).bind fun d => (deref y.2 y.1).bind fun e => (f d e).bind fun z =>
  if z = true then (FC y.2).bind fun w => (deref w.2 y.1).bind fun e2 => (deref w.2 w.1).bind fun d2 => (g e2 d2).map fun z2 => (z2, w.2) else some (false, y.2)
theorem readCh {W : Wd} {r r' : R2} {f g : D → D → Option Bool} (hd : DOpB W r f) (hd' : DOpB W r' g) {FA FB FC : Fr} {σ : St} {H : Hp} {Q : VK} {R : Bool → Hp → Prop} (hR : ∀ z H, R z H → Q (.bl z) H) (h : tT W (chainB f g FA FB FC) σ H R) :
    tChain r r' (tR W FA) (tR W FB) (tR W FC) σ H Q := by
  obtain ⟨ρ, loc, Hf, z, ρ', s, hF, k⟩ := h
  unfold chainB at hF
  obtain ⟨⟨a, ρ1⟩, h1, hF⟩ := Option.bind_eq_some_iff.mp hF
  obtain ⟨⟨b, ρ2⟩, h2, hF⟩ := Option.bind_eq_some_iff.mp hF
  obtain ⟨d, h3, hF⟩ := Option.bind_eq_some_iff.mp hF
  obtain ⟨e, h4, hF⟩ := Option.bind_eq_some_iff.mp hF
  obtain ⟨z1, h5, hF⟩ := Option.bind_eq_some_iff.mp hF
  refine ⟨ρ, loc, Hf, a, ρ1, s, h1, fun v H1 Hf1 g1 s1 o1 => ⟨ρ1, loc, Hf1, b, ρ2, s1, h2, fun u H2 Hf2 g2 s2 o2 => ?_⟩⟩
  refine hd v u d e z1 H2 Hf2 _ s2.sub (deref_b s2 (o1.mono (g2.fixed s1)) h3) (deref_b s2 o2 h4) h5 ⟨z1, rfl, ?_⟩
  cases z1 with
  | false =>
    simp only [Bool.false_eq_true, if_false] at hF ⊢
    cases hF
    exact hR _ _ (k H2 Hf2 (g1.trans g2) s2)
  | true =>
    simp only [if_true] at hF ⊢
    obtain ⟨⟨w, ρ3⟩, h6, hF⟩ := Option.bind_eq_some_iff.mp hF
    obtain ⟨e2, h7, hF⟩ := Option.bind_eq_some_iff.mp hF
    obtain ⟨d2, h8, hF⟩ := Option.bind_eq_some_iff.mp hF
    obtain ⟨z2, h9, hF⟩ := Option.map_eq_some_iff.mp hF
    cases hF
    exact ⟨ρ2, loc, Hf2, w, _, s2, h6, fun t H3 Hf3 g3 s3 o3 => hd' u t e2 d2 _ H3 Hf3 _ s3.sub (deref_b s3 (o2.mono (g3.fixed s2)) h7) (deref_b s3 o3 h8) h9 (hR _ _ (k H3 Hf3 (g1.trans (g2.trans g3)) s3))⟩
theorem pb_chain {op op' : CmpOp} {r r' : R2} {f g : D → D → Option Bool} {FA FB FC : Fr} {pos} (ho : OpR X (compareOp op) r) (ho' : OpR X (compareOp op') r') (hd : DOpB (wd X) r f) (hd' : DOpB (wd X) r' g)
    (ha : PR X a FA) (hb : PR X b FB) (hc : PR X c FC) (hm : lastMarks [op, op'] [b, c] = false) : PB X (.Compare a [op, op'] [b, c] pos) (chainB f g FA FB FC) :=
  pt_imp (pt_chain ho ho' ha hb hc hm) fun σ H Q h => readCh hd hd' (fun z H q => ⟨z, rfl, q⟩) h
theorem pd_chain {op op' : CmpOp} {r r' : R2} {f g : D → D → Option Bool} {FA FB FC : Fr} {pos} (ho : OpR X (compareOp op) r) (ho' : OpR X (compareOp op') r') (hd : DOpB (wd X) r f) (hd' : DOpB (wd X) r' g)
    (ha : PR X a FA) (hb : PR X b FB) (hc : PR X c FC) (hm : lastMarks [op, op'] [b, c] = false) : PD X (.Compare a [op, op'] [b, c] pos) (boolF (chainB f g FA FB FC)) :=
  pe_imp (pe_chain ho ho' ha hb hc hm) fun σ H Q h => by
    obtain ⟨ρ, loc, Hf, z, ρ', s, hF, k⟩ := h
    obtain ⟨⟨z', ρ2⟩, hF1, q⟩ := Option.map_eq_some_iff.mp hF
    cases q
    exact readCh (R := fun z H => Q (.bl z) H) hd hd' (fun z H q => q) ⟨ρ, loc, Hf, z', _, s, hF1, fun H' Hf' g s' => k _ H' Hf' g s' (.bl _)⟩

/-! ### tests -/
def andB (F G : Ft) : Ft := fun ρ => (F ρ).bind fun x => if x.1 = true then G x.2 else some (false, x.2)
def orB (F G : Ft) : Ft := fun ρ => (F ρ).bind fun x => if x.1 = true then some (true, x.2) else G x.2
def notB (F : Ft) : Ft := fun ρ => (F ρ).map fun x => (!x.1, x.2)
theorem pb_and1 {F : Ft} {pos} (ha : PB X a F) : PW X (.BoolOp .And [a] pos) (tT (wd X) F) := pw_and1 ha
theorem pb_or1 {F : Ft} {pos} (ha : PB X a F) : PW X (.BoolOp .Or [a] pos) (tT (wd X) F) := pw_or1 ha
theorem pb_and {F G : Ft} {rest : List Expr} {pos} (ha : PB X a F) (hb : PW X (.BoolOp .And (b :: rest) pos) (tT (wd X) G)) : PW X (.BoolOp .And (a :: b :: rest) pos) (tT (wd X) (andB F G)) :=
  pw_imp (pw_and ha hb) fun σ H Q ⟨ρ, loc, Hf, z, ρ', s, hF, k⟩ => by
    unfold andB at hF
    obtain ⟨⟨z1, ρ1⟩, h1, hF⟩ := Option.bind_eq_some_iff.mp hF
    refine ⟨ρ, loc, Hf, z1, ρ1, s, h1, fun H1 Hf1 g1 s1 => ?_⟩
    cases z1 with
    | true =>
      simp only [if_true] at hF ⊢
      exact ⟨ρ1, loc, Hf1, z, ρ', s1, hF, fun H2 Hf2 g2 s2 => k H2 Hf2 (g1.trans g2) s2⟩
    | false =>
      simp only [Bool.false_eq_true, if_false] at hF ⊢
      cases hF
      exact k H1 Hf1 g1 s1
theorem pb_or {F G : Ft} {rest : List Expr} {pos} (ha : PB X a F) (hb : PW X (.BoolOp .Or (b :: rest) pos) (tT (wd X) G)) : PW X (.BoolOp .Or (a :: b :: rest) pos) (tT (wd X) (orB F G)) :=
  pw_imp (pw_or ha hb) fun σ H Q ⟨ρ, loc, Hf, z, ρ', s, hF, k⟩ => by
    unfold orB at hF
    obtain ⟨⟨z1, ρ1⟩, h1, hF⟩ := Option.bind_eq_some_iff.mp hF
    refine ⟨ρ, loc, Hf, z1, ρ1, s, h1, fun H1 Hf1 g1 s1 => ?_⟩
    cases z1 with
    | false =>
      simp only [Bool.false_eq_true, if_false] at hF ⊢
      exact ⟨ρ1, loc, Hf1, z, ρ', s1, hF, fun H2 Hf2 g2 s2 => k H2 Hf2 (g1.trans g2) s2⟩
    | true =>
      simp only [if_true] at hF ⊢
      cases hF
      exact k H1 Hf1 g1 s1
theorem pb_not {F : Ft} {pos} (ha : PB X a F) : PB X (.UnaryOp .Not a pos) (notB F) := pt_imp (pt_not ha) fun σ H Q ⟨ρ, loc, Hf, z, ρ', s, hF, k⟩ => by
  obtain ⟨⟨z1, ρ1⟩, h1, hF⟩ := Option.map_eq_some_iff.mp hF
  cases hF
  exact ⟨ρ, loc, Hf, z1, _, s, h1, k⟩
/-- .. as values: bools all but the last -/
def andD (F G : Fd) : Fd := fun ρ => (F ρ).bind fun x => match x.1 with
  | .bl true => G x.2
  | .bl false => some (.bl false, x.2)
  | _ => none
def orD (F G : Fd) : Fd := fun ρ => (F ρ).bind fun x => match x.1 with
  | .bl false => G x.2
  | .bl true => some (.bl true, x.2)
  | _ => none
def notD (F : Fd) : Fd := fun ρ => (F ρ).bind fun x => match x.1 with
  | .bl z => some (.bl (!z), x.2)
  | _ => none
theorem pd_one {F : Fd} {op pos} (h : PD X a F) : PD X (.BoolOp op [a] pos) F := pe_one h
theorem pd_and {F G : Fd} {rest : List Expr} {pos} (ha : PD X a F) (hb : PD X (.BoolOp .And (b :: rest) pos) G) : PD X (.BoolOp .And (a :: b :: rest) pos) (andD F G) :=
  pe_imp (pe_and ha hb) fun σ H Q ⟨ρ, loc, Hf, z, ρ', s, hF, k⟩ => by
    unfold andD at hF
    obtain ⟨⟨z1, ρ1⟩, h1, hF⟩ := Option.bind_eq_some_iff.mp hF
    refine ⟨ρ, loc, Hf, z1, ρ1, s, h1, fun v H1 Hf1 g1 s1 o1 => ?_⟩
    dsimp only at hF
    split at hF
    · cases o1
      refine ⟨true, rfl, ?_⟩
      rw [if_pos rfl]
      exact ⟨ρ1, loc, Hf1, z, ρ', s1, hF, fun u H2 Hf2 g2 s2 o2 => k u H2 Hf2 (g1.trans g2) s2 o2⟩
    · cases o1
      cases hF
      refine ⟨false, rfl, ?_⟩
      rw [if_neg (by decide)]
      exact k _ H1 Hf1 g1 s1 (.bl _)
    · cases hF
theorem pd_or {F G : Fd} {rest : List Expr} {pos} (ha : PD X a F) (hb : PD X (.BoolOp .Or (b :: rest) pos) G) : PD X (.BoolOp .Or (a :: b :: rest) pos) (orD F G) :=
  pe_imp (pe_or ha hb) fun σ H Q ⟨ρ, loc, Hf, z, ρ', s, hF, k⟩ => by
    unfold orD at hF
    obtain ⟨⟨z1, ρ1⟩, h1, hF⟩ := Option.bind_eq_some_iff.mp hF
    refine ⟨ρ, loc, Hf, z1, ρ1, s, h1, fun v H1 Hf1 g1 s1 o1 => ?_⟩
    dsimp only at hF
    split at hF
    · cases o1
      refine ⟨false, rfl, ?_⟩
      rw [if_neg (by decide)]
      exact ⟨ρ1, loc, Hf1, z, ρ', s1, hF, fun u H2 Hf2 g2 s2 o2 => k u H2 Hf2 (g1.trans g2) s2 o2⟩
    · cases o1
      cases hF
      refine ⟨true, rfl, ?_⟩
      rw [if_pos rfl]
      exact k _ H1 Hf1 g1 s1 (.bl _)
    · cases hF
theorem pd_not {F : Fd} {pos} (ha : PD X a F) : PD X (.UnaryOp .Not a pos) (notD F) := pe_imp (pe_not ha) fun σ H Q ⟨ρ, loc, Hf, z, ρ', s, hF, k⟩ => by
  unfold notD at hF
  obtain ⟨⟨z1, ρ1⟩, h1, hF⟩ := Option.bind_eq_some_iff.mp hF
  refine ⟨ρ, loc, Hf, z1, ρ1, s, h1, fun v H1 Hf1 g1 s1 o1 => ?_⟩
  dsimp only at hF
  split at hF
  · cases o1
    cases hF
    exact ⟨_, rfl, k _ H1 Hf1 g1 s1 (.bl _)⟩
  · cases hF
/-- truth of a value -/
def truD : D → Option Bool
  | .non => some false
  | .bl b => some b
  | .int i => some (i != 0)
  | .str y => if y.length ≤ sizeLine then some ((y.length : Int) != 0) else none
  | .tup xs => some (!xs.isEmpty)
  | .lst xs => some (!xs.isEmpty)
  | _ => none
theorem isEmpty_rp {W : Wd} {H : Hp} {vs : List V} {ds : List D} (h : RpL W H vs ds) : vs.isEmpty = ds.isEmpty := by cases h <;> rfl
theorem truV_of {W : Wd} {H Hf : Hp} {v : V} {d : D} {b : Bool} (h : RpB W H Hf v d) (hs : Sub Hf H) (e : truD d = some b) : TruV W.K v H b := by
  cases d with
  | non => cases h; cases e; rfl
  | bl b => cases h; cases e; rfl
  | int i => cases h; cases e; rfl
  | str x =>
    cases h
    unfold truD at e
    dsimp only at e
    split at e
    · rename_i c; cases e; exact ⟨c, rfl⟩
    · cases e
  | tup xs =>
    cases e
    cases h with
    | tup h1 _ r => exact .inr (.inl ⟨_, sqT_fz (hs _ _ h1), by rw [isEmpty_rp r]⟩)
  | lst xs =>
    cases e
    obtain ⟨p, vs, rfl, h1, r⟩ := h
    exact .inl ⟨_, .of h1, by rw [isEmpty_rp r]⟩
  | dct _ _ => cases e
  | obj _ _ => cases e
  | scr _ => cases e
def truF (F : Fr) : Ft := fun ρ => (F ρ).bind fun x => (deref x.2 x.1).bind fun d => (truD d).map fun z => (z, x.2)
theorem pb_tru {F : Fr} (ha : PR X a F) (he : ∀ whole, isTrue a X.env whole = (do let v ← whole; standAt a.pos; holding [v] (truthy v))) : PB X a (truF F) :=
  pt_imp (pt_truth ha he) fun σ H Q ⟨ρ, loc, Hf, z, ρ', s, hF, k⟩ => by
    unfold truF at hF
    obtain ⟨⟨z1, ρ1⟩, h1, hF⟩ := Option.bind_eq_some_iff.mp hF
    obtain ⟨d, h2, hF⟩ := Option.bind_eq_some_iff.mp hF
    obtain ⟨w, h3, hF⟩ := Option.map_eq_some_iff.mp hF
    cases hF
    exact ⟨ρ, loc, Hf, z1, _, s, h1, fun v H1 Hf1 g1 s1 o1 => ⟨_, truV_of (deref_b s1 o1 h2) s1.sub h3, k H1 Hf1 g1 s1⟩⟩
def iteF (T : Ft) (F G : Fe) : Fe := fun ρ => (T ρ).bind fun x => if x.1 = true then F x.2 else G x.2
theorem px_ite {T : Ft} {F G : Fe} {pos} (hc : PB X c T) (ha : PX X a F) (hb : PX X b G) : PX X (.IfExp c a b pos) (iteF T F G) := pe_imp (pe_ifExp hc ha hb) fun σ H Q ⟨ρ, loc, Hf, z, ρ', s, hF, k⟩ => by
  unfold iteF at hF
  obtain ⟨⟨z1, ρ1⟩, h1, hF⟩ := Option.bind_eq_some_iff.mp hF
  refine ⟨ρ, loc, Hf, z1, ρ1, s, h1, fun H1 Hf1 g1 s1 => ?_⟩
  cases z1 with
  | true =>
    simp only [if_true] at hF ⊢
    exact ⟨ρ1, loc, Hf1, z, ρ', s1, hF, fun u H2 Hf2 g2 s2 o2 => k u H2 Hf2 (g1.trans g2) s2 (o2.back g1.there)⟩
  | false =>
    simp only [Bool.false_eq_true, if_false] at hF ⊢
    exact ⟨ρ1, loc, Hf1, z, ρ', s1, hF, fun u H2 Hf2 g2 s2 o2 => k u H2 Hf2 (g1.trans g2) s2 (o2.back g1.there)⟩
end
end Ev
/-! text Ev4 -/
set_option Elab.async false
set_option linter.all false
set_option maxRecDepth 100000
set_option maxHeartbeats 4000000
namespace Ev
open PySem L2

/-! ### the shape of an argument list -/
def noStar : Expr → Bool
  | .Starred _ _ => false
  | _ => true
theorem starEach_cons {e : Expr} {es : List Expr} {env : PySem.Env} (h : noStar e = true) : starEach (e :: es) env = (false, eval e env) :: starEach es env := by
  cases e <;> first | rfl | cases h
theorem starEach_plain {env : PySem.Env} (pos : Pos) : ∀ {es : List Expr}, es.all noStar = true → (backTo pos (starEach es env)).any (·.1) = false
  | [], _ => rfl
  | e :: es, h => by
    rw [List.all_cons, Bool.and_eq_true] at h
    rw [starEach_cons h.1]
    show (false || (backTo pos (starEach es env)).any (·.1)) = false
    rw [starEach_plain pos h.2]; rfl

/-! ### tables -/
def findK (kvs : List (D × D)) (k : Key) : Option D := (kvs.find? fun p => decide (keyD p.1 = some k)).map (·.2)
def isTK (d : D) (k : List Key) : Bool := match d with
  | .tup ds => decide (keysD ds = some k)
  | _ => false
def findT (kvs : List (D × D)) (k : List Key) : Option D := (kvs.find? fun p => isTK p.1 k).map (·.2)
section
variable {W : Wd} {H Hf : Hp}
theorem RpK.find {k : Key} : ∀ {ks : List (Key × V)} {ds : List (D × D)}, RpK W H ks ds →
    (∀ d, findK ds k = some d → ∃ v, valV ks k = some v ∧ Rp W H v d) ∧ (findK ds k = none → valV ks k = none)
  | _, _, .nil => ⟨fun d e => (by cases e), fun _ => rfl⟩
  | _, _, .cons (k := k') (kd := kd) hk r t => by
    obtain ⟨i1, i2⟩ := RpK.find (k := k) t
    by_cases e : k' = k
    · subst e
      have e1 : ∀ v vs, valV ((k', v) :: vs) k' = some v := fun v vs => valV_pos (p := (k', v)) rfl
      refine ⟨fun d h => ?_, fun h => ?_⟩
      · simp only [findK, List.find?_cons, hk, decide_true, Option.map_some, Option.some.injEq] at h
        subst h
        exact ⟨_, e1 _ _, r⟩
      · simp [findK, List.find?_cons, hk] at h
    · have ne : (decide (keyD kd = some k)) = false := by rw [hk]; simpa using e
      have e1 : ∀ v vs, valV ((k', v) :: vs) k = valV vs k := fun v vs => valV_neg (p := (k', v)) e
      refine ⟨fun d h => ?_, fun h => ?_⟩
      · rw [e1]
        refine i1 d ?_
        simpa [findK, List.find?_cons, ne] using h
      · rw [e1]
        refine i2 ?_
        simpa [findK, List.find?_cons, ne] using h
theorem RpT.find {k : List Key} : ∀ {ks : List (List Key × V)} {ds : List (D × D)}, RpT W H ks ds →
    (∀ d, findT ds k = some d → ∃ v, valV ks k = some v ∧ Rp W H v d) ∧ (findT ds k = none → valV ks k = none)
  | _, _, .nil => ⟨fun d e => (by cases e), fun _ => rfl⟩
  | _, _, .cons (k := k') (kd := kd) hk r t => by
    obtain ⟨i1, i2⟩ := RpT.find (k := k) t
    by_cases e : k' = k
    · subst e
      have e1 : ∀ v vs, valV ((k', v) :: vs) k' = some v := fun v vs => valV_pos (p := (k', v)) rfl
      have it : isTK (.tup kd) k' = true := by simp [isTK, hk]
      refine ⟨fun d h => ?_, fun h => ?_⟩
      · simp only [findT, List.find?_cons, it, Option.map_some, Option.some.injEq] at h
        subst h
        exact ⟨_, e1 _ _, r⟩
      · simp [findT, List.find?_cons, it] at h
    · have it : isTK (.tup kd) k = false := by simp [isTK, hk, e]
      have e1 : ∀ v vs, valV ((k', v) :: vs) k = valV vs k := fun v vs => valV_neg (p := (k', v)) e
      refine ⟨fun d h => ?_, fun h => ?_⟩
      · rw [e1]
        refine i1 d ?_
        simpa [findT, List.find?_cons, it] using h
      · rw [e1]
        refine i2 ?_
        simpa [findT, List.find?_cons, it] using h
theorem keyD_rp {v : V} {d : D} {k : Key} (h : Rp W H v d) (e : keyD d = some k) : v = kV k := by
  cases h <;> first | (cases e; rfl) | cases e
theorem keysD_rp : ∀ {vs : List V} {ds : List D} {ks : List Key}, RpL W H vs ds → keysD ds = some ks → vs = ks.map kV
  | _, _, _, .nil, e => by cases e; rfl
  | _, _, _, .cons r t, e => by
    unfold keysD at e
    obtain ⟨k, h1, e⟩ := Option.bind_eq_some_iff.mp e
    obtain ⟨ks, h2, e⟩ := Option.map_eq_some_iff.mp e
    subst e
    rw [keyD_rp r h1, keysD_rp t h2]; rfl
end
/-- what a dict holds at a key: not told (the wrong kind of key), nothing, something -/
def lookD (t : Bool) (kvs : List (D × D)) (kd : D) : Option (Option D) :=
  match t, kd with
  | true, .tup ds => (keysD ds).map fun k => findT kvs k
  | false, kd => (keyD kd).map fun k => findK kvs k
  | _, _ => none
theorem lookD_ok {W : Wd} {H Hf : Hp} (hs : Sub Hf H) {v u : V} {t : Bool} {kvs : List (D × D)} {kd : D} {o : Option D} (hd : RpB W H Hf v (.dct t kvs)) (hk : Rp W H u kd) (e : lookD t kvs kd = some o) :
    ∃ a ov, v = .ref a ∧ DGetF H a u ov ∧ (∀ d, o = some d → ∃ w, ov = some w ∧ Rp W Hf w d) ∧ (o = none → ov = none) := by
  unfold lookD at e
  split at e
  · obtain ⟨a, ks, rfl, h1, r⟩ := hd
    obtain ⟨k, q1, q2⟩ := Option.map_eq_some_iff.mp e
    cases hk with
    | tup ht hn rt =>
      rename_i b ob vs
      have hv := keysD_rp rt q1
      obtain ⟨f1, f2⟩ := r.find (k := k)
      exact ⟨a, _, rfl, .inr ⟨ks, k, b, ob, .inl h1, rfl, by rw [ht, hv], rfl⟩, fun d q => f1 d (q2.trans q), fun q => f2 (q2.trans q)⟩
  · obtain ⟨a, ks, rfl, h1, r⟩ := hd
    obtain ⟨k, q1, q2⟩ := Option.map_eq_some_iff.mp e
    obtain ⟨f1, f2⟩ := r.find (k := k)
    rw [keyD_rp hk q1]
    exact ⟨a, _, rfl, .inl (DGet.k h1), fun d q => f1 d (q2.trans q), fun q => f2 (q2.trans q)⟩
  · cases e
end Ev
/-! text Ev5 -/
set_option Elab.async false
set_option linter.all false
set_option maxRecDepth 100000
set_option maxHeartbeats 4000000
namespace Ev
open PySem L2

/-! ### subscripts -/
def plainIx : Expr → Bool
  | .Slice _ _ _ _ => false
  | _ => true
theorem plainIx_ok {b : Expr} (h : plainIx b = true) : PlainIx b := by
  intro o i
  cases b <;> first | rfl | cases h
theorem atI_rp {W : Wd} {H : Hp} {vs : List V} {ds : List D} {i : Int} {d : D} (r : RpL W H vs ds) (h : atI ds i = some d) : ∃ v, atI vs i = some v ∧ Rp W H v d := by
  unfold atI at h ⊢
  rw [r.length]
  obtain ⟨j, h1, h2⟩ := Option.bind_eq_some_iff.mp h
  obtain ⟨v, h3, h4⟩ := r.get h2
  exact ⟨v, by rw [h1]; exact h3, h4⟩
def ixD : D → D → Option Rv
  | .lst xs, .int i => (atI xs i).map .imm
  | .tup xs, .int i => (atI xs i).map .imm
  | .str z, .int i => if z.length ≤ sizeLine then (atI z.cps.toList i).map fun c => .imm (.str ⟨#[c]⟩) else none
  | .dct t kvs, k => (lookD t kvs k).bind fun o => o.map .imm
  | _, _ => none
def rDG : R2 := fun x y H Q => ∃ a v, x = .ref a ∧ DGetF H a y (some v) ∧ Q v H
def isDct : D → Bool
  | .dct _ _ => true
  | _ => false
def ixN' (d e : D) : Option Rv := if isDct d then none else ixD d e
def ixK (d e : D) : Option Rv := if isDct d then ixD d e else none
theorem dop_ix {W : Wd} : DOp W (rIx W.K) ixN' := fun x y d e z H Hf Q s a b q k => by
  unfold ixN' at q
  split at q
  · cases q
  · unfold ixD at q
    split at q
    · obtain ⟨w, q1, q2⟩ := Option.map_eq_some_iff.mp q
      subst q2
      obtain ⟨p, vs, rfl, h1, r⟩ := a
      cases b
      obtain ⟨v, h2, rv⟩ := atI_rp r q1
      exact .inl ⟨p, vs, _, v, rfl, rfl, .of h1, h2, k v H Hf (.refl s) rv⟩
    · obtain ⟨w, q1, q2⟩ := Option.map_eq_some_iff.mp q
      subst q2
      cases a with
      | tup h1 _ r =>
      cases b
      obtain ⟨v, h2, rv⟩ := atI_rp r q1
      exact .inr (.inl ⟨_, _, _, v, rfl, rfl, sqT_fz (s _ _ h1), h2, k v H Hf (.refl s) rv⟩)
    · split at q
      · rename_i hz
        obtain ⟨w, q1, q2⟩ := Option.map_eq_some_iff.mp q
        subst q2
        cases a; cases b
        exact .inr (.inr ⟨_, _, w, rfl, rfl, hz, q1, k _ H Hf (.refl s) (.str _)⟩)
      · cases q
    · simp_all [isDct]
    · cases q
theorem dop_dget {W : Wd} : DOp W rDG ixK := fun x y d e z H Hf Q s a b q k => by
  unfold ixK at q
  split at q
  · unfold ixD at q
    split at q
    · simp_all [isDct]
    · simp_all [isDct]
    · simp_all [isDct]
    · obtain ⟨o, q1, q2⟩ := Option.bind_eq_some_iff.mp q
      obtain ⟨w, q3, q4⟩ := Option.map_eq_some_iff.mp q2
      subst q4
      obtain ⟨p, ov, rfl, g, f1, _⟩ := lookD_ok s a (b.up s) q1
      obtain ⟨v, h1, rv⟩ := f1 w q3
      subst h1
      exact ⟨p, v, rfl, g, k v H Hf (.refl s) rv⟩
    · cases q
  · cases q

section
variable {X : Cx} {e a b c : Expr}
theorem px_ix {FA FB : Fr} {pos} (hu : X.A.units + 1 < cLine) (ha : PR X a FA) (hb : PR X b FB) (hp : plainIx b = true) : PX X (.Subscript a b pos) (binF ixD FA FB) := by
  have p1 := pe_ix (pos := pos) (ix_seq (X := X)) ha hb (plainIx_ok hp)
  have p2 := pe_dgetF (pos := pos) hu ha hb (plainIx_ok hp)
  refine pe_imp (pe_or2 p1 p2) fun σ H Q h => ?_
  have h' := h
  obtain ⟨ρ, loc, Hf, z, ρ', s, hF, k⟩ := h'
  obtain ⟨x, ρ1, y, d, e, h1, h2, h3, h4, h5⟩ := binF_some hF
  by_cases hd : isDct d = true
  · refine .inr (read2 (dop_dget (W := wd X)) ⟨ρ, loc, Hf, z, ρ', s, ?_, k⟩)
    unfold binF
    simp only [h1, h2, h3, h4, Option.bind_some, ixK, hd, if_true, h5, Option.map_some]
  · refine .inl (read2 (dop_ix (W := wd X)) ⟨ρ, loc, Hf, z, ρ', s, ?_, k⟩)
    unfold binF
    simp only [h1, h2, h3, h4, Option.bind_some, ixN', hd, h5, Option.map_some]
    rfl

/-! ### in -/
def eqF (d e : D) : Option Bool := match flat d, flat e with
  | some a, some b => some (eqV a b)
  | _, _ => none
def anyF (d : D) : List D → Option Bool
  | [] => some false
  | e :: es => (eqF e d).bind fun b => (anyF d es).map fun c => b || c
def occ (i j : Str) : Bool := !(Builtin.Str.occurrences j i 0 j.length 1).isEmpty
def anyD (d : D) : List D → Option Bool
  | [] => some false
  | e :: es => if (py e).canLay0 && (py d).canLay0 then (anyD d es).map fun c => PyData.eqv (py e) (py d) || c else none
def inD (d e : D) : Option Bool := match e with
  | .lst xs => match flat d with
    | some _ => anyF d xs
    | none => if SeqAt.shaped (py d) && SeqAt.shaped (py (.lst xs)) then some ((pyL xs).any fun z => PyData.eqv z (py d)) else none
  | .tup xs => match flat d with
    | some _ => anyF d xs
    | none => none
  | .str z => match d with
    | .str x => if x.cps.size = 1 then some (decide (x.cps.getD 0 0 ∈ z.cps.toList)) else some (occ x z)
    | _ => none
  | .dct t kvs => (lookD t kvs d).map (·.isSome)
  | _ => none
def ninD (d e : D) : Option Bool := (inD d e).map (!·)
theorem anyF_ok {W : Wd} {H : Hp} {x : V} {d : D} {u : V} (hu : flat d = some u) : ∀ {vs : List V} {es : List D} {b : Bool}, RpL W H vs es → anyF d es = some b → vs.all flatV = true ∧ inV u vs = b
  | _, _, b, .nil, e => by cases e; exact ⟨rfl, rfl⟩
  | _, _, b, .cons (v := v) (d := e') r t, e => by
    unfold anyF at e
    obtain ⟨b1, e1, e⟩ := Option.bind_eq_some_iff.mp e
    obtain ⟨b2, e2, e⟩ := Option.map_eq_some_iff.mp e
    subst e
    obtain ⟨i1, i2⟩ := anyF_ok (x := x) hu t e2
    unfold eqF at e1
    rw [hu] at e1
    cases hf : flat e' with
    | none => rw [hf] at e1; cases e1
    | some w =>
      rw [hf] at e1
      cases e1
      have hv := r.flat hf
      subst hv
      have fl : flatV v = true := by
        cases e' <;> (first | cases hf; done | skip) <;> (cases hf; rfl)
      refine ⟨by rw [List.all_cons, fl, i1]; rfl, ?_⟩
      unfold inV at i2 ⊢
      rw [List.any_cons, i2]
theorem flat_flatV {d : D} {u : V} (h : flat d = some u) : flatV u = true := by
  cases d <;> first | (cases h; rfl) | cases h
/-- what a sign is -/
theorem one_sign {x : Str} (h : x.cps.size = 1) : x = ⟨#[x.cps.getD 0 0]⟩ := by
  obtain ⟨c⟩ := x
  obtain ⟨l⟩ := c
  match l, h with
  | [y], _ => rfl
def rInX (K : PySem.W.Frag) : R2 := fun x y H Q => rIn K false x y H Q ∨ ((∃ (c : Nat) (z : Str), x = .str ⟨#[c]⟩ ∧ y = .str z ∧ Q (.bl (decide (c ∈ z.cps.toList))) H) ∨ ((∃ i j, x = .str i ∧ y = .str j ∧ Q (.bl (!(Builtin.Str.occurrences j i 0 j.length 1).isEmpty)) H) ∨ rInD K x y H Q))
def rNinX (K : PySem.W.Frag) : R2 := fun x y H Q => rIn K true x y H Q ∨ ((∃ (c : Nat) (z : Str), x = .str ⟨#[c]⟩ ∧ y = .str z ∧ Q (.bl (!decide (c ∈ z.cps.toList))) H) ∨ ((∃ i j, x = .str i ∧ y = .str j ∧ Q (.bl (!(!(Builtin.Str.occurrences j i 0 j.length 1).isEmpty))) H) ∨ rNotInD K x y H Q))
theorem op_inX (hu : X.A.units + 65 < cLine) : OpR X (compareOp .In) (rInX X.K) := op_in_seq.or (op_in_sign.or (op_in_str.or (op_inD hu)))
theorem op_ninX (hu : X.A.units + 65 < cLine) : OpR X (compareOp .NotIn) (rNinX X.K) := op_notIn_seq.or (op_notIn_sign.or (op_notIn_str.or (op_notInD hu)))
def inN (d e : D) : Option Bool := if isDct e then none else inD d e
def inK (d e : D) : Option Bool := if isDct e then inD d e else none
theorem in_cases {W : Wd} {x y : V} {d e : D} {z : Bool} {H Hf : Hp} {R : Prop} (s : Sub Hf H) (a : RpB W H Hf x d) (b : RpB W H Hf y e) (q : inN d e = some z)
    (k1 : ∀ p xs, y = .ref p → (SqL W.K H p xs ∨ SqT W.K H p xs) → flatV x = true → xs.all flatV = true → inV x xs = z → R)
    (k2 : ∀ (c : Nat) (t : Str), x = .str ⟨#[c]⟩ → y = .str t → decide (c ∈ t.cps.toList) = z → R)
    (k3 : ∀ i j, x = .str i → y = .str j → occ i j = z → R)
    (k4 : ∀ d' ds, Dp W.K H x d' → Dp W.K H y (.list ds) → SeqAt.shaped d' = true → SeqAt.shaped (.list ds) = true → (ds.any fun t => PyData.eqv t d') = z → R) : R := by
  unfold inN at q
  split at q
  · cases q
  · unfold inD at q
    split at q
    · obtain ⟨p, vs, rfl, h1, r⟩ := b
      split at q
      · rename_i u hu
        obtain ⟨i1, i2⟩ := anyF_ok (x := x) hu r q
        have hx := a.flat hu
        subst hx
        exact k1 p vs rfl (.inl (.of h1)) (flat_flatV hu) i1 i2
      · split at q
        · rename_i hc
          cases q
          rw [Bool.and_eq_true] at hc
          have hl : RpB W H Hf (.ref p) (.lst _) := ⟨p, vs, rfl, h1, r⟩
          exact k4 _ _ ((a.up s).dp (SeqAt.canLay_of_shaped hc.1)) ((hl.up s).dp (SeqAt.canLay_of_shaped hc.2)) hc.1 hc.2 rfl
        · cases q
    · cases b with
      | tup h1 _ r =>
      split at q
      · rename_i u hu
        obtain ⟨i1, i2⟩ := anyF_ok (x := x) hu r q
        have hx := a.flat hu
        subst hx
        exact k1 _ _ rfl (.inr (sqT_fz (s _ _ h1))) (flat_flatV hu) i1 i2
      · cases q
    · split at q
      · split at q
        · rename_i h1
          cases q
          cases a; cases b
          exact k2 _ _ (by rw [← one_sign h1]) rfl rfl
        · cases q
          cases a; cases b
          exact k3 _ _ rfl rfl rfl
      · cases q
    · simp_all [isDct]
    · cases q
theorem dop_in {W : Wd} : DOpB W (rInX W.K) inN := fun x y d e z H Hf Q s a b q k =>
  in_cases s a b q (fun p xs h1 h2 h3 h4 h5 => .inl ⟨p, xs, h1, h2, h3, h4, by show Q (.bl (if false = true then _ else _)) H; rw [if_neg (by decide), h5]; exact k⟩)
    (fun c t h1 h2 h3 => .inr (.inl ⟨c, t, h1, h2, by rw [h3]; exact k⟩))
    (fun i j h1 h2 h3 => .inr (.inr (.inl ⟨i, j, h1, h2, by unfold occ at h3; rw [h3]; exact k⟩)))
    (fun d' ds h1 h2 h3 h4 h5 => .inr (.inr (.inr ⟨d', ds, h1, h2, h3, h4, by rw [h5]; exact k⟩)))
theorem dop_nin {W : Wd} : DOpB W (rNinX W.K) (fun d e => (inN d e).map (!·)) := fun x y d e z H Hf Q s a b q k => by
  obtain ⟨z', q1, q2⟩ := Option.map_eq_some_iff.mp q
  subst q2
  exact in_cases s a b q1 (fun p xs h1 h2 h3 h4 h5 => .inl ⟨p, xs, h1, h2, h3, h4, by show Q (.bl (if true = true then _ else _)) H; rw [if_pos rfl, h5]; exact k⟩)
    (fun c t h1 h2 h3 => .inr (.inl ⟨c, t, h1, h2, by rw [h3]; exact k⟩))
    (fun i j h1 h2 h3 => .inr (.inr (.inl ⟨i, j, h1, h2, by unfold occ at h3; rw [h3]; exact k⟩)))
    (fun d' ds h1 h2 h3 h4 h5 => .inr (.inr (.inr ⟨d', ds, h1, h2, h3, h4, by rw [h5]; exact k⟩)))
end
end Ev
/-! text Ev6 -/
set_option Elab.async false
set_option linter.all false
set_option maxRecDepth 100000
set_option maxHeartbeats 4000000
namespace Ev
open PySem L2

section
variable {X : Cx} {e a b c : Expr}
/-! ### in, not in, with dicts -/
def rDIn : R2 := fun y x H Q => ∃ a o, x = .ref a ∧ DGetF H a y o ∧ Q (.bl o.isSome) H
def rDNotIn : R2 := fun y x H Q => ∃ a o, x = .ref a ∧ DGetF H a y o ∧ Q (.bl (!o.isSome)) H
theorem look_in {W : Wd} {x y : V} {d e : D} {z : Bool} {H Hf : Hp} (s : Sub Hf H) (a : RpB W H Hf x d) (b : RpB W H Hf y e) (q : inK d e = some z) : ∃ p o, y = .ref p ∧ DGetF H p x o ∧ o.isSome = z := by
  unfold inK at q
  split at q
  · unfold inD at q
    split at q
    · simp_all [isDct]
    · simp_all [isDct]
    · simp_all [isDct]
    · obtain ⟨o, q1, q2⟩ := Option.map_eq_some_iff.mp q
      obtain ⟨p, ov, h1, g, f1, f2⟩ := lookD_ok s b (a.up s) q1
      refine ⟨p, ov, h1, g, ?_⟩
      cases o with
      | none => rw [f2 rfl]; exact q2
      | some w => obtain ⟨v, h3, _⟩ := f1 w rfl; rw [h3]; exact q2
    · cases q
  · cases q
theorem dop_din {W : Wd} : DOpB W rDIn inK := fun x y d e z H Hf Q s a b q k => by
  obtain ⟨p, o, h1, g, h2⟩ := look_in s a b q
  exact ⟨p, o, h1, g, by rw [h2]; exact k⟩
theorem dop_dnin {W : Wd} : DOpB W rDNotIn (fun d e => (inK d e).map (!·)) := fun x y d e z H Hf Q s a b q k => by
  obtain ⟨z', q1, q2⟩ := Option.map_eq_some_iff.mp q
  subst q2
  obtain ⟨p, o, h1, g, h2⟩ := look_in s a b q1
  exact ⟨p, o, h1, g, by rw [h2]; exact k⟩
/-- either side of a comparison -/
theorem side {f g h : D → D → Option Bool} (hp : D → Bool) (h1 : ∀ d e, hp e = true → f d e = g d e) (h2 : ∀ d e, hp e = false → f d e = h d e) {FA FB : Fr} {ρ ρ' : Env} {z : Bool} (q : binB f FA FB ρ = some (z, ρ')) :
    binB g FA FB ρ = some (z, ρ') ∨ binB h FA FB ρ = some (z, ρ') := by
  obtain ⟨x, ρ1, y, d, e, q1, q2, q3, q4, q5⟩ := binB_some q
  cases hc : hp e with
  | true =>
    refine .inl ?_
    unfold binB
    simp only [q1, q2, q3, q4, Option.bind_some]
    rw [← h1 d e hc, q5]; rfl
  | false =>
    refine .inr ?_
    unfold binB
    simp only [q1, q2, q3, q4, Option.bind_some]
    rw [← h2 d e hc, q5]; rfl
theorem in_h1 (d e : D) (h : isDct e = true) : inD d e = inK d e := by unfold inK; rw [if_pos h]
theorem in_h2 (d e : D) (h : isDct e = false) : inD d e = inN d e := by unfold inN; rw [if_neg (by rw [h]; decide)]
theorem nin_h1 (d e : D) (h : isDct e = true) : ninD d e = (inK d e).map (!·) := by unfold ninD; rw [in_h1 d e h]
theorem nin_h2 (d e : D) (h : isDct e = false) : ninD d e = (inN d e).map (!·) := by unfold ninD; rw [in_h2 d e h]
theorem tB_or {t u : TE} {σ : St} {H : Hp} {Q : Bool → Hp → Prop} : tB (fun σ H Q => t σ H Q ∨ u σ H Q) σ H Q ↔ tB t σ H Q ∨ tB u σ H Q := Iff.rfl
theorem pt_or2 {t u : TT} (h : PT X e t) (k : PT X e u) : PT X e (fun σ H Q => t σ H Q ∨ u σ H Q) := ⟨fun pins s σ H Q I w => w.elim (h.run pins s σ H Q I) (k.run pins s σ H Q I)⟩
theorem pb_in {FA FB : Fr} {pos} (hu : X.A.units + 65 < cLine) (ha : PR X a FA) (hb : PR X b FB) (hm : behindInMarks .In b = false) : PB X (.Compare a [.In] [b] pos) (binB inD FA FB) := by
  have p1 : PT X (.Compare a [.In] [b] pos) (tTest (tOp rDIn (tR (wd X) FA) (tR (wd X) FB))) := pt_cmp (pc_dinF (by omega) ha hb) hm
  have p2 := pt_cmpR (pos := pos) (op_inX hu) ha hb hm
  refine pt_imp (pt_or2 p1 p2) fun σ H Q ⟨ρ, loc, Hf, z, ρ', s, hF, k⟩ => ?_
  rcases side isDct in_h1 in_h2 hF with q | q
  · exact .inl (read2B (dop_din (W := wd X)) ⟨ρ, loc, Hf, z, ρ', s, q, k⟩)
  · exact .inr (read2B (dop_in (W := wd X)) ⟨ρ, loc, Hf, z, ρ', s, q, k⟩)
theorem pb_nin {FA FB : Fr} {pos} (hu : X.A.units + 65 < cLine) (ha : PR X a FA) (hb : PR X b FB) (hm : behindInMarks .NotIn b = false) : PB X (.Compare a [.NotIn] [b] pos) (binB ninD FA FB) := by
  have p1 : PT X (.Compare a [.NotIn] [b] pos) (tTest (tOp rDNotIn (tR (wd X) FA) (tR (wd X) FB))) := pt_cmp (pc_dnotinF (by omega) ha hb) hm
  have p2 := pt_cmpR (pos := pos) (op_ninX hu) ha hb hm
  refine pt_imp (pt_or2 p1 p2) fun σ H Q ⟨ρ, loc, Hf, z, ρ', s, hF, k⟩ => ?_
  rcases side isDct nin_h1 nin_h2 hF with q | q
  · exact .inl (read2B (dop_dnin (W := wd X)) ⟨ρ, loc, Hf, z, ρ', s, q, k⟩)
  · exact .inr (read2B (dop_nin (W := wd X)) ⟨ρ, loc, Hf, z, ρ', s, q, k⟩)
theorem boolF_side {f g h : Ft} {ρ ρ' : Env} {z : D} (q : boolF f ρ = some (z, ρ')) (hs : ∀ b ρ', f ρ = some (b, ρ') → g ρ = some (b, ρ') ∨ h ρ = some (b, ρ')) : boolF g ρ = some (z, ρ') ∨ boolF h ρ = some (z, ρ') := by
  obtain ⟨⟨b, ρ1⟩, q1, q2⟩ := Option.map_eq_some_iff.mp q
  rcases hs b ρ1 q1 with q3 | q3
  · exact .inl (Option.map_eq_some_iff.mpr ⟨_, q3, q2⟩)
  · exact .inr (Option.map_eq_some_iff.mpr ⟨_, q3, q2⟩)
theorem pd_in {FA FB : Fr} {pos} (hu : X.A.units + 65 < cLine) (ha : PR X a FA) (hb : PR X b FB) (hm : behindInMarks .In b = false) : PD X (.Compare a [.In] [b] pos) (boolF (binB inD FA FB)) := by
  have p1 : PE X (.Compare a [.In] [b] pos) (tOp rDIn (tR (wd X) FA) (tR (wd X) FB)) := pe_cmp (pc_dinF (by omega) ha hb) hm
  have p2 := pe_cmpR (pos := pos) (op_inX hu) ha hb hm
  refine pe_imp (pe_or2 p1 p2) fun σ H Q ⟨ρ, loc, Hf, z, ρ', s, hF, k⟩ => ?_
  rcases boolF_side hF fun b ρ' h => side isDct in_h1 in_h2 h with q | q
  · exact .inl (read2V (dop_din (W := wd X)) ⟨ρ, loc, Hf, z, ρ', s, q, k⟩)
  · exact .inr (read2V (dop_in (W := wd X)) ⟨ρ, loc, Hf, z, ρ', s, q, k⟩)
theorem pd_nin {FA FB : Fr} {pos} (hu : X.A.units + 65 < cLine) (ha : PR X a FA) (hb : PR X b FB) (hm : behindInMarks .NotIn b = false) : PD X (.Compare a [.NotIn] [b] pos) (boolF (binB ninD FA FB)) := by
  have p1 : PE X (.Compare a [.NotIn] [b] pos) (tOp rDNotIn (tR (wd X) FA) (tR (wd X) FB)) := pe_cmp (pc_dnotinF (by omega) ha hb) hm
  have p2 := pe_cmpR (pos := pos) (op_ninX hu) ha hb hm
  refine pe_imp (pe_or2 p1 p2) fun σ H Q ⟨ρ, loc, Hf, z, ρ', s, hF, k⟩ => ?_
  rcases boolF_side hF fun b ρ' h => side isDct nin_h1 nin_h2 h with q | q
  · exact .inl (read2V (dop_dnin (W := wd X)) ⟨ρ, loc, Hf, z, ρ', s, q, k⟩)
  · exact .inr (read2V (dop_nin (W := wd X)) ⟨ρ, loc, Hf, z, ρ', s, q, k⟩)

/-! ### slices -/
abbrev Fo := Env → Option (Option Int × Env)
def noneO : Fo := fun ρ => some (none, ρ)
def someO (F : Fd) : Fo := fun ρ => (F ρ).bind fun x => match x.1 with
  | .int i => some (some i, x.2)
  | _ => none
def tO (W : Wd) (F : Fo) : TO := fun σ H Q => ∃ ρ loc Hf r ρ', SOk W ρ loc σ H Hf ∧ F ρ = some (r, ρ') ∧ ∀ H' Hf', Ge ρ loc H Hf ρ' H' Hf' → SOk W ρ' loc σ H' Hf' → Q r H'
theorem po_imp {o : Option Expr} {t t' : TO} (h : PO X o t) (k : ∀ σ H Q, t' σ H Q → t σ H Q) : PO X o t' := ⟨fun pins s σ H Q I w => h.run pins s σ H Q I (k σ H Q w)⟩
theorem po_noneD : PO X none (tO (wd X) noneO) := po_imp po_none fun σ H Q ⟨ρ, loc, Hf, z, ρ', s, hF, k⟩ => by
  cases hF
  exact k H Hf .refl s
theorem po_someD {F : Fd} (h : PD X e F) : PO X (some e) (tO (wd X) (someO F)) := po_imp (po_some h) fun σ H Q ⟨ρ, loc, Hf, z, ρ', s, hF, k⟩ => by
  unfold someO at hF
  obtain ⟨⟨d, ρ1⟩, q1, hF⟩ := Option.bind_eq_some_iff.mp hF
  refine ⟨ρ, loc, Hf, d, ρ1, s, q1, fun v H1 Hf1 g1 s1 o1 => ?_⟩
  dsimp only at hF
  split at hF
  · cases o1
    cases hF
    exact ⟨_, rfl, k H1 Hf1 g1 s1⟩
  · cases hF
def cutD {α : Type} (xs : List α) (lo hi : Option Int) : List α := (xs.drop (HT.sIx xs.length 0 lo)).take (HT.sIx xs.length xs.length hi - HT.sIx xs.length 0 lo)
def slD (d : D) (lo hi : Option Int) : Option Rv := match d with
  | .lst xs => some (.own (.lst (cutD xs lo hi)))
  | .tup xs => some (.imm (.tup (cutD xs lo hi)))
  | .str z => if z.length ≤ sizeLine then some (.imm (.str (cutS z lo hi))) else none
  | .scr ns => some (.own (.lst ((cutD ns lo hi).map D.int)))
  | _ => none
def rSlX (K : PySem.W.Frag) : V → Option Int → Option Int → Hp → VK → Prop := fun x lo hi H Q => rSlF K x lo hi H Q ∨ (rSlL K x lo hi H Q ∨ rSlS x lo hi H Q)
theorem sl_X : SlR X (rSlX X.K) := sl_tupF.or (sl_list.or sl_str)
theorem cutD_rp {W : Wd} {H : Hp} {vs : List V} {ds : List D} (r : RpL W H vs ds) (lo hi : Option Int) : RpL W H (cutV vs lo hi) (cutD ds lo hi) := by
  unfold cutV cutD
  rw [r.length]
  exact (r.drop _).take _
theorem cutD_map {α β : Type} (f : α → β) (xs : List α) (lo hi : Option Int) : cutD (xs.map f) lo hi = (cutD xs lo hi).map f := by
  unfold cutD
  rw [List.length_map, List.map_take, List.map_drop]
theorem free_of {Hf H : Hp} (s : Sub Hf H) {p : Addr} (hp : H p = none) : Hf p = none := by
  cases w : Hf p with
  | none => rfl
  | some u => rw [s p u w] at hp; cases hp
theorem slD_ok {W : Wd} {v : V} {d : D} {lo hi : Option Int} {z : Rv} {H Hf : Hp} {Q : VK} (s : Sub Hf H) (a : RpB W H Hf v d) (q : slD d lo hi = some z) (k : ∀ v H' Hf', Ext H Hf H' Hf' → RvOk W H v H' Hf' z → Q v H') : rSlX W.K v lo hi H Q := by
  unfold slD at q
  split at q
  · cases q
    obtain ⟨p, vs, rfl, h1, r⟩ := a
    exact .inr (.inl ⟨p, vs, rfl, .of h1, fun p' hp => k _ _ _ (Ext.newO s hp _) ⟨p', rfl, hp, free_of s hp, _, upd_same, cutD_rp r lo hi⟩⟩)
  · cases q
    cases a with
    | tup h1 n1 r =>
    rename_i xs p ob1 vs
    refine .inl ⟨p, vs, rfl, sqT_fz (s _ _ h1), fun hw => ?_, fun _ p' u ⟨ob, hn, eu⟩ hp => ?_⟩
    · refine k _ H Hf (.refl s) ?_
      have e : cutD xs lo hi = xs := by
        unfold cutD
        rw [r.length] at hw
        rw [hw.1, hw.2, List.drop_zero, Nat.sub_zero, List.take_length]
      rw [e]
      exact .tup h1 n1 r
    · subst eu
      have E := Ext.newF s hp (.frz ob (.tup (cutV vs lo hi)))
      exact k _ _ _ E (.tup upd_same hn ((cutD_rp r lo hi).mono (E.fixed s)))
  · split at q
    · rename_i hz
      cases q
      cases a
      exact .inr (.inr ⟨_, rfl, hz, k _ H Hf (.refl s) (.str _)⟩)
    · cases q
  · cases q
    cases a with
    | scr h1 =>
    rename_i ns p
    refine .inr (.inl ⟨p, _, rfl, sqL_mono s h1, fun p' hp => k _ _ _ (Ext.newO s hp _) ⟨p', rfl, hp, free_of s hp, _, upd_same, ?_⟩⟩)
    show RpL W Hf (cutD (ns.map V.int) lo hi) _
    rw [cutD_map]
    exact RpL.ints _
  · cases q
def slF (FA : Fr) (FL FH : Fo) : Fe := fun ρ => (FA ρ).bind fun x => (FL x.2).bind fun l => (FH l.2).bind fun h => (deref h.2 x.1).bind fun d => (slD d l.1 h.1).map fun z => (z, h.2)
theorem px_sl {FA : Fr} {FL FH : Fo} {lo hi : Option Expr} {p2 pos} (ha : PR X a FA) (hl : PO X lo (tO (wd X) FL)) (hh : PO X hi (tO (wd X) FH)) : PX X (.Subscript a (.Slice lo hi none p2) pos) (slF FA FL FH) :=
  pe_imp (pe_slice sl_X ha hl hh) fun σ H Q ⟨ρ, loc, Hf, z, ρ', s, hF, k⟩ => by
    unfold slF at hF
    obtain ⟨⟨x, ρ1⟩, q1, hF⟩ := Option.bind_eq_some_iff.mp hF
    obtain ⟨⟨l, ρ2⟩, q2, hF⟩ := Option.bind_eq_some_iff.mp hF
    obtain ⟨⟨h, ρ3⟩, q3, hF⟩ := Option.bind_eq_some_iff.mp hF
    obtain ⟨d, q4, hF⟩ := Option.bind_eq_some_iff.mp hF
    obtain ⟨z', q5, hF⟩ := Option.map_eq_some_iff.mp hF
    cases hF
    refine ⟨ρ, loc, Hf, x, ρ1, s, q1, fun v H1 Hf1 g1 s1 o1 => ⟨ρ1, loc, Hf1, l, ρ2, s1, q2, fun H2 Hf2 g2 s2 => ⟨ρ2, loc, Hf2, h, _, s2, q3, fun H3 Hf3 g3 s3 => ?_⟩⟩⟩
    exact slD_ok s3.sub (deref_b s3 (o1.mono fun b o q => g3.fixed s2 b o (g2.fixed s1 b o q)) q4) q5 fun w H' Hf' E R =>
      k w H' Hf' (g1.trans (g2.trans (g3.trans E.ge))) (s3.ext E) (R.back fun x q => g1.there x (g2.there x (g3.there x q)))
/-- x[::-1] of a list -/
def revF (FA : Fr) : Fe := fun ρ => (FA ρ).bind fun x => (deref x.2 x.1).bind fun d => match d with
  | .lst xs => some (.own (.lst xs.reverse), x.2)
  | _ => none

/-! ### calls of built-ins -/
def DCall (W : Wd) (r : List V → Hp → VK → Prop) (f : List D → Option Rv) : Prop := ∀ (vs : List V) (ds : List D) (z : Rv) (H Hf : Hp) (Q : VK), Sub Hf H → RpBs W H Hf vs ds → f ds = some z →
  (∀ v H' Hf', Ext H Hf H' Hf' → RvOk W H v H' Hf' z → Q v H') → r vs H Q
def callF (f : List D → Option Rv) (FA : Fa) : Fe := fun ρ => (FA ρ).bind fun x => (derefs x.2 x.1).bind fun ds => (f ds).map fun z => (z, x.2)
theorem readC {W : Wd} {r : List V → Hp → VK → Prop} {f : List D → Option Rv} (hd : DCall W r f) {FA : Fa} {σ : St} {H : Hp} {Q : VK} (h : tX W (callF f FA) σ H Q) : tCB r (tA W FA) σ H Q := by
  obtain ⟨ρ, loc, Hf, z, ρ', s, hF, k⟩ := h
  unfold callF at hF
  obtain ⟨⟨as, ρ1⟩, q1, hF⟩ := Option.bind_eq_some_iff.mp hF
  obtain ⟨ds, q2, hF⟩ := Option.bind_eq_some_iff.mp hF
  obtain ⟨z', q3, hF⟩ := Option.map_eq_some_iff.mp hF
  cases hF
  exact ⟨ρ, loc, Hf, as, _, s, q1, fun vs H1 Hf1 g1 s1 o1 => hd vs ds _ H1 Hf1 Q s1.sub (derefs_b s1 o1 q2) q3 fun v H' Hf' E R => k v H' Hf' (g1.trans E.ge) (s1.ext E) (R.back g1.there)⟩
theorem RpBs.one {W : Wd} {H Hf : Hp} {vs : List V} {d : D} (h : RpBs W H Hf vs [d]) : ∃ v, vs = [v] ∧ RpB W H Hf v d := by
  match vs, h with
  | [v], h => exact ⟨v, rfl, h.1⟩
theorem RpBs.two {W : Wd} {H Hf : Hp} {vs : List V} {d e : D} (h : RpBs W H Hf vs [d, e]) : ∃ v u, vs = [v, u] ∧ RpB W H Hf v d ∧ RpB W H Hf u e := by
  match vs, h with
  | [v, u], h => exact ⟨v, u, rfl, h.1, h.2.1⟩
theorem px_callB {x : Str} {id : String} {r : List V → Hp → VK → Prop} {f : List D → Option Rv} {FA : Fa} {es : List Expr} {p pos : Pos} (hc : CallR X (.builtin id) r) (hd : DCall (wd X) r f) (hg : Gl X x) (hm : X.mg x = none) (hv : bootBuiltins x = some (.builtin id))
    (ha : PAs X (e :: es) FA) (hs : (e :: es).all noStar = true) (hn : x ≠ "__name__") (hdb : (x == ("__debug__" : Str)) = false) : PX X (.Call (.Name x p) (e :: es) [] pos) (callF f FA) := by
  rw [List.all_cons, Bool.and_eq_true] at hs
  exact pe_imp (pe_callB hc hg hm hv ha hn hdb (starEach_cons hs.1) (starEach_plain pos hs.2)) fun _ _ _ h => readC hd h
theorem px_callTy {x : Str} {T : String} {r : List V → Hp → VK → Prop} {f : List D → Option Rv} {FA : Fa} {es : List Expr} {p pos : Pos} (hc : CallR X (.type T) r) (hd : DCall (wd X) r f) (hg : Gl X x) (hm : X.mg x = none) (hv : bootBuiltins x = some (.type T))
    (ha : PAs X (e :: es) FA) (hs : (e :: es).all noStar = true) (hn : x ≠ "__name__") (hdb : (x == ("__debug__" : Str)) = false) : PX X (.Call (.Name x p) (e :: es) [] pos) (callF f FA) := by
  rw [List.all_cons, Bool.and_eq_true] at hs
  exact pe_imp (pe_callTy hc hg hm hv ha hn hdb (starEach_cons hs.1) (starEach_plain pos hs.2)) fun _ _ _ h => readC hd h
end
end Ev
/-! text Ev7 -/
set_option Elab.async false
set_option linter.all false
set_option maxRecDepth 100000
set_option maxHeartbeats 4000000
namespace Ev
open PySem L2

def intsOf : List D → Option (List Int)
  | [] => some []
  | .int i :: ds => (intsOf ds).map (i :: ·)
  | _ :: _ => none
def boolsOf : List D → Option (List Bool)
  | [] => some []
  | .bl i :: ds => (boolsOf ds).map (i :: ·)
  | _ :: _ => none
def strsOf : List D → Option (List Str)
  | [] => some []
  | .str i :: ds => (strsOf ds).map (i :: ·)
  | _ :: _ => none
section
variable {W : Wd} {H Hf : Hp}
theorem intsOf_rp : ∀ {vs : List V} {ds : List D} {ns : List Int}, RpL W H vs ds → intsOf ds = some ns → vs = ns.map V.int ∧ ds = ns.map D.int
  | _, _, _, .nil, e => by cases e; exact ⟨rfl, rfl⟩
  | _, _, _, .cons (d := d) r t, e => by
    cases d with
    | int i =>
      obtain ⟨ms, h1, h2⟩ := Option.map_eq_some_iff.mp e
      subst h2
      obtain ⟨a, b⟩ := intsOf_rp t h1
      cases r
      exact ⟨by rw [a]; rfl, by rw [b]; rfl⟩
    | _ => cases e
theorem boolsOf_rp : ∀ {vs : List V} {ds : List D} {ns : List Bool}, RpL W H vs ds → boolsOf ds = some ns → vs = ns.map V.bl
  | _, _, _, .nil, e => by cases e; rfl
  | _, _, _, .cons (d := d) r t, e => by
    cases d with
    | bl i =>
      obtain ⟨ms, h1, h2⟩ := Option.map_eq_some_iff.mp e
      subst h2
      have a := boolsOf_rp t h1
      cases r
      rw [a]; rfl
    | _ => cases e
theorem strsOf_rp : ∀ {vs : List V} {ds : List D} {ns : List Str}, RpL W H vs ds → strsOf ds = some ns → vs = ns.map V.str
  | _, _, _, .nil, e => by cases e; rfl
  | _, _, _, .cons (d := d) r t, e => by
    cases d with
    | str i =>
      obtain ⟨ms, h1, h2⟩ := Option.map_eq_some_iff.mp e
      subst h2
      have a := strsOf_rp t h1
      cases r
      rw [a]; rfl
    | _ => cases e
theorem RpB.seq {v : V} {d : D} (h : RpB W H Hf v d) (s : Sub Hf H) : (∀ ds, d = .lst ds → ∃ p vs, v = .ref p ∧ SqL W.K H p vs ∧ RpL W Hf vs ds) ∧ (∀ ds, d = .tup ds → ∃ p vs, v = .ref p ∧ SqT W.K H p vs ∧ RpL W Hf vs ds) := by
  refine ⟨fun ds e => ?_, fun ds e => ?_⟩
  · subst e; obtain ⟨p, vs, rfl, h1, r⟩ := h; exact ⟨p, vs, rfl, .of h1, r⟩
  · subst e
    cases h with
    | tup h1 _ r => exact ⟨_, _, rfl, sqT_fz (s _ _ h1), r⟩
end
abbrev RC := List V → Hp → VK → Prop
theorem DCall.orL {W : Wd} {r r' : RC} {f : List D → Option Rv} (h : DCall W r f) : DCall W (fun xs H Q => r xs H Q ∨ r' xs H Q) f := fun vs ds z H Hf Q s a q k => .inl (h vs ds z H Hf Q s a q k)

def lenD : List D → Option Rv
  | [.lst xs] => some (.imm (.int xs.length))
  | [.tup xs] => some (.imm (.int xs.length))
  | [.str z] => if z.length ≤ sizeLine then some (.imm (.int z.length)) else none
  | _ => none
theorem dc_len {W : Wd} : DCall W (fun xs H Q => ∃ x n, xs = [x] ∧ LenV W.K x H n ∧ Q (.int n) H) lenD := fun vs ds z H Hf Q s a q k => by
  unfold lenD at q
  split at q
  · cases q
    obtain ⟨v, rfl, p, vs, rfl, h1, r⟩ := a.one
    refine ⟨_, _, rfl, .inl ⟨vs, .of h1, rfl⟩, k _ H Hf (.refl s) ?_⟩
    rw [r.length]; exact .int _
  · cases q
    obtain ⟨v, rfl, b⟩ := a.one
    cases b with
    | tup h1 _ r =>
    refine ⟨_, _, rfl, .inr ⟨_, sqT_fz (s _ _ h1), rfl⟩, k _ H Hf (.refl s) ?_⟩
    rw [r.length]; exact .int _
  · split at q
    · rename_i hz
      cases q
      obtain ⟨v, rfl, b⟩ := a.one
      cases b
      exact ⟨_, _, rfl, ⟨hz, rfl⟩, k _ H Hf (.refl s) (.int _)⟩
    · cases q
  · cases q
def absD : List D → Option Rv
  | [.int i] => some (.imm (.int (if i < 0 then -i else i)))
  | _ => none
theorem dc_abs {W : Wd} : DCall W (fun xs H Q => ∃ i, xs = [.int i] ∧ Q (.int (if i < 0 then -i else i)) H) absD := fun vs ds z H Hf Q s a q k => by
  unfold absD at q
  split at q
  · cases q
    obtain ⟨v, rfl, b⟩ := a.one
    cases b
    exact ⟨_, rfl, k _ H Hf (.refl s) (.int _)⟩
  · cases q
def maxL : Int → List Int → Int
  | m, [] => m
  | m, x :: xs => maxL (if x > m then x else m) xs
def minL : Int → List Int → Int
  | m, [] => m
  | m, x :: xs => minL (if x < m then x else m) xs
theorem maxL_spec : ∀ (xs : List Int) (m : Int), (maxL m xs = m ∨ maxL m xs ∈ xs) ∧ m ≤ maxL m xs ∧ ∀ y ∈ xs, y ≤ maxL m xs
  | [], m => ⟨.inl rfl, Int.le_refl _, fun _ h => nomatch h⟩
  | x :: xs, m => by
    obtain ⟨a, b, c⟩ := maxL_spec xs (if x > m then x else m)
    have hb : m ≤ (if x > m then x else m) ∧ x ≤ (if x > m then x else m) := by split <;> omega
    unfold maxL
    refine ⟨?_, ?_, ?_⟩
    · rcases a with a | a
      · rw [a]; split
        · exact .inr (List.mem_cons_self ..)
        · exact .inl rfl
      · exact .inr (List.mem_cons_of_mem _ a)
    · exact Int.le_trans hb.1 b
    · intro y hy
      rcases List.mem_cons.mp hy with rfl | hy
      · exact Int.le_trans hb.2 b
      · exact c y hy
theorem minL_spec : ∀ (xs : List Int) (m : Int), (minL m xs = m ∨ minL m xs ∈ xs) ∧ minL m xs ≤ m ∧ ∀ y ∈ xs, minL m xs ≤ y
  | [], m => ⟨.inl rfl, Int.le_refl _, fun _ h => nomatch h⟩
  | x :: xs, m => by
    obtain ⟨a, b, c⟩ := minL_spec xs (if x < m then x else m)
    have hb : (if x < m then x else m) ≤ m ∧ (if x < m then x else m) ≤ x := by split <;> omega
    unfold minL
    refine ⟨?_, ?_, ?_⟩
    · rcases a with a | a
      · rw [a]; split
        · exact .inr (List.mem_cons_self ..)
        · exact .inl rfl
      · exact .inr (List.mem_cons_of_mem _ a)
    · exact Int.le_trans b hb.1
    · intro y hy
      rcases List.mem_cons.mp hy with rfl | hy
      · exact Int.le_trans b hb.2
      · exact c y hy
def maxD : List D → Option Rv
  | [.int i, .int j] => some (.imm (.int (if j > i then j else i)))
  | [.lst xs] => (intsOf xs).bind fun ns => match ns with
    | [] => none
    | n :: ns => some (.imm (.int (maxL n ns)))
  | _ => none
def minD : List D → Option Rv
  | [.int i, .int j] => some (.imm (.int (if j < i then j else i)))
  | [.lst xs] => (intsOf xs).bind fun ns => match ns with
    | [] => none
    | n :: ns => some (.imm (.int (minL n ns)))
  | _ => none
def rMaxX (K : PySem.W.Frag) : RC := fun xs H Q => (∃ i j, xs = [.int i, .int j] ∧ Q (.int (if j > i then j else i)) H) ∨ rMax K xs H Q
def rMinX (K : PySem.W.Frag) : RC := fun xs H Q => (∃ i j, xs = [.int i, .int j] ∧ Q (.int (if j < i then j else i)) H) ∨ rMin K xs H Q
theorem dc_max {W : Wd} : DCall W (rMaxX W.K) maxD := fun vs ds z H Hf Q s a q k => by
  unfold maxD at q
  split at q
  · cases q
    obtain ⟨v, u, rfl, b, c⟩ := a.two
    cases b; cases c
    exact .inl ⟨_, _, rfl, k _ H Hf (.refl s) (.int _)⟩
  · obtain ⟨ns, q1, q⟩ := Option.bind_eq_some_iff.mp q
    obtain ⟨v, rfl, p, vs, rfl, h1, r⟩ := a.one
    have e := (intsOf_rp r q1).1
    subst e
    split at q
    · cases q
    · rename_i n ns
      cases q
      refine .inr ⟨p, n :: ns, rfl, .of h1, by simp, fun m hm hle => ?_⟩
      obtain ⟨x, y, w⟩ := maxL_spec ns n
      have e : m = maxL n ns := by
        apply Int.le_antisymm
        · rcases List.mem_cons.mp hm with rfl | hm
          · exact y
          · exact w m hm
        · rcases x with x | x
          · rw [x]; exact hle n (List.mem_cons_self ..)
          · exact hle _ (List.mem_cons_of_mem _ x)
      rw [e]
      exact k _ H Hf (.refl s) (.int _)
  · cases q
theorem dc_min {W : Wd} : DCall W (rMinX W.K) minD := fun vs ds z H Hf Q s a q k => by
  unfold minD at q
  split at q
  · cases q
    obtain ⟨v, u, rfl, b, c⟩ := a.two
    cases b; cases c
    exact .inl ⟨_, _, rfl, k _ H Hf (.refl s) (.int _)⟩
  · obtain ⟨ns, q1, q⟩ := Option.bind_eq_some_iff.mp q
    obtain ⟨v, rfl, p, vs, rfl, h1, r⟩ := a.one
    have e := (intsOf_rp r q1).1
    subst e
    split at q
    · cases q
    · rename_i n ns
      cases q
      refine .inr ⟨p, n :: ns, rfl, .of h1, by simp, fun m hm hle => ?_⟩
      obtain ⟨x, y, w⟩ := minL_spec ns n
      have e : m = minL n ns := by
        apply Int.le_antisymm
        · rcases x with x | x
          · rw [x]; exact hle n (List.mem_cons_self ..)
          · exact hle _ (List.mem_cons_of_mem _ x)
        · rcases List.mem_cons.mp hm with rfl | hm
          · exact y
          · exact w m hm
      rw [e]
      exact k _ H Hf (.refl s) (.int _)
  · cases q
def intD : List D → Option Rv
  | [.int i] => some (.imm (.int i))
  | [.bl b] => some (.imm (.int (if b then 1 else 0)))
  | _ => none
theorem dc_int {W : Wd} : DCall W (fun xs H Q => (∃ i, xs = [.int i] ∧ Q (.int i) H) ∨ ∃ k, xs = [.bl k] ∧ Q (.int (if k then 1 else 0)) H) intD := fun vs ds z H Hf Q s a q k => by
  unfold intD at q
  split at q
  · cases q
    obtain ⟨v, rfl, b⟩ := a.one
    cases b
    exact .inl ⟨_, rfl, k _ H Hf (.refl s) (.int _)⟩
  · cases q
    obtain ⟨v, rfl, b⟩ := a.one
    cases b
    exact .inr ⟨_, rfl, k _ H Hf (.refl s) (.int _)⟩
  · cases q
def boolD : List D → Option Rv
  | [.int i] => some (.imm (.bl (i != 0)))
  | [.bl b] => some (.imm (.bl b))
  | _ => none
theorem dc_bool {W : Wd} : DCall W (fun xs H Q => (∃ i, xs = [.int i] ∧ Q (.bl (i != 0)) H) ∨ ∃ k, xs = [.bl k] ∧ Q (.bl k) H) boolD := fun vs ds z H Hf Q s a q k => by
  unfold boolD at q
  split at q
  · cases q
    obtain ⟨v, rfl, b⟩ := a.one
    cases b
    exact .inl ⟨_, rfl, k _ H Hf (.refl s) (.bl _)⟩
  · cases q
    obtain ⟨v, rfl, b⟩ := a.one
    cases b
    exact .inr ⟨_, rfl, k _ H Hf (.refl s) (.bl _)⟩
  · cases q
def strD : List D → Option Rv
  | [.int i] => if i.natAbs.log2 < 1920 then some (.imm (.str (toString i))) else none
  | _ => none
theorem dc_str {W : Wd} : DCall W (fun xs H Q => ∃ i : Int, xs = [.int i] ∧ i.natAbs.log2 < 1920 ∧ Q (.str (toString i)) H) strD := fun vs ds z H Hf Q s a q k => by
  unfold strD at q
  split at q
  · split at q
    · rename_i hz
      cases q
      obtain ⟨v, rfl, b⟩ := a.one
      cases b
      exact ⟨_, rfl, hz, k _ H Hf (.refl s) (.str _)⟩
    · cases q
  · cases q
def listD : List D → Option Rv
  | [.lst xs] => some (.own (.lst xs))
  | [.tup xs] => some (.own (.lst xs))
  | [.scr ns] => some (.own (.lst (ns.map .int)))
  | _ => none
theorem dc_list {W : Wd} : DCall W (fun xs H Q => ∃ p ys, xs = [.ref p] ∧ (SqL W.K H p ys ∨ SqT W.K H p ys) ∧ ∀ l, H l = none → Q (.ref l) (upd H l (.lst ys))) listD := fun vs ds z H Hf Q s a q k => by
  unfold listD at q
  split at q
  · cases q
    obtain ⟨v, rfl, p, vs, rfl, h1, r⟩ := a.one
    exact ⟨p, vs, rfl, .inl (.of h1), fun l hl => k _ _ _ (Ext.newO s hl _) ⟨l, rfl, hl, free_of s hl, vs, upd_same, r⟩⟩
  · cases q
    obtain ⟨v, rfl, b⟩ := a.one
    cases b with
    | tup h1 _ r => exact ⟨_, _, rfl, .inr (sqT_fz (s _ _ h1)), fun l hl => k _ _ _ (Ext.newO s hl _) ⟨l, rfl, hl, free_of s hl, _, upd_same, r⟩⟩
  · cases q
    obtain ⟨v, rfl, b⟩ := a.one
    cases b with
    | scr h1 => exact ⟨_, _, rfl, .inl (sqL_mono s h1), fun l hl => k _ _ _ (Ext.newO s hl _) ⟨l, rfl, hl, free_of s hl, _, upd_same, RpL.ints _⟩⟩
  · cases q
def tupleD : List D → Option Rv
  | [.lst xs] => some (.imm (.tup xs))
  | [.tup xs] => some (.imm (.tup xs))
  | _ => none
theorem dc_tuple {W : Wd} : DCall W (fun xs H Q => ∃ p ys, xs = [.ref p] ∧ ((SqL W.K H p ys ∧ ∀ l u, FT ys u → H l = none → Q (.ref l) (upd H l u)) ∨ (SqT W.K H p ys ∧ Q (.ref p) H))) tupleD := fun vs ds z H Hf Q s a q k => by
  unfold tupleD at q
  split at q
  · cases q
    obtain ⟨v, rfl, p, vs, rfl, h1, r⟩ := a.one
    refine ⟨p, vs, rfl, .inl ⟨.of h1, fun l u ⟨ob, hn, eu⟩ hl => ?_⟩⟩
    subst eu
    have E := Ext.newF s hl (.frz ob (.tup vs))
    exact k _ _ _ E (.tup upd_same hn (r.mono (E.fixed s)))
  · cases q
    obtain ⟨v, rfl, b⟩ := a.one
    cases b with
    | tup h1 n1 r => exact ⟨_, _, rfl, .inr ⟨sqT_fz (s _ _ h1), k _ H Hf (.refl s) (.tup h1 n1 r)⟩⟩
  · cases q
def sumD : List D → Option Rv
  | [.lst xs] => (intsOf xs).map fun ns => .imm (.int ns.sum)
  | _ => none
theorem dc_sum {W : Wd} : DCall W (rSum W.K) sumD := fun vs ds z H Hf Q s a q k => by
  unfold sumD at q
  split at q
  · obtain ⟨ns, q1, q2⟩ := Option.map_eq_some_iff.mp q
    subst q2
    obtain ⟨v, rfl, p, vs, rfl, h1, r⟩ := a.one
    have e := (intsOf_rp r q1).1
    subst e
    exact ⟨p, ns, rfl, .of h1, k _ H Hf (.refl s) (.int _)⟩
  · cases q
def anyLD : List D → Option Rv
  | [.lst xs] => (boolsOf xs).map fun ns => .imm (.bl (ns.any id))
  | _ => none
def allLD : List D → Option Rv
  | [.lst xs] => (boolsOf xs).map fun ns => .imm (.bl (ns.all id))
  | _ => none
theorem dc_any {W : Wd} : DCall W (rAny W.K) anyLD := fun vs ds z H Hf Q s a q k => by
  unfold anyLD at q
  split at q
  · obtain ⟨ns, q1, q2⟩ := Option.map_eq_some_iff.mp q
    subst q2
    obtain ⟨v, rfl, p, vs, rfl, h1, r⟩ := a.one
    have e := boolsOf_rp r q1
    subst e
    exact ⟨p, ns, rfl, .of h1, k _ H Hf (.refl s) (.bl _)⟩
  · cases q
theorem dc_all {W : Wd} : DCall W (rAll W.K) allLD := fun vs ds z H Hf Q s a q k => by
  unfold allLD at q
  split at q
  · obtain ⟨ns, q1, q2⟩ := Option.map_eq_some_iff.mp q
    subst q2
    obtain ⟨v, rfl, p, vs, rfl, h1, r⟩ := a.one
    have e := boolsOf_rp r q1
    subst e
    exact ⟨p, ns, rfl, .of h1, k _ H Hf (.refl s) (.bl _)⟩
  · cases q
def sortI (ns : List Int) : List Int := ns.mergeSort (fun a b => decide (a ≤ b))
theorem sortI_perm (ns : List Int) : (sortI ns).Perm ns := List.mergeSort_perm _ _
theorem sortI_sorted (ns : List Int) : (sortI ns).Pairwise (· ≤ ·) := by
  have h := List.pairwise_mergeSort (le := fun (a b : Int) => decide (a ≤ b)) (by intro a b c; simp; omega) (by intro a b; simp; omega) ns
  exact h.imp fun h => by simpa using h
theorem sorted_unique : ∀ {xs ys : List Int}, xs.Perm ys → xs.Pairwise (· ≤ ·) → ys.Pairwise (· ≤ ·) → xs = ys := fun {xs ys} p h1 h2 =>
  p.eq_of_pairwise (le := fun a b : Int => a ≤ b) (fun a b _ _ h h' => Int.le_antisymm h h') h1 h2
def sortedD : List D → Option Rv
  | [.lst xs] => (intsOf xs).map fun ns => .own (.lst ((sortI ns).map .int))
  | _ => none
theorem dc_sorted {W : Wd} : DCall W (rSortedI W.K) sortedD := fun vs ds z H Hf Q s a q k => by
  unfold sortedD at q
  split at q
  · obtain ⟨ns, q1, q2⟩ := Option.map_eq_some_iff.mp q
    subst q2
    obtain ⟨v, rfl, p, vs, rfl, h1, r⟩ := a.one
    have e := (intsOf_rp r q1).1
    subst e
    refine ⟨p, ns, rfl, .of h1, fun ns' l hp hs hl => ?_⟩
    have e : ns' = sortI ns := sorted_unique (hp.trans (sortI_perm ns).symm) hs (sortI_sorted ns)
    subst e
    exact k _ _ _ (Ext.newO s hl _) ⟨l, rfl, hl, free_of s hl, _, upd_same, RpL.ints _⟩
  · cases q
end Ev
/-! text Ev8 -/
set_option Elab.async false
set_option linter.all false
set_option maxRecDepth 100000
set_option maxHeartbeats 4000000
namespace Ev
open PySem L2

/-! ### what is walked -/
/-- the turns give these, in order, while what is fixed stays -/
structure Feed (W : Wd) (J : It) (Hf : Hp) (items : List D) : Prop where
  go : ∀ (i : Nat) (d : D) (H' Hf' : Hp), items[i]? = some d → (∀ a o, Hf a = some o → Hf' a = some o) → Sub Hf' H' → J.go i H' ∧ ∀ x H3, J.yld i H' x H3 → ∃ Hf3, Ext H' Hf' H3 Hf3 ∧ Rp W Hf3 x d
  stop : ∀ (H' Hf' : Hp), (∀ a o, Hf a = some o → Hf' a = some o) → Sub Hf' H' → J.stop items.length H'
theorem Feed.list {W : Wd} {Hf : Hp} {a : Addr} {vs : List V} {ds : List D} (h : Hf a = some (.lst vs)) (r : RpL W Hf vs ds) : Feed W (Itl W.K a) Hf ds where
  go := fun i d H' Hf' e m s => by
    obtain ⟨v, h1, rv⟩ := r.get e
    have hq : SqL W.K H' a vs := .of (s _ _ (m _ _ h))
    refine ⟨⟨vs, v, hq, h1⟩, fun x H3 ⟨e1, e2⟩ => ?_⟩
    subst e1
    have := e2 vs hq
    rw [h1] at this; cases this
    exact ⟨Hf', .refl s, rv.mono m⟩
  stop := fun H' Hf' m s => ⟨vs, .of (s _ _ (m _ _ h)), by rw [r.length]; exact Nat.le_refl _⟩
theorem Feed.tup {W : Wd} {Hf : Hp} {a : Addr} {vs : List V} {ds : List D} {ob : Obj} (h : Hf a = some (.frz ob (.tup vs))) (r : RpL W Hf vs ds) : Feed W (Itt W.K a) Hf ds where
  go := fun i d H' Hf' e m s => by
    obtain ⟨v, h1, rv⟩ := r.get e
    have hq : SqT W.K H' a vs := sqT_fz (s _ _ (m _ _ h))
    refine ⟨⟨vs, v, hq, h1⟩, fun x H3 ⟨e1, e2⟩ => ?_⟩
    subst e1
    have := e2 vs hq
    rw [h1] at this; cases this
    exact ⟨Hf', .refl s, rv.mono m⟩
  stop := fun H' Hf' m s => ⟨vs, sqT_fz (s _ _ (m _ _ h)), by rw [r.length]; exact Nat.le_refl _⟩
/-- lo, lo + c, .. -/
def rgD (lo c : Int) (n : Nat) : List D := (List.range n).map fun i => D.int (lo + (i : Nat) * c)
theorem Feed.rng {W : Wd} {Hf : Hp} {lo : Int} {n : Nat} : Feed W (Itr lo n) Hf (rgD lo 1 n) where
  go := fun i d H' Hf' e m s => by
    unfold rgD at e
    rw [List.getElem?_map] at e
    obtain ⟨j, h1, h2⟩ := Option.map_eq_some_iff.mp e
    obtain ⟨hi, h3⟩ := List.getElem?_eq_some_iff.mp h1
    rw [List.length_range] at hi
    rw [List.getElem_range] at h3
    subst h3
    refine ⟨hi, fun x H3 ⟨e1, e2⟩ => ?_⟩
    subst e1; subst e2; subst h2
    refine ⟨Hf', .refl s, ?_⟩
    rw [Int.mul_one]
    exact .int _
  stop := fun H' Hf' m s => by
    show n ≤ (rgD lo 1 n).length
    unfold rgD
    rw [List.length_map, List.length_range]
    exact Nat.le_refl _
theorem Feed.rngC {W : Wd} {Hf : Hp} {lo c : Int} {n : Nat} : Feed W (Itc lo c n) Hf (rgD lo c n) where
  go := fun i d H' Hf' e m s => by
    unfold rgD at e
    rw [List.getElem?_map] at e
    obtain ⟨j, h1, h2⟩ := Option.map_eq_some_iff.mp e
    obtain ⟨hi, h3⟩ := List.getElem?_eq_some_iff.mp h1
    rw [List.length_range] at hi
    rw [List.getElem_range] at h3
    subst h3
    refine ⟨hi, fun x H3 ⟨e1, e2⟩ => ?_⟩
    subst e1; subst e2; subst h2
    exact ⟨Hf', .refl s, .int _⟩
  stop := fun H' Hf' m s => by
    show n ≤ (rgD lo c n).length
    unfold rgD
    rw [List.length_map, List.length_range]
    exact Nat.le_refl _
def signsD (z : Str) : List D := z.cps.toList.map fun c => D.str ⟨#[c]⟩
theorem Feed.signs {W : Wd} {Hf : Hp} {z : Str} : Feed W (Its z) Hf (signsD z) where
  go := fun i d H' Hf' e m s => by
    unfold signsD at e
    rw [List.getElem?_map] at e
    obtain ⟨j, h1, h2⟩ := Option.map_eq_some_iff.mp e
    rw [Array.getElem?_toList] at h1
    refine ⟨(Array.getElem?_eq_some_iff.mp h1).1, fun x H3 ⟨e1, c, e2, e3⟩ => ?_⟩
    subst e1
    rw [h1] at e2; cases e2
    subst e3; subst h2
    exact ⟨Hf', .refl s, .str _⟩
  stop := fun H' Hf' m s => by
    show z.cps.size ≤ (signsD z).length
    unfold signsD
    rw [List.length_map, Array.length_toList]
    exact Nat.le_refl _

abbrev Fi := Env → Option (List D × Env)
def tI (W : Wd) (F : Fi) : TI := fun σ H R => ∃ ρ loc Hf items ρ', SOk W ρ loc σ H Hf ∧ F ρ = some (items, ρ') ∧
  ∀ J H' Hf', Ge ρ loc H Hf ρ' H' Hf' → SOk W ρ' loc σ H' Hf' → Feed W J Hf' items → R J H'
abbrev PIt (X : Cx) (tg e : Expr) (F : Fi) := PI X tg e (tI (wd X) F)
section
variable {X : Cx} {tg e a b c : Expr}
theorem pi_imp {t t' : TI} (h : PI X tg e t) (k : ∀ σ H R, t' σ H R → t σ H R) : PI X tg e t' := ⟨fun pins s σ H R I w => h.run pins s σ H R I (k σ H R w)⟩
theorem pi_or2 {t u : TI} (h : PI X tg e t) (k : PI X tg e u) : PI X tg e (fun σ H R => t σ H R ∨ u σ H R) := ⟨fun pins s σ H R I w => w.elim (h.run pins s σ H R I) (k.run pins s σ H R I)⟩
/-- a list, a tuple, a text -/
def seqI : D → Option (List D)
  | .lst xs => some xs
  | .tup xs => some xs
  | .str z => some (signsD z)
  | _ => none
def seqF (F : Fd) : Fi := fun ρ => (F ρ).bind fun x => (seqI x.1).map fun ds => (ds, x.2)
theorem pit_seq {F : Fd} (h : PD X e F) : PIt X tg e (seqF F) := pi_imp (pi_or2 (pi_list h) (pi_or2 (pi_tup h) (pi_str h))) fun σ H R ⟨ρ, loc, Hf, items, ρ', s, hF, k⟩ => by
  unfold seqF at hF
  obtain ⟨⟨d, ρ1⟩, q1, hF⟩ := Option.bind_eq_some_iff.mp hF
  obtain ⟨ds, q2, hF⟩ := Option.map_eq_some_iff.mp hF
  cases hF
  unfold seqI at q2
  split at q2
  · rename_i xs hx
    cases q2
    refine .inl ⟨ρ, loc, Hf, d, _, s, q1, fun v H1 Hf1 g1 s1 o1 => ?_⟩
    dsimp only at hx
    subst hx
    cases o1 with
    | lst h1 r => exact ⟨_, rfl, ⟨_, .of (s1.sub _ _ h1)⟩, k _ H1 Hf1 g1 s1 (Feed.list h1 r)⟩
  · rename_i xs hx
    cases q2
    refine .inr (.inl ⟨ρ, loc, Hf, d, _, s, q1, fun v H1 Hf1 g1 s1 o1 => ?_⟩)
    dsimp only at hx
    subst hx
    cases o1 with
    | tup h1 _ r => exact ⟨_, rfl, ⟨_, sqT_fz (s1.sub _ _ h1)⟩, k _ H1 Hf1 g1 s1 (Feed.tup h1 r)⟩
  · rename_i z hx
    cases q2
    refine .inr (.inr ⟨ρ, loc, Hf, d, _, s, q1, fun v H1 Hf1 g1 s1 o1 => ?_⟩)
    dsimp only at hx
    subst hx
    cases o1
    exact ⟨_, rfl, k _ H1 Hf1 g1 s1 Feed.signs⟩
  · cases q2
/-- range -/
def okI (i : Int) : Bool := decide (-(2 ^ 62) ≤ i) && decide (i < 2 ^ 62)
def rng1 : List D → Option (List D)
  | [.int j] => if okI j then some (rgD 0 1 j.toNat) else none
  | _ => none
def rng2 : List D → Option (List D)
  | [.int i, .int j] => if okI i && okI j then some (rgD i 1 (j - i).toNat) else none
  | _ => none
def rng3 : List D → Option (List D)
  | [.int i, .int j, .int c] => if c ≠ 0 ∧ c.natAbs < 1073741824 ∧ Builtin.Range.small i j c = true ∧ 0 ≤ Builtin.Range.rangeSize i j c then some (rgD i c (Builtin.Range.rangeSize i j c).toNat) else none
  | _ => none
theorem okI_ok {i : Int} (h : okI i = true) : -(2 ^ 62) ≤ i ∧ i < 2 ^ 62 := by
  unfold okI at h
  rw [Bool.and_eq_true, decide_eq_true_eq, decide_eq_true_eq] at h
  exact h
def rngF (f : List D → Option (List D)) (FA : Fa) : Fi := fun ρ => (FA ρ).bind fun x => (derefs x.2 x.1).bind fun ds => (f ds).map fun z => (z, x.2)
theorem RpBs.three {W : Wd} {H Hf : Hp} {vs : List V} {d e f : D} (h : RpBs W H Hf vs [d, e, f]) : ∃ v u w, vs = [v, u, w] ∧ RpB W H Hf v d ∧ RpB W H Hf u e ∧ RpB W H Hf w f := by
  match vs, h with
  | [v, u, w], h => exact ⟨v, u, w, rfl, h.1, h.2.1, h.2.2.1⟩
theorem rng_read {W : Wd} {f : List D → Option (List D)} {FA : Fa} {σ : St} {H : Hp} {R : It → Hp → Prop} {T : List V → Hp → Prop} (h : tI W (rngF f FA) σ H R)
    (k : ∀ vs ds z H1 Hf1, RpBs W H1 Hf1 vs ds → f ds = some z → (∀ J, Feed W J Hf1 z → R J H1) → T vs H1) : tA W FA σ H T := by
  obtain ⟨ρ, loc, Hf, items, ρ', s, hF, kk⟩ := h
  unfold rngF at hF
  obtain ⟨⟨as, ρ1⟩, q1, hF⟩ := Option.bind_eq_some_iff.mp hF
  obtain ⟨ds, q2, hF⟩ := Option.bind_eq_some_iff.mp hF
  obtain ⟨z, q3, hF⟩ := Option.map_eq_some_iff.mp hF
  cases hF
  exact ⟨ρ, loc, Hf, as, _, s, q1, fun vs H1 Hf1 g1 s1 o1 => k vs ds _ H1 Hf1 (derefs_b s1 o1 q2) q3 fun J f => kk J H1 Hf1 g1 s1 f⟩
theorem pit_rng1 {FA : Fa} {p pos : Pos} (hg : Gl X "range") (hm : X.mg "range" = none) (ha : PAs X [a] FA) (hs : noStar a = true) : PIt X tg (.Call (.Name "range" p) [a] [] pos) (rngF rng1 FA) :=
  pi_imp (pi_range1 hg hm ha (starEach_cons hs)) fun σ H R h => rng_read h fun vs ds z H1 Hf1 o q kk => by
    unfold rng1 at q
    split at q
    · split at q
      · rename_i hz
        cases q
        obtain ⟨v, hv, o1⟩ := o.one
        cases o1
        exact ⟨_, hv, (okI_ok hz).1, (okI_ok hz).2, kk _ Feed.rng⟩
      · cases q
    · cases q
theorem pit_rng2 {FA : Fa} {p pos : Pos} (hg : Gl X "range") (hm : X.mg "range" = none) (ha : PAs X [a, b] FA) (hs : noStar a = true) (hs2 : noStar b = true) : PIt X tg (.Call (.Name "range" p) [a, b] [] pos) (rngF rng2 FA) :=
  pi_imp (pi_range2 hg hm ha (by rw [starEach_cons hs, starEach_cons hs2]; rfl) (by rw [starEach_cons hs2]; rfl)) fun σ H R h => rng_read h fun vs ds z H1 Hf1 o q kk => by
    unfold rng2 at q
    split at q
    · split at q
      · rename_i hz
        cases q
        rw [Bool.and_eq_true] at hz
        obtain ⟨v, u, hv, o1, o2⟩ := o.two
        cases o1; cases o2
        exact ⟨_, _, hv, ⟨(okI_ok hz.1).1, (okI_ok hz.1).2, (okI_ok hz.2).1, (okI_ok hz.2).2⟩, kk _ Feed.rng⟩
      · cases q
    · cases q
theorem pit_rng3 {FA : Fa} {p pos : Pos} (hg : Gl X "range") (hm : X.mg "range" = none) (ha : PAs X [a, b, c] FA) (hs : noStar a = true) (hs2 : noStar b = true) (hs3 : noStar c = true) : PIt X tg (.Call (.Name "range" p) [a, b, c] [] pos) (rngF rng3 FA) :=
  pi_imp (pi_range3 hg hm ha (starEach_cons hs) (starEach_plain pos (by simp [hs2, hs3]))) fun σ H R h => rng_read h fun vs ds z H1 Hf1 o q kk => by
    unfold rng3 at q
    split at q
    · split at q
      · rename_i hz
        cases q
        obtain ⟨v, u, w, hv, o1, o2, o3⟩ := o.three
        cases o1; cases o2; cases o3
        exact ⟨_, _, _, _, hv, ⟨hz.1, hz.2.1, hz.2.2.1, (Int.toNat_of_nonneg hz.2.2.2).symm⟩, kk _ Feed.rngC⟩
      · cases q
    · cases q
end
end Ev
/-! text Ev9 -/
set_option Elab.async false
set_option linter.all false
set_option maxRecDepth 100000
set_option maxHeartbeats 4000000
namespace Ev
open PySem L2

/-! ### states behind a store -/
def upL (loc : Loc) (i : Nat) (p : Addr) : Loc := fun j => if j = i then p else loc j
def isPar : Option Sl → Bool
  | some (.par _) => true
  | _ => false
def putV (i : Nat) (r : Rv) (ρ : Env) : Option Env :=
  if i < ρ.length ∧ isPar ρ[i]? = false then some (ρ.set i (match r with | .imm d => .imm d | .own c => .own c)) else none
section
variable {W : Wd} {ρ ρ' : Env} {loc : Loc} {σ : St} {H Hf H' Hf' : Hp}
theorem set_cases {ρ : Env} {i j : Nat} {x t : Sl} (h : (ρ.set i x)[j]? = some t) : (j = i ∧ t = x) ∨ (j ≠ i ∧ ρ[j]? = some t) := by
  by_cases z : j = i
  · subst z
    by_cases hl : j < ρ.length
    · rw [List.getElem?_set_self hl] at h
      exact .inl ⟨rfl, (Option.some.inj h).symm⟩
    · rw [List.getElem?_eq_none (by simpa using hl)] at h; cases h
  · rw [List.getElem?_set_ne (Ne.symm z)] at h; exact .inr ⟨z, h⟩
theorem SOk.putImm {i : Nat} {d : D} {v : V} (s : SOk W ρ loc σ H Hf) (r : Rp W Hf v d) (hi : i < ρ.length) : SOk W (ρ.set i (.imm d)) loc (σ.set i (some v)) H Hf where
  sub := s.sub
  len := by rw [List.length_set, List.length_set]; exact s.len
  imm := fun j e h => by
    rcases set_cases h with ⟨rfl, q⟩ | ⟨n, q⟩
    · cases q
      exact ⟨v, by rw [List.getElem?_set_self (by rw [s.len]; exact hi)], r⟩
    · obtain ⟨u, h1, h2⟩ := s.imm j e q
      exact ⟨u, by rw [List.getElem?_set_ne (Ne.symm n)]; exact h1, h2⟩
  own := fun j t c h1 h2 => by
    rcases set_cases h1 with ⟨_, q⟩ | ⟨n, q⟩
    · subst q; cases h2
    · obtain ⟨a, b, o⟩ := s.own j t c q h2
      exact ⟨by rw [List.getElem?_set_ne (Ne.symm n)]; exact a, b, o⟩
  inj := fun j l t u c e h1 h2 h3 h4 => by
    rcases set_cases h1 with ⟨_, q⟩ | ⟨_, q⟩
    · subst q; cases h3
    · rcases set_cases h2 with ⟨_, q'⟩ | ⟨_, q'⟩
      · subst q'; cases h4
      · exact s.inj j l t u c e q q' h3 h4
theorem SOk.putOwn {i : Nat} {c : C} {p : Addr} (s : SOk W ρ loc σ H Hf) (hn : Hf p = none) (o : OwnAt W H Hf p c) (no : ¬ IsOwn ρ loc p) (hi : i < ρ.length) :
    SOk W (ρ.set i (.own c)) (upL loc i p) (σ.set i (some (.ref p))) H Hf where
  sub := s.sub
  len := by rw [List.length_set, List.length_set]; exact s.len
  imm := fun j e h => by
    rcases set_cases h with ⟨_, q⟩ | ⟨n, q⟩
    · cases q
    · obtain ⟨u, h1, h2⟩ := s.imm j e q
      exact ⟨u, by rw [List.getElem?_set_ne (Ne.symm n)]; exact h1, h2⟩
  own := fun j t c' h1 h2 => by
    rcases set_cases h1 with ⟨rfl, q⟩ | ⟨n, q⟩
    · subst q
      cases h2
      have e : upL loc j p j = p := if_pos rfl
      rw [e]
      exact ⟨by rw [List.getElem?_set_self (by rw [s.len]; exact hi)], hn, o⟩
    · have e : upL loc i p j = loc j := if_neg n
      rw [e]
      obtain ⟨a, b, o⟩ := s.own j t c' q h2
      exact ⟨by rw [List.getElem?_set_ne (Ne.symm n)]; exact a, b, o⟩
  inj := fun j l t u c1 c2 h1 h2 h3 h4 h5 => by
    rcases set_cases h1 with ⟨e1, q⟩ | ⟨n1, q⟩
    · rcases set_cases h2 with ⟨e2, q'⟩ | ⟨n2, q'⟩
      · rw [e1, e2]
      · exfalso
        have e : upL loc i p l = loc l := if_neg n2
        have e' : upL loc i p j = p := if_pos e1
        rw [e, e'] at h5
        exact no ⟨l, u, c2, q', h4, h5.symm⟩
    · rcases set_cases h2 with ⟨e2, q'⟩ | ⟨n2, q'⟩
      · exfalso
        have e : upL loc i p j = loc j := if_neg n1
        have e' : upL loc i p l = p := if_pos e2
        rw [e, e'] at h5
        exact no ⟨j, t, c1, q, h3, h5⟩
      · have e1 : upL loc i p j = loc j := if_neg n1
        have e2 : upL loc i p l = loc l := if_neg n2
        rw [e1, e2] at h5
        exact s.inj j l t u c1 c2 q q' h3 h4 h5
/-- behind an expression and the store of its value -/
theorem put_ok {i : Nat} {r : Rv} {ρ2 : Env} {v : V} (s0 : SOk W ρ loc σ H Hf) (g : Ge ρ loc H Hf ρ' H' Hf') (s : SOk W ρ' loc σ H' Hf') (o : RvOk W H v H' Hf' r) (hp : putV i r ρ' = some ρ2) :
    ∃ loc2, Go ρ loc H Hf ρ2 loc2 H' Hf' ∧ SOk W ρ2 loc2 (σ.set i (some v)) H' Hf' := by
  unfold putV at hp
  split at hp
  · rename_i hc
    cases hp
    have par1 : ∀ (x : Sl), (∀ c, x ≠ .par c) → ∀ (j : Nat) (c' : C), (ρ'.set i x)[j]? = some (Sl.par c') → j ≠ i ∧ ρ'[j]? = some (Sl.par c') := fun x hx j c' h => by
      rcases set_cases h with ⟨_, q⟩ | q
      · exact absurd q.symm (hx c')
      · exact q
    have par2 : ∀ (j : Nat) (c : C), ρ'[j]? = some (Sl.par c) → j ≠ i := fun j c h e => by
      subst e
      rw [h] at hc
      cases hc.2
    cases r with
    | imm d =>
      refine ⟨loc, ⟨g.there, g.keep, g.frz, fun j c h => ?_, fun j c h => ?_, fun j c h => ?_⟩, s.putImm o hc.1⟩
      · obtain ⟨n, q⟩ := par1 _ (fun c e => by cases e) j c h
        exact ⟨g.par j c q, rfl⟩
      · obtain ⟨c', q⟩ := g.parK j c h
        exact ⟨c', by rw [List.getElem?_set_ne (Ne.symm (par2 j c' q))]; exact q⟩
      · rcases set_cases h with ⟨_, q⟩ | ⟨_, q⟩
        · cases q
        · obtain ⟨c2, q2⟩ := g.own j c q
          exact .inr ⟨j, c2, q2, rfl⟩
    | own cc =>
      obtain ⟨p, rfl, hp, hpf, oo⟩ := o
      refine ⟨upL loc i p, ⟨g.there, g.keep, g.frz, fun j c h => ?_, fun j c h => ?_, fun j c h => ?_⟩, s.putOwn hpf oo (fun z => s0.newNot hp (g.isOwn z)) hc.1⟩
      · obtain ⟨n, q⟩ := par1 _ (fun c e => by cases e) j c h
        exact ⟨g.par j c q, if_neg n⟩
      · obtain ⟨c', q⟩ := g.parK j c h
        exact ⟨c', by rw [List.getElem?_set_ne (Ne.symm (par2 j c' q))]; exact q⟩
      · rcases set_cases h with ⟨e, q⟩ | ⟨n, q⟩
        · refine .inl ?_
          have e' : upL loc i p j = p := if_pos e
          rw [e']; exact hp
        · obtain ⟨c2, q2⟩ := g.own j c q
          have e' : upL loc i p j = loc j := if_neg n
          rw [e']
          exact .inr ⟨j, c2, q2, rfl⟩
  · cases hp
end

/-! ### targets -/
inductive Tg where
  | nm (i : Nat) | tp (ts : List Tg)
mutual
def asg : Tg → D → Env → Option Env
  | .nm i, d, ρ => putV i (.imm d) ρ
  | .tp ts, .tup ds, ρ => asgL ts ds ρ
  | .tp ts, .lst ds, ρ => asgL ts ds ρ
  | .tp _, _, _ => none
def asgL : List Tg → List D → Env → Option Env
  | [], [], ρ => some ρ
  | t :: ts, d :: ds, ρ => (asg t d ρ).bind fun ρ1 => asgL ts ds ρ1
  | _, _, _ => none
end
mutual
def tvs : Tg → List Nat
  | .nm i => [i]
  | .tp ts => tvsL ts
def tvsL : List Tg → List Nat
  | [] => []
  | t :: ts => tvs t ++ tvsL ts
end
def Out (σ σ' : St) (vs : List Nat) : Prop := ∀ j, j ∉ vs → σ'[j]? = σ[j]?
def tG (W : Wd) (t : Tg) : TG := fun v σ H Q => ∃ ρ loc Hf d ρ', SOk W ρ loc σ H Hf ∧ Rp W Hf v d ∧ asg t d ρ = some ρ' ∧ ∀ σ', Out σ σ' (tvs t) → Ge ρ loc H Hf ρ' H Hf → SOk W ρ' loc σ' H Hf → Q σ' H
def tGs (W : Wd) (ts : List Tg) : TGs := fun vs σ H Q => ∃ ρ loc Hf ds ρ', SOk W ρ loc σ H Hf ∧ RpL W Hf vs ds ∧ asgL ts ds ρ = some ρ' ∧ ∀ σ', Out σ σ' (tvsL ts) → Ge ρ loc H Hf ρ' H Hf → SOk W ρ' loc σ' H Hf → Q σ' H
section
variable {X : Cx} {e a b c : Expr}
theorem pg_imp {t t' : TG} (h : PG X e t) (k : ∀ v σ H Q, t' v σ H Q → t v σ H Q) : PG X e t' := ⟨fun pins s σ H v u Q I r w => h.run pins s σ H v u Q I r (k v σ H Q w)⟩
theorem pg_or2 {t u : TG} (h : PG X e t) (k : PG X e u) : PG X e (fun v σ H Q => t v σ H Q ∨ u v σ H Q) := ⟨fun pins s σ H v w' Q I r w => w.elim (h.run pins s σ H v w' Q I r) (k.run pins s σ H v w' Q I r)⟩
theorem pgs_imp {es : List Expr} {t t' : TGs} (h : PGs X es t) (k : ∀ v σ H Q, t' v σ H Q → t v σ H Q) : PGs X es t' := ⟨fun pins s σ H v u Q I r w => h.run pins s σ H v u Q I r (k v σ H Q w)⟩
theorem put_imm {W : Wd} {ρ ρ' : Env} {loc : Loc} {σ : St} {H Hf : Hp} {i : Nat} {d : D} {v : V} (s : SOk W ρ loc σ H Hf) (r : Rp W Hf v d) (h : putV i (.imm d) ρ = some ρ') : Ge ρ loc H Hf ρ' H Hf ∧ SOk W ρ' loc (σ.set i (some v)) H Hf := by
  have h' := h
  unfold putV at h
  split at h
  · rename_i hc
    cases h
    refine ⟨⟨fun _ h => h, fun _ _ h _ => h, fun _ _ _ _ => rfl, fun j c h => ?_, fun j c h => ?_, fun j c h => ?_⟩, s.putImm r hc.1⟩
    · rcases set_cases h with ⟨_, q⟩ | ⟨_, q⟩
      · cases q
      · exact ⟨c, q⟩
    · rcases set_cases h with ⟨_, q⟩ | ⟨_, q⟩
      · cases q
      · exact ⟨c, q⟩
    · have n : j ≠ i := fun e => by
        subst e
        rw [h] at hc
        cases hc.2
      exact ⟨c, by rw [List.getElem?_set_ne (Ne.symm n)]; exact h⟩
  · cases h
theorem pgt_name {i : Nat} (h : PG X e (gName i)) : PG X e (tG (wd X) (.nm i)) := pg_imp h fun v σ H Q ⟨ρ, loc, Hf, d, ρ', s, r, hp, k⟩ => by
  unfold asg at hp
  obtain ⟨g, s'⟩ := put_imm s r hp
  refine k _ (fun j hj => ?_) g s'
  rw [List.getElem?_set_ne]
  intro e
  subst e
  exact hj (by unfold tvs; exact List.mem_singleton.mpr rfl)
theorem pgt_nil : PGs X [] (tGs (wd X) []) := pgs_imp pgs_nil fun v σ H Q ⟨ρ, loc, Hf, ds, ρ', s, r, hp, k⟩ => by
  cases r with
  | nil => unfold asgL at hp; cases hp; exact ⟨rfl, k σ (fun _ _ => rfl) .refl s⟩
  | cons _ _ => unfold asgL at hp; cases hp
theorem pgt_cons {es : List Expr} {t : Tg} {ts : List Tg} (h1 : PG X e (tG (wd X) t)) (h2 : PGs X es (tGs (wd X) ts)) (hs : (assignEach (e :: es) X.env).map (·.2) = assign e X.env :: (assignEach es X.env).map (·.2)) : PGs X (e :: es) (tGs (wd X) (t :: ts)) :=
  pgs_imp (pgs_cons h1 h2 hs) fun v σ H Q ⟨ρ, loc, Hf, ds, ρ', s, r, hp, k⟩ => by
    cases r with
    | nil => unfold asgL at hp; cases hp
    | cons r rr =>
      unfold asgL at hp
      obtain ⟨ρ1, q1, q2⟩ := Option.bind_eq_some_iff.mp hp
      exact ⟨_, _, rfl, ρ, loc, Hf, _, ρ1, s, r, q1, fun σ1 u1 g1 s1 => ⟨ρ1, loc, Hf, _, ρ', s1, rr, q2, fun σ2 u2 g2 s2 => k σ2 (fun j hj => by
        unfold tvsL at hj
        rw [List.mem_append, not_or] at hj
        exact (u2 j hj.2).trans (u1 j hj.1)) (g1.trans g2) s2⟩⟩
theorem asgL_len : ∀ {ts : List Tg} {ds : List D} {ρ ρ' : Env}, asgL ts ds ρ = some ρ' → ts.length = ds.length
  | [], [], _, _, _ => rfl
  | [], _ :: _, _, _, h => by unfold asgL at h; cases h
  | _ :: _, [], _, _, h => by unfold asgL at h; cases h
  | t :: ts, d :: ds, ρ, ρ', h => by
    unfold asgL at h
    obtain ⟨ρ1, q1, q2⟩ := Option.bind_eq_some_iff.mp h
    rw [List.length_cons, List.length_cons, asgL_len q2]
theorem pgt_tup {es : List Expr} {ts : List Tg} {k : Nat} {pos : Pos} (hc : X.calm = true) (h : PGs X es (tGs (wd X) ts)) (hn : (assignEach es X.env).length = ts.length) (hst : (assignEach es X.env).findIdx? (·.1) = none) : PG X (.Tuple es k pos) (tG (wd X) (.tp ts)) :=
  pg_imp (pg_or2 (pg_tup hc h hn hst) (pg_unl hc h hn hst)) fun v σ H Q ⟨ρ, loc, Hf, d, ρ', s, r, hp, k⟩ => by
    cases r with
    | tup h1 _ rr =>
      unfold asg at hp
      exact .inl ⟨_, _, rfl, sqT_fz (s.sub _ _ h1), by rw [rr.length]; exact (asgL_len hp).symm, ρ, loc, Hf, _, ρ', s, rr, hp, fun σ' u => k σ' (by unfold tvs; exact u)⟩
    | lst h1 rr =>
      unfold asg at hp
      exact .inr ⟨_, _, rfl, .of (s.sub _ _ h1), by rw [rr.length]; exact (asgL_len hp).symm, ρ, loc, Hf, _, ρ', s, rr, hp, fun σ' u => k σ' (by unfold tvs; exact u)⟩
    | _ => unfold asg at hp; cases hp

/-! ### statements -/
inductive Fw where
  | nx | bk | ct | rt (r : Rv)
abbrev Fs := Env → Option (Fw × Env)
/-- what is handed back -/
def RtOk (W : Wd) (ρ : Env) (loc : Loc) (H : Hp) (v : V) (H' Hf' : Hp) : Rv → Prop
  | .imm d => Rp W Hf' v d
  | .own c => ∃ p, v = .ref p ∧ Hf' p = none ∧ OwnAt W H' Hf' p c ∧ (H p = none ∨ ∃ (j : Nat) (c' : C), ρ[j]? = some (Sl.own c') ∧ loc j = p)
def Post (W : Wd) (D : Ends) (ρ : Env) (loc : Loc) (H : Hp) (σ' : St) (H' Hf' : Hp) : Fw → Prop
  | .nx => D.nx σ' H'
  | .bk => D.bk σ' H'
  | .ct => D.ct σ' H'
  | .rt r => ∀ v, RtOk W ρ loc H v H' Hf' r → D.rt v H'
def tS (W : Wd) (F : Fs) : TS := fun D σ H => ∃ ρ loc Hf fl ρ', SOk W ρ loc σ H Hf ∧ F ρ = some (fl, ρ') ∧
  ∀ σ' loc' H' Hf', Go ρ loc H Hf ρ' loc' H' Hf' → SOk W ρ' loc' σ' H' Hf' → Post W D ρ loc H σ' H' Hf' fl
abbrev PSt (X : Cx) (st : Stmt) (F : Fs) := PS X st (tS (wd X) F)
abbrev PSts (X : Cx) (st : List Stmt) (F : Fs) := PSs X st (tS (wd X) F)
theorem RtOk.back {W : Wd} {ρ ρ1 : Env} {loc loc1 : Loc} {H Hf H1 Hf1 H' Hf' : Hp} {v : V} {r : Rv} (g : Go ρ loc H Hf ρ1 loc1 H1 Hf1) (h : RtOk W ρ1 loc1 H1 v H' Hf' r) : RtOk W ρ loc H v H' Hf' r := by
  cases r with
  | imm d => exact h
  | own c =>
    obtain ⟨p, h1, h2, h3, h4⟩ := h
    refine ⟨p, h1, h2, h3, ?_⟩
    rcases h4 with z | ⟨j, c', z1, z2⟩
    · exact .inl (g.there _ z)
    · rcases g.own j c' z1 with q | ⟨k, c2, q1, q2⟩
      · exact .inl (z2 ▸ q)
      · exact .inr ⟨k, c2, q1, q2.trans z2⟩
theorem Post.back {W : Wd} {D : Ends} {ρ ρ1 : Env} {loc loc1 : Loc} {H Hf H1 Hf1 H' Hf' : Hp} {σ' : St} {fl : Fw} (g : Go ρ loc H Hf ρ1 loc1 H1 Hf1) (h : Post W D ρ loc H σ' H' Hf' fl) : Post W D ρ1 loc1 H1 σ' H' Hf' fl := by
  cases fl with
  | nx => exact h
  | bk => exact h
  | ct => exact h
  | rt r => exact fun v o => h v (o.back g)
def skipS : Fs := fun ρ => some (.nx, ρ)
def seqS (F G : Fs) : Fs := fun ρ => (F ρ).bind fun x => match x.1 with
  | .nx => G x.2
  | fl => some (fl, x.2)
theorem psts_nil : PSts X [] skipS := pss_imp pss_nil fun D σ H ⟨ρ, loc, Hf, fl, ρ', s, hF, k⟩ => by
  cases hF
  exact k σ loc H Hf .refl s
theorem seq_read {W : Wd} {F G : Fs} {D : Ends} {σ : St} {H : Hp} (h : tS W (seqS F G) D σ H) : tSeq (tS W F) (tS W G) D σ H := by
  obtain ⟨ρ, loc, Hf, fl, ρ', s, hF, k⟩ := h
  unfold seqS at hF
  obtain ⟨⟨f1, ρ1⟩, q1, hF⟩ := Option.bind_eq_some_iff.mp hF
  refine ⟨ρ, loc, Hf, f1, ρ1, s, q1, fun σ1 loc1 H1 Hf1 g1 s1 => ?_⟩
  cases f1 with
  | nx =>
    dsimp only at hF
    exact ⟨ρ1, loc1, Hf1, fl, ρ', s1, hF, fun σ2 loc2 H2 Hf2 g2 s2 => (k σ2 loc2 H2 Hf2 (g1.trans s1 g2) s2).back g1⟩
  | bk => cases hF; exact k σ1 loc1 H1 Hf1 g1 s1
  | ct => cases hF; exact k σ1 loc1 H1 Hf1 g1 s1
  | rt r => cases hF; exact k σ1 loc1 H1 Hf1 g1 s1
theorem psts_cons {st : Stmt} {rest : List Stmt} {F G : Fs} (h1 : PSt X st F) (h2 : PSts X rest G) : PSts X (st :: rest) (seqS F G) := pss_imp (pss_cons h1 h2) fun D σ H h => seq_read h
theorem pst_pass {pos} : PSt X (.Pass pos) skipS := ps_imp ps_pass fun D σ H ⟨ρ, loc, Hf, fl, ρ', s, hF, k⟩ => by
  cases hF
  exact k σ loc H Hf .refl s
def flowS (fl : Fw) : Fs := fun ρ => some (fl, ρ)
theorem pst_break {pos} : PSt X (.Break pos) (flowS .bk) := ps_imp ps_break fun D σ H ⟨ρ, loc, Hf, fl, ρ', s, hF, k⟩ => by
  cases hF
  exact k σ loc H Hf .refl s
theorem pst_continue {pos} : PSt X (.Continue pos) (flowS .ct) := ps_imp ps_continue fun D σ H ⟨ρ, loc, Hf, fl, ρ', s, hF, k⟩ => by
  cases hF
  exact k σ loc H Hf .refl s
/-- what is never come to -/
def stuckS : Fs := fun _ => none
theorem pst_never {st : Stmt} : PSt X st stuckS := ⟨fun _ _ _ _ _ _ ⟨_, _, _, _, _, _, hF, _⟩ => by cases hF⟩
def dropS (F : Fe) : Fs := fun ρ => (F ρ).map fun x => (.nx, x.2)
theorem pst_expr {F : Fe} {pos} (h : PX X e F) (hs : swapsWith e none pos.line X.env = pure false) : PSt X (.Expr e pos) (dropS F) := ps_imp (ps_expr h hs) fun D σ H ⟨ρ, loc, Hf, fl, ρ', s, hF, k⟩ => by
  unfold dropS at hF
  obtain ⟨⟨r, ρ1⟩, q1, q2⟩ := Option.map_eq_some_iff.mp hF
  cases q2
  exact ⟨ρ, loc, Hf, r, _, s, q1, fun v H' Hf' g s' o => k σ loc H' Hf' g.go s'⟩
def retS (F : Fe) : Fs := fun ρ => (F ρ).map fun x => (.rt x.1, x.2)
theorem pst_ret {F : Fe} {pos} (h : PX X e F) : PSt X (.Return (some e) pos) (retS F) := ps_imp (ps_ret h) fun D σ H ⟨ρ, loc, Hf, fl, ρ', s, hF, k⟩ => by
  unfold retS at hF
  obtain ⟨⟨r, ρ1⟩, q1, q2⟩ := Option.map_eq_some_iff.mp hF
  cases q2
  refine ⟨ρ, loc, Hf, r, _, s, q1, fun v H' Hf' g s' o => k σ loc H' Hf' g.go s' v ?_⟩
  cases r with
  | imm d => exact o
  | own c => obtain ⟨p, h1, h2, h3, h4⟩ := o; exact ⟨p, h1, h3, h4, .inl h2⟩
def retVar (i : Nat) : Fs := fun ρ => match ρ[i]? with
  | some (.imm d) => some (.rt (.imm d), ρ)
  | some (.own c) => some (.rt (.own c), ρ)
  | _ => none
theorem pst_retVar {i : Nat} {pos} (h : PE X e (tVar i)) : PSt X (.Return (some e) pos) (retVar i) := ps_imp (ps_ret h) fun D σ H ⟨ρ, loc, Hf, fl, ρ', s, hF, k⟩ => by
  unfold retVar at hF
  split at hF
  · rename_i d q
    cases hF
    obtain ⟨v, h1, r⟩ := s.imm i d q
    exact ⟨v, h1, k σ loc H Hf .refl s v r⟩
  · rename_i c q
    cases hF
    obtain ⟨h1, h2, h3⟩ := s.own i _ c q rfl
    exact ⟨_, h1, k σ loc H Hf .refl s _ ⟨_, rfl, h2, h3, .inr ⟨i, c, q, rfl⟩⟩⟩
  · cases hF
def retNone : Fs := fun ρ => some (.rt (.imm .non), ρ)
theorem pst_retN {pos} : PSt X (.Return none pos) retNone := ps_imp ps_retN fun D σ H ⟨ρ, loc, Hf, fl, ρ', s, hF, k⟩ => by
  cases hF
  exact k σ loc H Hf .refl s _ .non
def ifS (T : Ft) (F G : Fs) : Fs := fun ρ => (T ρ).bind fun x => if x.1 = true then F x.2 else G x.2
theorem pst_if {T : Ft} {F G : Fs} {as bs : List Stmt} {pos} (hc : PB X c T) (ha : PSts X as F) (hb : PSts X bs G) : PSt X (.If c as bs pos) (ifS T F G) := ps_imp (ps_if hc ha hb) fun D σ H ⟨ρ, loc, Hf, fl, ρ', s, hF, k⟩ => by
  unfold ifS at hF
  obtain ⟨⟨z1, ρ1⟩, h1, hF⟩ := Option.bind_eq_some_iff.mp hF
  refine ⟨ρ, loc, Hf, z1, ρ1, s, h1, fun H1 Hf1 g1 s1 => ?_⟩
  cases z1 with
  | true =>
    simp only [if_true] at hF ⊢
    exact ⟨ρ1, loc, Hf1, fl, ρ', s1, hF, fun σ2 loc2 H2 Hf2 g2 s2 => (k σ2 loc2 H2 Hf2 (g1.go.trans s1 g2) s2).back g1.go⟩
  | false =>
    simp only [Bool.false_eq_true, if_false] at hF ⊢
    exact ⟨ρ1, loc, Hf1, fl, ρ', s1, hF, fun σ2 loc2 H2 Hf2 g2 s2 => (k σ2 loc2 H2 Hf2 (g1.go.trans s1 g2) s2).back g1.go⟩
/-- x = e -/
def setS (i : Nat) (F : Fe) : Fs := fun ρ => (F ρ).bind fun x => (putV i x.1 x.2).map fun ρ' => (.nx, ρ')
theorem set_read {W : Wd} {i : Nat} {F : Fe} {D : Ends} {σ : St} {H : Hp} (h : tS W (setS i F) D σ H) : tAsg (tX W F) (gName i) D σ H := by
  obtain ⟨ρ, loc, Hf, fl, ρ', s, hF, k⟩ := h
  unfold setS at hF
  obtain ⟨⟨r, ρ1⟩, q1, hF⟩ := Option.bind_eq_some_iff.mp hF
  obtain ⟨ρ2, q2, q3⟩ := Option.map_eq_some_iff.mp hF
  cases q3
  refine ⟨ρ, loc, Hf, r, ρ1, s, q1, fun v H' Hf' g s' o => ?_⟩
  obtain ⟨loc2, g2, s2⟩ := put_ok s g s' o q2
  exact k _ loc2 H' Hf' g2 s2
/-- target = e, as data -/
def asgS (t : Tg) (F : Fd) : Fs := fun ρ => (F ρ).bind fun x => (asg t x.1 x.2).map fun ρ' => (.nx, ρ')
theorem asg_read {W : Wd} {t : Tg} {F : Fd} {D : Ends} {σ : St} {H : Hp} (h : tS W (asgS t F) D σ H) : tAsg (tD W F) (tG W t) D σ H := by
  obtain ⟨ρ, loc, Hf, fl, ρ', s, hF, k⟩ := h
  unfold asgS at hF
  obtain ⟨⟨r, ρ1⟩, q1, hF⟩ := Option.bind_eq_some_iff.mp hF
  obtain ⟨ρ2, q2, q3⟩ := Option.map_eq_some_iff.mp hF
  cases q3
  exact ⟨ρ, loc, Hf, r, ρ1, s, q1, fun v H' Hf' g s' o => ⟨ρ1, loc, Hf', r, _, s', o, q2, fun σ' _ g2 s2 => k σ' loc H' Hf' (g.trans g2).go s2⟩⟩
end
end Ev
/-! text Ev10 -/
set_option Elab.async false
set_option linter.all false
set_option maxRecDepth 100000
set_option maxHeartbeats 4000000
namespace Ev
open PySem L2

/-! ### loops -/
def loopF (t : Tg) (B : Fs) : List D → Fs
  | [], ρ => some (.nx, ρ)
  | d :: ds, ρ => (asg t d ρ).bind fun ρ1 => (B ρ1).bind fun y => match y.1 with
    | .nx => loopF t B ds y.2
    | .ct => loopF t B ds y.2
    | .bk => some (.nx, y.2)
    | .rt r => some (.rt r, y.2)
def forS (t : Tg) (FI : Fi) (B : Fs) : Fs := fun ρ => (FI ρ).bind fun x => loopF t B x.1 x.2
section
variable {X : Cx} {tg e a b c : Expr}
theorem for_read {W : Wd} {t : Tg} {FI : Fi} {B : Fs} {D : Ends} {σ : St} {H : Hp} (h : tS W (forS t FI B) D σ H) : tFor (tI W FI) (tG W t) (tS W B) D σ H := by
  obtain ⟨ρ, loc, Hf, fl, ρ', s, hF, k⟩ := h
  unfold forS at hF
  obtain ⟨⟨items, ρ1⟩, q1, hF⟩ := Option.bind_eq_some_iff.mp hF
  dsimp only at hF
  refine ⟨ρ, loc, Hf, items, ρ1, s, q1, fun J H1 Hf1 g1 s1 feed => ?_⟩
  refine ⟨fun i m σ' H' => m = items.length - i ∧ i ≤ items.length ∧ ∃ ρi loci Hfi, SOk W ρi loci σ' H' Hfi ∧ Go ρ loc H Hf ρi loci H' Hfi ∧ (∀ a o, Hf1 a = some o → Hfi a = some o) ∧ loopF t B (items.drop i) ρi = some (fl, ρ'),
    ⟨_, rfl, Nat.zero_le _, ρ1, loc, Hf1, s1, g1.go, fun _ _ h => h, hF⟩, ?_⟩
  rintro i m σ' H' ⟨rfl, hi, ρi, loci, Hfi, si, gi, fi, hl⟩
  by_cases hlt : i < items.length
  · have hd : items[i]? = some items[i] := List.getElem?_eq_getElem hlt
    have hdrop : items.drop i = items[i] :: items.drop (i + 1) := List.drop_eq_getElem_cons hlt
    rw [hdrop] at hl
    unfold loopF at hl
    obtain ⟨ρ2, q2, hl⟩ := Option.bind_eq_some_iff.mp hl
    obtain ⟨⟨f1, ρ3⟩, q3, hl⟩ := Option.bind_eq_some_iff.mp hl
    obtain ⟨go, yl⟩ := feed.go i _ H' Hfi hd fi si.sub
    refine .inr ⟨go, _, fun σ2 H2 h => h, fun x H3 y => ?_⟩
    obtain ⟨Hf3, E, r⟩ := yl x H3 y
    have s3 := si.ext E
    have g3 : Go ρ loc H Hf ρi loci H3 Hf3 := gi.trans si E.ge.go
    refine ⟨ρi, loci, Hf3, _, ρ2, s3, r, q2, fun σ4 _ g4 s4 => ?_⟩
    have g5 := g3.trans s3 g4.go
    refine ⟨ρ2, loci, Hf3, f1, ρ3, s4, q3, fun σ6 loc6 H6 Hf6 g6 s6 => ?_⟩
    have g7 := g5.trans s4 g6
    have fx : ∀ a o, Hf1 a = some o → Hf6 a = some o := fun a o q => g6.fixed s4 a o (E.fixed si.sub a o (fi a o q))
    cases f1 with
    | nx => exact ⟨_, by omega, rfl, hlt, ρ3, loc6, Hf6, s6, g7, fx, hl⟩
    | ct => exact ⟨_, by omega, rfl, hlt, ρ3, loc6, Hf6, s6, g7, fx, hl⟩
    | bk => cases hl; exact k σ6 loc6 H6 Hf6 g7 s6
    | rt rv =>
      cases hl
      exact fun v o => k σ6 loc6 H6 Hf6 g7 s6 v (o.back g5)
  · have e : i = items.length := by omega
    subst e
    rw [List.drop_length] at hl
    cases hl
    exact .inl ⟨feed.stop H' Hfi fi si.sub, k σ' loci H' Hfi gi si⟩
theorem pst_for {t : Tg} {FI : Fi} {B : Fs} {body : List Stmt} {pos : Pos} (hp : PassesOwn (model X.prog X.w) X.A X.env X.xe) (hc : X.calm = true) (hi : PIt X tg e FI) (hg : PG X tg (tG (wd X) t)) (hb : PSts X body B)
    (hs : ∀ x, foldedSetIterable e X.env x = pure x) : PSt X (.For tg e body [] pos) (forS t FI B) := ps_imp (ps_for hp hc hi hg hb hs) fun D σ H h => for_read h
def whileF (T : Ft) (B : Fs) : Nat → Fs
  | 0, _ => none
  | n + 1, ρ => (T ρ).bind fun x => if x.1 = true then (B x.2).bind fun y => match y.1 with
    | .nx => whileF T B n y.2
    | .ct => whileF T B n y.2
    | .bk => some (.nx, y.2)
    | .rt r => some (.rt r, y.2)
    else some (.nx, x.2)
theorem while_read {W : Wd} {T : Ft} {B : Fs} {n : Nat} {D : Ends} {σ : St} {H : Hp} (h : tS W (whileF T B n) D σ H) : tWhile (tT W T) (tS W B) D σ H := by
  obtain ⟨ρ, loc, Hf, fl, ρ', s, hF, k⟩ := h
  refine ⟨fun m σ' H' => ∃ ρm locm Hfm, SOk W ρm locm σ' H' Hfm ∧ Go ρ loc H Hf ρm locm H' Hfm ∧ whileF T B m ρm = some (fl, ρ'), ⟨n, ρ, loc, Hf, s, .refl, hF⟩, ?_⟩
  rintro m σ' H' ⟨ρm, locm, Hfm, sm, gm, hm⟩
  cases m with
  | zero => cases hm
  | succ m =>
    unfold whileF at hm
    obtain ⟨⟨z, ρ1⟩, q1, hm⟩ := Option.bind_eq_some_iff.mp hm
    refine ⟨ρm, locm, Hfm, z, ρ1, sm, q1, fun H1 Hf1 g1 s1 => ?_⟩
    have g2 := gm.trans sm g1.go
    cases z with
    | false =>
      simp only [Bool.false_eq_true, if_false] at hm ⊢
      cases hm
      exact k σ' locm H1 Hf1 g2 s1
    | true =>
      simp only [if_true] at hm ⊢
      obtain ⟨⟨f1, ρ3⟩, q3, hm⟩ := Option.bind_eq_some_iff.mp hm
      refine ⟨_, fun _ _ h => h, ρ1, locm, Hf1, f1, ρ3, s1, q3, fun σ6 loc6 H6 Hf6 g6 s6 => ?_⟩
      have g7 := g2.trans s1 g6
      cases f1 with
      | nx => exact ⟨m, Nat.lt_succ_self _, ρ3, loc6, Hf6, s6, g7, hm⟩
      | ct => exact ⟨m, Nat.lt_succ_self _, ρ3, loc6, Hf6, s6, g7, hm⟩
      | bk => cases hm; exact k σ6 loc6 H6 Hf6 g7 s6
      | rt rv =>
        cases hm
        exact fun v o => k σ6 loc6 H6 Hf6 g7 s6 v (o.back g2)
theorem pst_while {T : Ft} {B : Fs} {n : Nat} {body : List Stmt} {pos : Pos} (hp : PassesOwn (model X.prog X.w) X.A X.env X.xe) (hc : PB X c T) (hb : PSts X body B) : PSt X (.While c body [] pos) (whileF T B n) :=
  ps_imp (ps_while hp hc hb) fun D σ H h => while_read h
end

/-! ### comprehensions -/
def wipeE (ρ : Env) : List Nat → Env
  | [] => ρ
  | v :: vs => (wipeE ρ vs).set v .un
/-- the slots vs as in ρ, the others as in ρb -/
def backE (ρ ρb : Env) (vs : List Nat) : Env := (List.range ρb.length).map fun j => if j ∈ vs then (ρ[j]?).getD .un else (ρb[j]?).getD .un
theorem wipeE_len (ρ : Env) : ∀ vs, (wipeE ρ vs).length = ρ.length
  | [] => rfl
  | v :: vs => by unfold wipeE; rw [List.length_set, wipeE_len ρ vs]
theorem wipeE_in {ρ : Env} {j : Nat} {t : Sl} : ∀ {vs : List Nat}, (wipeE ρ vs)[j]? = some t → (j ∈ vs ∧ t = .un) ∨ (j ∉ vs ∧ ρ[j]? = some t)
  | [], h => .inr ⟨by simp, h⟩
  | v :: vs, h => by
    unfold wipeE at h
    rcases set_cases h with ⟨e, q⟩ | ⟨n, q⟩
    · exact .inl ⟨by rw [e]; exact List.mem_cons_self, q⟩
    · rcases wipeE_in q with ⟨e, q⟩ | ⟨n2, q⟩
      · exact .inl ⟨List.mem_cons_of_mem _ e, q⟩
      · exact .inr ⟨by simp only [List.mem_cons, not_or]; exact ⟨n, n2⟩, q⟩
theorem wipeE_out {ρ : Env} {j : Nat} : ∀ {vs : List Nat}, j ∉ vs → (wipeE ρ vs)[j]? = ρ[j]?
  | [], _ => rfl
  | v :: vs, h => by
    simp only [List.mem_cons, not_or] at h
    unfold wipeE
    rw [List.getElem?_set_ne (Ne.symm h.1)]
    exact wipeE_out h.2
theorem wipe_out' {σ : St} {i : Nat} : ∀ {vs : List Nat}, i ∉ vs → (wipe σ vs)[i]? = σ[i]?
  | [], _ => rfl
  | v :: vs, h => by
    simp only [List.mem_cons, not_or] at h
    unfold wipe
    rw [List.getElem?_set_ne (Ne.symm h.1)]
    exact wipe_out' h.2
theorem wipe_in' {σ : St} {i : Nat} : ∀ {vs : List Nat}, i ∈ vs → (wipe σ vs)[i]? = if i < σ.length then some none else none
  | v :: vs, h => by
    unfold wipe
    by_cases e : v = i
    · subst e
      by_cases hl : v < σ.length
      · rw [List.getElem?_set_self (by rw [wipe_length]; exact hl), if_pos hl]
      · rw [List.getElem?_eq_none (by rw [List.length_set, wipe_length]; omega), if_neg hl]
    · rw [List.getElem?_set_ne e]
      rcases List.mem_cons.mp h with q | q
      · exact absurd q.symm e
      · exact wipe_in' q
theorem wipe_eq {σ σ' : St} {vs ws : List Nat} (hl : σ'.length = σ.length) (h : Out σ σ' ws) (hs : ∀ i ∈ ws, i ∈ vs) : wipe σ' vs = wipe σ vs := by
  apply List.ext_getElem?
  intro j
  by_cases hj : j ∈ vs
  · rw [wipe_in' hj, wipe_in' hj, hl]
  · rw [wipe_out' hj, wipe_out' hj]
    exact h j fun q => hj (hs j q)
section
variable {W : Wd} {ρ ρ' : Env} {loc loc' : Loc} {σ : St} {H Hf H' Hf' : Hp}
theorem SOk.wipe (s : SOk W ρ loc σ H Hf) (vs : List Nat) : SOk W (wipeE ρ vs) loc (wipe σ vs) H Hf where
  sub := s.sub
  len := by rw [wipe_length, wipeE_len]; exact s.len
  imm := fun j d h => by
    rcases wipeE_in h with ⟨_, q⟩ | ⟨n, q⟩
    · cases q
    · obtain ⟨v, h1, r⟩ := s.imm j d q
      exact ⟨v, by rw [wipe_out' n]; exact h1, r⟩
  own := fun j t c h1 h2 => by
    rcases wipeE_in h1 with ⟨_, q⟩ | ⟨n, q⟩
    · subst q; cases h2
    · obtain ⟨x, y, o⟩ := s.own j t c q h2
      exact ⟨by rw [wipe_out' n]; exact x, y, o⟩
  inj := fun j l t u c d h1 h2 h3 h4 h5 => by
    rcases wipeE_in h1 with ⟨_, q⟩ | ⟨_, q⟩
    · subst q; cases h3
    · rcases wipeE_in h2 with ⟨_, q'⟩ | ⟨_, q'⟩
      · subst q'; cases h4
      · exact s.inj j l t u c d q q' h3 h4 h5
theorem Ge.wiped {vs : List Nat} (g : Ge (wipeE ρ vs) loc H Hf ρ' H' Hf') : Ge (wipeE ρ vs) loc H Hf (wipeE ρ' vs) H' Hf' where
  there := g.there
  keep := g.keep
  frz := g.frz
  own := fun i c h => by
    rcases wipeE_in h with ⟨_, q⟩ | ⟨_, q⟩
    · cases q
    · exact g.own i c q
  par := fun i c h => by
    rcases wipeE_in h with ⟨_, q⟩ | ⟨_, q⟩
    · cases q
    · exact g.par i c q
  parK := fun i c h => by
    rcases wipeE_in h with ⟨_, q⟩ | ⟨n, q⟩
    · cases q
    · obtain ⟨c', q'⟩ := g.parK i c h
      exact ⟨c', by rw [wipeE_out n]; exact q'⟩
/-- a thing apart changes -/
theorem SOk.other (s : SOk W ρ loc σ H Hf) {p : Addr} {u : HO} (hf : Hf p = none) (no : ¬ IsOwn ρ loc p) : SOk W ρ loc σ (upd H p u) Hf where
  sub := fun a o h => by rw [upd_ne (ne_of_none h hf)]; exact s.sub a o h
  len := s.len
  imm := s.imm
  own := fun j t c h1 h2 => by
    obtain ⟨x, y, o⟩ := s.own j t c h1 h2
    have ne : loc j ≠ p := fun e => no ⟨j, t, c, h1, h2, e⟩
    exact ⟨x, y, o.mono (fun v q => by rw [upd_ne ne]; exact q) fun _ _ q => q⟩
  inj := s.inj
theorem Ge.other (g : Ge ρ loc H Hf ρ' H' Hf') {p : Addr} {u : HO} (hp : H p = none) : Ge ρ loc H Hf ρ' (upd H' p u) Hf' where
  there := fun a h => by
    by_cases e : a = p
    · rw [e]; exact hp
    · rw [upd_ne e] at h; exact g.there a h
  keep := fun a o h n => by rw [upd_ne (ne_of_none h hp)]; exact g.keep a o h n
  frz := g.frz
  own := g.own
  par := g.par
  parK := g.parK
theorem Ge.step {ρ1 : Env} {H1 Hf1 : Hp} (g : Ge ρ loc H Hf ρ1 H1 Hf1) (E : Ext H1 Hf1 H' Hf') : Ge ρ loc H Hf ρ1 H' Hf' := g.trans E.ge
theorem backE_get {ρ ρb : Env} {vs : List Nat} {j : Nat} {t : Sl} (hl : ρ.length = ρb.length) (h : (backE ρ ρb vs)[j]? = some t) : (j ∈ vs ∧ ρ[j]? = some t) ∨ (j ∉ vs ∧ ρb[j]? = some t) := by
  unfold backE at h
  rw [List.getElem?_map] at h
  obtain ⟨k, h1, h2⟩ := Option.map_eq_some_iff.mp h
  obtain ⟨hk, h3⟩ := List.getElem?_eq_some_iff.mp h1
  rw [List.length_range] at hk
  rw [List.getElem_range] at h3
  subst h3
  by_cases hj : j ∈ vs
  · rw [if_pos hj] at h2
    refine .inl ⟨hj, ?_⟩
    rw [List.getElem?_eq_getElem (by omega)] at h2 ⊢
    exact congrArg some h2
  · rw [if_neg hj] at h2
    refine .inr ⟨hj, ?_⟩
    rw [List.getElem?_eq_getElem hk] at h2 ⊢
    exact congrArg some h2
theorem backE_of {ρ ρb : Env} {vs : List Nat} {j : Nat} {t : Sl} (hl : ρ.length = ρb.length) (h : (j ∈ vs ∧ ρ[j]? = some t) ∨ (j ∉ vs ∧ ρb[j]? = some t)) : (backE ρ ρb vs)[j]? = some t := by
  have hj : j < ρb.length := by
    rcases h with ⟨_, q⟩ | ⟨_, q⟩
    · rw [← hl]; exact (List.getElem?_eq_some_iff.mp q).1
    · exact (List.getElem?_eq_some_iff.mp q).1
  unfold backE
  rw [List.getElem?_map, List.getElem?_range hj]
  show some (if j ∈ vs then (ρ[j]?).getD Sl.un else (ρb[j]?).getD Sl.un) = some t
  rcases h with ⟨hm, q⟩ | ⟨hm, q⟩
  · rw [if_pos hm, q]; rfl
  · rw [if_neg hm, q]; rfl
/-- behind a block -/
theorem SOk.back {ρb : Env} {vs : List Nat} (s1 : SOk W ρ loc σ H Hf) (g : Ge (wipeE ρ vs) loc H Hf ρb H' Hf') (sb : SOk W ρb loc (L2.wipe σ vs) H' Hf') (fx : ∀ a o, Hf a = some o → Hf' a = some o) :
    SOk W (backE ρ ρb vs) loc σ H' Hf' ∧ Ge ρ loc H Hf (backE ρ ρb vs) H' Hf' := by
  have hl : ρ.length = ρb.length := by rw [← sb.len, wipe_length, s1.len]
  have notOwn : ∀ a, ¬ IsOwn ρ loc a → ¬ IsOwn (wipeE ρ vs) loc a := fun a n ⟨i, t, c, h1, h2, h3⟩ => by
    rcases wipeE_in h1 with ⟨_, q⟩ | ⟨_, q⟩
    · subst q; cases h2
    · exact n ⟨i, t, c, q, h2, h3⟩
  -- an object of a wiped slot stays
  have wiped : ∀ (j : Nat) (t : Sl) (c : C), j ∈ vs → ρ[j]? = some t → t.cont = some c → ¬ IsOwn (wipeE ρ vs) loc (loc j) := fun j t c hj h1 h2 ⟨i, u, d, k1, k2, k3⟩ => by
    rcases wipeE_in k1 with ⟨_, q⟩ | ⟨n, q⟩
    · subst q; cases k2
    · exact n (s1.inj i j u t d c q h1 k2 h2 k3 ▸ hj)
  have ownb : ∀ (j : Nat) (t : Sl) (c : C), ρb[j]? = some t → t.cont = some c → ∃ u d, ρ[j]? = some u ∧ u.cont = some d := fun j t c h1 h2 => by
    cases t with
    | un => cases h2
    | imm d => cases h2
    | own c' =>
      obtain ⟨d, q⟩ := g.own j c' h1
      rcases wipeE_in q with ⟨_, z⟩ | ⟨_, z⟩
      · cases z
      · exact ⟨_, d, z, rfl⟩
    | par c' =>
      obtain ⟨d, q⟩ := g.par j c' h1
      rcases wipeE_in q with ⟨_, z⟩ | ⟨_, z⟩
      · cases z
      · exact ⟨_, d, z, rfl⟩
  refine ⟨⟨sb.sub, ?_, fun j d h => ?_, fun j t c h1 h2 => ?_, fun j l t u c d h1 h2 h3 h4 h5 => ?_⟩, ⟨g.there, fun a o h n => g.keep a o h (notOwn a n), fun a o h n => g.frz a o h (notOwn a n), fun j c h => ?_, fun j c h => ?_, fun j c h => ?_⟩⟩
  · unfold backE; rw [List.length_map, List.length_range, ← hl]; exact s1.len
  · rcases backE_get hl h with ⟨_, q⟩ | ⟨n, q⟩
    · obtain ⟨v, x, r⟩ := s1.imm j d q
      exact ⟨v, x, r.mono fx⟩
    · obtain ⟨v, x, r⟩ := sb.imm j d q
      exact ⟨v, by rw [wipe_out' n] at x; exact x, r⟩
  · rcases backE_get hl h1 with ⟨m, q⟩ | ⟨n, q⟩
    · obtain ⟨x, y, o⟩ := s1.own j t c q h2
      have no := wiped j t c m q h2
      obtain ⟨u, hu⟩ := Option.ne_none_iff_exists'.mp o.there
      exact ⟨x, (g.frz _ u hu no).trans y, o.mono (fun v z => g.keep _ v z no) fx⟩
    · obtain ⟨x, y, o⟩ := sb.own j t c q h2
      exact ⟨by rw [wipe_out' n] at x; exact x, y, o⟩
  · have a1 : ∃ u' d', ρ[j]? = some u' ∧ u'.cont = some d' := by
      rcases backE_get hl h1 with ⟨_, q⟩ | ⟨_, q⟩
      · exact ⟨t, c, q, h3⟩
      · exact ownb j t c q h3
    have a2 : ∃ u' d', ρ[l]? = some u' ∧ u'.cont = some d' := by
      rcases backE_get hl h2 with ⟨_, q⟩ | ⟨_, q⟩
      · exact ⟨u, d, q, h4⟩
      · exact ownb l u d q h4
    obtain ⟨u1, d1, q1, q2⟩ := a1
    obtain ⟨u2, d2, q3, q4⟩ := a2
    exact s1.inj j l u1 u2 d1 d2 q1 q3 q2 q4 h5
  · rcases backE_get hl h with ⟨_, q⟩ | ⟨_, q⟩
    · exact ⟨c, q⟩
    · obtain ⟨d, q⟩ := g.own j c q
      rcases wipeE_in q with ⟨_, z⟩ | ⟨_, z⟩
      · cases z
      · exact ⟨d, z⟩
  · rcases backE_get hl h with ⟨_, q⟩ | ⟨_, q⟩
    · exact ⟨c, q⟩
    · obtain ⟨d, q⟩ := g.par j c q
      rcases wipeE_in q with ⟨_, z⟩ | ⟨_, z⟩
      · cases z
      · exact ⟨d, z⟩
  · by_cases m : j ∈ vs
    · exact ⟨c, backE_of hl (.inl ⟨m, h⟩)⟩
    · obtain ⟨c', q⟩ := g.parK j c (by rw [wipeE_out m]; exact h)
      exact ⟨c', backE_of hl (.inr ⟨m, q⟩)⟩
end
mutual
theorem asg_length : ∀ {t : Tg} {d : D} {ρ ρ' : Env}, asg t d ρ = some ρ' → ρ'.length = ρ.length
  | .nm i, d, ρ, ρ', h => by
    unfold asg putV at h
    split at h
    · cases h; rw [List.length_set]
    · cases h
  | .tp ts, .tup ds, ρ, ρ', h => by unfold asg at h; exact asgL_length h
  | .tp ts, .lst ds, ρ, ρ', h => by unfold asg at h; exact asgL_length h
  | .tp _, .non, _, _, h => by unfold asg at h; cases h
  | .tp _, .bl _, _, _, h => by unfold asg at h; cases h
  | .tp _, .int _, _, _, h => by unfold asg at h; cases h
  | .tp _, .str _, _, _, h => by unfold asg at h; cases h
  | .tp _, .dct _ _, _, _, h => by unfold asg at h; cases h
  | .tp _, .obj _ _, _, _, h => by unfold asg at h; cases h
  | .tp _, .scr _, _, _, h => by unfold asg at h; cases h
theorem asgL_length : ∀ {ts : List Tg} {ds : List D} {ρ ρ' : Env}, asgL ts ds ρ = some ρ' → ρ'.length = ρ.length
  | [], [], ρ, ρ', h => by unfold asgL at h; cases h; rfl
  | [], _ :: _, _, _, h => by unfold asgL at h; cases h
  | _ :: _, [], _, _, h => by unfold asgL at h; cases h
  | t :: ts, d :: ds, ρ, ρ', h => by
    unfold asgL at h
    obtain ⟨ρ1, q1, q2⟩ := Option.bind_eq_some_iff.mp h
    rw [asgL_length q2, asg_length q1]
end
theorem wipe_wipe (σ : St) (vs : List Nat) : wipe (wipe σ vs) vs = wipe σ vs := by
  apply List.ext_getElem?
  intro j
  by_cases hj : j ∈ vs
  · rw [wipe_in' hj, wipe_in' hj, wipe_length]
  · rw [wipe_out' hj]
/-- one clause -/
def lcF (t : Tg) (T : Ft) (FE : Fd) (vs : List Nat) : List D → Env → Option (List D × Env)
  | [], ρ => some ([], ρ)
  | d :: ds, ρ => (asg t d ρ).bind fun ρ1 => (T ρ1).bind fun x => if x.1 = true then (FE x.2).bind fun y => (lcF t T FE vs ds (wipeE y.2 vs)).map fun z => (y.1 :: z.1, z.2) else lcF t T FE vs ds (wipeE x.2 vs)
def compF (t : Tg) (FI : Fi) (T : Ft) (FE : Fd) (vs : List Nat) : Fe := fun ρ => if (tvs t).all (fun i => decide (i ∈ vs)) = true then (FI ρ).bind fun x => if x.1.length ≤ sizeLine then (lcF t T FE vs x.1 (wipeE x.2 vs)).map fun y => (.own (.lst y.1), backE x.2 y.2 vs) else none else none
theorem lc_read {W : Wd} {t : Tg} {FI : Fi} {T : Ft} {FE : Fd} {vs : List Nat} {σ : St} {H : Hp} {Q : VK} (h : tX W (compF t FI T FE vs) σ H Q) : tLc (tI W FI) (tG W t) (tT W T) (tD W FE) vs σ H Q := by
  obtain ⟨ρ, loc, Hf, rv, ρ', s, hF, k⟩ := h
  unfold compF at hF
  split at hF
  · rename_i htv
    obtain ⟨⟨items, ρ1⟩, q1, hF⟩ := Option.bind_eq_some_iff.mp hF
    dsimp only at hF
    split at hF
    · rename_i hz
      obtain ⟨⟨fin, ρb⟩, q2, q3⟩ := Option.map_eq_some_iff.mp hF
      cases q3
      have htv' : ∀ i ∈ tvs t, i ∈ vs := fun i hi => of_decide_eq_true (List.all_eq_true.mp htv i hi)
      refine ⟨ρ, loc, Hf, items, ρ1, s, q1, fun J H1 Hf1 g1 s1 feed D hD => ?_⟩
      have hDf : Hf1 D = none := free_of s1.sub hD
      have noD : ¬ IsOwn (wipeE ρ1 vs) loc D := (s1.wipe vs).newNot hD
      refine ⟨fun i m H' => m = items.length - i ∧ i ≤ items.length ∧ ∃ ρi Hfi accV accD rest, SOk W ρi loc (wipe σ vs) H' Hfi ∧ Ge (wipeE ρ1 vs) loc H1 Hf1 ρi H' Hfi ∧ H' D = some (.lst accV) ∧ Hfi D = none ∧
        RpL W Hfi accV accD ∧ accD.length ≤ i ∧ (∀ a o, Hf1 a = some o → Hfi a = some o) ∧ lcF t T FE vs (items.drop i) ρi = some (rest, ρb) ∧ fin = accD ++ rest, ⟨_, rfl, Nat.zero_le _, wipeE ρ1 vs, Hf1, [], [], fin, (s1.wipe vs).other hDf noD, Ge.refl.other hD, upd_same, hDf, .nil, Nat.le_refl _, fun _ _ h => h, q2, rfl⟩, ?_⟩
      rintro i m H' ⟨rfl, hi, ρi, Hfi, accV, accD, rest, si, gi, hDi, hDfi, ra, hal, fi, hl, hfin⟩
      by_cases hlt : i < items.length
      · have hd : items[i]? = some items[i] := List.getElem?_eq_getElem hlt
        have hdrop : items.drop i = items[i] :: items.drop (i + 1) := List.drop_eq_getElem_cons hlt
        rw [hdrop] at hl
        unfold lcF at hl
        obtain ⟨ρ2, p2, hl⟩ := Option.bind_eq_some_iff.mp hl
        obtain ⟨⟨bb, ρ3⟩, p3, hl⟩ := Option.bind_eq_some_iff.mp hl
        obtain ⟨go, yl⟩ := feed.go i _ H' Hfi hd fi si.sub
        refine .inr ⟨go, _, fun H2 h => h, fun x H3 y => ?_⟩
        obtain ⟨Hf3, E, r⟩ := yl x H3 y
        have s3 := si.ext E
        refine ⟨ρi, loc, Hf3, _, ρ2, s3, r, p2, fun σ4 u4 g4 s4 => ?_⟩
        have hwl : wipe σ4 vs = wipe σ vs := by
          have hlen : σ4.length = (wipe σ vs).length := by rw [s4.len, asg_length p2, ← si.len]
          rw [wipe_eq hlen u4 htv', wipe_wipe]
        refine ⟨hwl, ?_⟩
        have g5 : Ge (wipeE ρ1 vs) loc H1 Hf1 ρ2 H3 Hf3 := (gi.step E).trans g4
        refine ⟨ρ2, loc, Hf3, bb, ρ3, s4, p3, fun H5 Hf5 g6 s6 => ?_⟩
        have g7 := g5.trans g6
        have hD3 : H3 D = some (.lst accV) := E.keep _ _ hDi
        have hDf3 : Hf3 D = none := (E.frz _ _ hDi).trans hDfi
        have hD5 : H5 D = some (.lst accV) := g6.keep _ _ hD3 fun z => noD (g5.isOwn z)
        have hDf5 : Hf5 D = none := (g6.frz _ _ hD3 fun z => noD (g5.isOwn z)).trans hDf3
        have fx5 : ∀ a o, Hfi a = some o → Hf5 a = some o := fun a o q => g6.fixed s4 a o (E.fixed si.sub a o q)
        cases bb with
        | true =>
          simp only [if_true] at hl ⊢
          obtain ⟨⟨y1, ρ4⟩, p4, hl⟩ := Option.bind_eq_some_iff.mp hl
          obtain ⟨⟨rest', ρb'⟩, p5, p6⟩ := Option.map_eq_some_iff.mp hl
          cases p6
          refine ⟨ρ3, loc, Hf5, y1, ρ4, s6, p4, fun v H7 Hf7 g8 s8 rv => ?_⟩
          have g9 := g7.trans g8
          have hD7 : H7 D = some (.lst accV) := g8.keep _ _ hD5 fun z => noD (g7.isOwn z)
          have hDf7 : Hf7 D = none := (g8.frz _ _ hD5 fun z => noD (g7.isOwn z)).trans hDf5
          have fx7 : ∀ a o, Hfi a = some o → Hf7 a = some o := fun a o q => g8.fixed s6 a o (fx5 a o q)
          have hlen : accV.length < sizeLine := by
            rw [ra.length]
            exact Nat.lt_of_le_of_lt hal (Nat.lt_of_lt_of_le hlt hz)
          refine ⟨accV, hD7, hlen, _, by omega, rfl, hlt, wipeE ρ4 vs, Hf7, accV ++ [v], accD ++ [y1], rest', ?_, ?_, upd_same, hDf7, (ra.mono fx7).append (.cons rv .nil), ?_, fun a o q => fx7 a o (fi a o q), p5, ?_⟩
          · have s9 := (s8.wipe vs)
            rw [hwl] at s9
            exact s9.other hDf7 fun z => noD (g9.wiped.isOwn z)
          · exact g9.wiped.other hD
          · rw [List.length_append, List.length_singleton]; omega
          · rw [hfin, List.append_assoc]; rfl
        | false =>
          simp only [Bool.false_eq_true, if_false] at hl ⊢
          refine ⟨_, by omega, rfl, hlt, wipeE ρ3 vs, Hf5, accV, accD, rest, ?_, g7.wiped, hD5, hDf5, ra.mono fx5, by omega, fun a o q => fx5 a o (fi a o q), hl, hfin⟩
          have s9 := (s6.wipe vs)
          rw [hwl] at s9
          exact s9
      · have e : i = items.length := by omega
        subst e
        rw [List.drop_length] at hl
        cases hl
        refine .inl ⟨feed.stop H' Hfi fi si.sub, ?_⟩
        obtain ⟨s9, g9⟩ := s1.back gi si fi
        refine k _ H' Hfi (g1.trans g9) s9 ⟨D, rfl, g1.there _ hD, hDfi, accV, hDi, ?_⟩
        rw [hfin, List.append_nil]
        exact ra
    · cases hF
  · cases hF
end Ev
/-! text Ev11 -/
set_option Elab.async false
set_option linter.all false
set_option maxRecDepth 100000
set_option maxHeartbeats 4000000
namespace Ev
open PySem L2

/-! ### what a def of the text is worth -/
inductive Ar where
  | imm (d : D) | own (c : C)
/-- of its arguments: what it hands back, and what its mutable arguments hold then -/
abbrev Fn := List Ar → Option (Rv × List C)
def Ar.sl : Ar → Sl
  | .imm d => .imm d
  | .own c => .par c
/-- the arguments as they are handed in; loc: where the mutable ones stand -/
def ArOk (W : Wd) (loc : Loc) (H Hf : Hp) : Nat → List V → List Ar → Prop
  | _, [], [] => True
  | n, v :: vs, .imm d :: as => Rp W Hf v d ∧ ArOk W loc H Hf (n + 1) vs as
  | n, v :: vs, .own c :: as => (v = .ref (loc n) ∧ Hf (loc n) = none ∧ OwnAt W H Hf (loc n) c) ∧ ArOk W loc H Hf (n + 1) vs as
  | _, _, _ => False
def isOwnAr (as : List Ar) (i : Nat) : Bool := match as[i]? with
  | some (.own _) => true
  | _ => false
def Apart (loc : Loc) (as : List Ar) : Prop := ∀ i j, isOwnAr as i = true → isOwnAr as j = true → loc i = loc j → i = j
/-- .. what they hold behind the call -/
def CsOk (W : Wd) (loc : Loc) (H Hf : Hp) : Nat → List Ar → List C → Prop
  | _, [], [] => True
  | n, .imm _ :: as, cs => CsOk W loc H Hf (n + 1) as cs
  | n, .own _ :: as, c :: cs => (Hf (loc n) = none ∧ OwnAt W H Hf (loc n) c) ∧ CsOk W loc H Hf (n + 1) as cs
  | _, _, _ => False
def OwnA (loc : Loc) (as : List Ar) (a : Addr) : Prop := ∃ i, isOwnAr as i = true ∧ loc i = a
structure GoC (loc : Loc) (as : List Ar) (H Hf H' Hf' : Hp) : Prop where
  sub : Sub Hf' H'
  there : ∀ a, H' a = none → H a = none
  keep : ∀ a o, H a = some o → ¬ OwnA loc as a → H' a = some o
  frz : ∀ a o, H a = some o → ¬ OwnA loc as a → Hf' a = Hf a
/-- the promise -/
def spF (W : Wd) (F : Fn) : Sp := fun vs H Q _ => ∃ Hf loc as r cs, Sub Hf H ∧ ArOk W loc H Hf 0 vs as ∧ Apart loc as ∧ F as = some (r, cs) ∧
  ∀ v H' Hf', GoC loc as H Hf H' Hf' → CsOk W loc H' Hf' 0 as cs → RvOk W H v H' Hf' r → Q v H'

/-- a call of the def at f, n values and the keywords ks written, keeps the promise sp of them all -/
structure CallOk (P : Program) (w : World) (K : PySem.W.Frag) (mg : Str → Option Value) (base : Heap) (k : Nat) (f : Addr) (n : Nat) (ks : List Str) (sp : Sp) : Prop where
  run : ∀ (A : Around) (outer : List PySem.Env) (s : Shared) (H : Hp) (us ws : List Value) (vs zs : List V) (Q : VK), Room k A → A.guards = some [] → Env0 P w K mg base A outer s H → us.length = n → ws.length = ks.length → Vals vs us → Vals zs ws →
    sp (vs ++ zs) H Q E0 → codeAny (model P w) A (.call (.ref f) ⟨us, ks.zip ws⟩) (CR CX0 outer P w H s Q E0) s
theorem CallOk.mono {P : Program} {w : World} {K : PySem.W.Frag} {mg : Str → Option Value} {base : Heap} {k j : Nat} {f : Addr} {n : Nat} {ks : List Str} {sp : Sp} (c : CallOk P w K mg base k f n ks sp) (h : k ≤ j) : CallOk P w K mg base j f n ks sp :=
  ⟨fun A outer s H us ws vs zs Q hr => c.run A outer s H us ws vs zs Q (hr.mono h)⟩
theorem CallOk.imp {P : Program} {w : World} {K : PySem.W.Frag} {mg : Str → Option Value} {base : Heap} {k : Nat} {f : Addr} {n : Nat} {ks : List Str} {sp sp' : Sp} (c : CallOk P w K mg base k f n ks sp) (h : ∀ vs H Q, sp' vs H Q E0 → sp vs H Q E0) : CallOk P w K mg base k f n ks sp' :=
  ⟨fun A outer s H us ws vs zs Q hr hg e l1 l2 r1 r2 hs => c.run A outer s H us ws vs zs Q hr hg e l1 l2 r1 r2 (h _ _ _ hs)⟩

section
variable {X : Cx} {e a b c : Expr} {k : Nat} {f : Addr} {ks : List Str} {sp : Sp}
theorem run_call {pins : List (Addr × Obj)} {σ : St} {H : Hp} {s : Shared} {Q : VK} {us ws : List Value} {vs zs : List V} (c : CallOk X.prog X.w X.K X.mg X.base k f us.length ks sp) (hr : Room k X.A) (hgd : X.A.guards = some [])
    (I : Inv X pins σ H s) (r : Vals vs us) (rz : Vals zs ws) (hl : ws.length = ks.length) (h : sp (vs ++ zs) H Q E0) : wpAny (model X.prog X.w) X.A (call (.ref f) us (ks.zip ws)) (EP X pins σ Q) X.xe s := by
  have q := c.run X.A X.stack s H us ws vs zs Q hr hgd I.env0 rfl hl r rz h
  refine wpAny_call (codeAny_mono q fun res s' hq => ?_)
  cases res with
  | error _ => exact False.elim hq
  | ok fl => cases fl <;> first | exact I.after hq | exact False.elim hq

/-! ### the arguments of a call -/
/-- of each argument: by its value, or one's own object by its slot -/
def Af := List (AR × Env)
def arsOf (ρ : Env) : List AR → Option (List Ar)
  | [] => some []
  | .val d :: as => (arsOf ρ as).map (Ar.imm d :: ·)
  | .rf i :: as => (contAt ρ i).bind fun c => (arsOf ρ as).map (Ar.own c :: ·)
def refsOf : List AR → List Nat
  | [] => []
  | .val _ :: as => refsOf as
  | .rf i :: as => i :: refsOf as
def Sl.put (c : C) : Sl → Sl
  | .own _ => .own c
  | .par _ => .par c
  | s => s
def setC (ρ : Env) (i : Nat) (c : C) : Env := match ρ[i]? with
  | some s => ρ.set i (s.put c)
  | none => ρ
def setCs (ρ : Env) : List Nat → List C → Option Env
  | [], [] => some ρ
  | i :: is, c :: cs => setCs (setC ρ i c) is cs
  | _, _ => none
def nodupB : List Nat → Bool
  | [] => true
  | i :: is => !(is.contains i) && nodupB is
def applyU (F : Fn) (as : List AR) (ρ : Env) : Option (Rv × Env) := if nodupB (refsOf as) = true then (arsOf ρ as).bind fun bs => (F bs).bind fun y => (setCs ρ (refsOf as) y.2).map fun ρ' => (y.1, ρ') else none
def userF (n : Nat) (F : Fn) (FA : Fa) : Fe := fun ρ => (FA ρ).bind fun x => if x.1.length = n then applyU F x.1 x.2 else none
/-- the slot of the n-th argument -/
def slotOf (as : List AR) (n : Nat) : Nat := match as[n]? with
  | some (.rf i) => i
  | _ => 0
theorem arsOf_get {ρ : Env} : ∀ {as : List AR} {bs : List Ar}, arsOf ρ as = some bs → ∀ n, isOwnAr bs n = true → ∃ i c, as[n]? = some (.rf i) ∧ contAt ρ i = some c ∧ bs[n]? = some (.own c)
  | [], bs, h, n, q => by cases h; simp [isOwnAr] at q
  | .val d :: as, bs, h, n, q => by
    unfold arsOf at h
    obtain ⟨bs', h1, h2⟩ := Option.map_eq_some_iff.mp h
    subst h2
    cases n with
    | zero => simp [isOwnAr] at q
    | succ n => exact arsOf_get h1 n (by simpa [isOwnAr] using q)
  | .rf i :: as, bs, h, n, q => by
    unfold arsOf at h
    obtain ⟨c, h0, h⟩ := Option.bind_eq_some_iff.mp h
    obtain ⟨bs', h1, h2⟩ := Option.map_eq_some_iff.mp h
    subst h2
    cases n with
    | zero => exact ⟨i, c, rfl, h0, rfl⟩
    | succ n => exact arsOf_get h1 n (by simpa [isOwnAr] using q)
theorem arOk_of {W : Wd} {ρ : Env} {loc : Loc} {σ : St} {H Hf : Hp} (s : SOk W ρ loc σ H Hf) (L : Loc) : ∀ {as : List AR} {vs : List V} {bs : List Ar} (n : Nat), ARsOk W loc Hf vs as → arsOf ρ as = some bs → (∀ j, L (n + j) = loc (slotOf as j)) → ArOk W L H Hf n vs bs
  | [], [], bs, n, _, h, _ => by cases h; trivial
  | .val d :: as, v :: vs, bs, n, o, h, hL => by
    unfold arsOf at h
    obtain ⟨bs', h1, h2⟩ := Option.map_eq_some_iff.mp h
    subst h2
    refine ⟨o.1, arOk_of s L (n + 1) o.2 h1 fun j => ?_⟩
    have := hL (j + 1)
    rw [show n + 1 + j = n + (j + 1) by omega, this]
    rfl
  | .rf i :: as, v :: vs, bs, n, o, h, hL => by
    unfold arsOf at h
    obtain ⟨c, h0, h⟩ := Option.bind_eq_some_iff.mp h
    obtain ⟨bs', h1, h2⟩ := Option.map_eq_some_iff.mp h
    subst h2
    obtain ⟨t, h3, h4⟩ := contAt_some h0
    obtain ⟨_, q2, q3⟩ := s.own i t c h3 h4
    have e : L n = loc i := hL 0
    refine ⟨⟨by rw [e]; exact o.1, by rw [e]; exact q2, by rw [e]; exact q3⟩, arOk_of s L (n + 1) o.2 h1 fun j => ?_⟩
    have := hL (j + 1)
    rw [show n + 1 + j = n + (j + 1) by omega, this]
    rfl
  | [], _ :: _, _, _, o, _, _ => o.elim
  | _ :: _, [], _, _, o, _, _ => o.elim
theorem mem_refs : ∀ {as : List AR} {n i : Nat}, as[n]? = some (.rf i) → i ∈ refsOf as
  | [], n, i, h => by simp at h
  | .val d :: as, 0, i, h => by simp at h
  | .rf j :: as, 0, i, h => by
    simp at h
    subst h
    exact List.mem_cons_self
  | .val d :: as, n + 1, i, h => mem_refs (as := as) (n := n) (by simpa using h)
  | .rf j :: as, n + 1, i, h => List.mem_cons_of_mem _ (mem_refs (as := as) (n := n) (by simpa using h))
theorem refs_inj : ∀ {as : List AR} {n m i : Nat}, nodupB (refsOf as) = true → as[n]? = some (.rf i) → as[m]? = some (.rf i) → n = m
  | [], n, m, i, _, h, _ => by simp at h
  | .val d :: as, 0, m, i, _, h, _ => by simp at h
  | .val d :: as, n + 1, 0, i, _, _, h => by simp at h
  | .val d :: as, n + 1, m + 1, i, hn, h1, h2 => congrArg (· + 1) (refs_inj (as := as) hn (by simpa using h1) (by simpa using h2))
  | .rf j :: as, 0, 0, i, _, _, _ => rfl
  | .rf j :: as, 0, m + 1, i, hn, h1, h2 => by
    simp at h1
    subst h1
    unfold refsOf nodupB at hn
    rw [Bool.and_eq_true] at hn
    have : j ∈ refsOf as := mem_refs (as := as) (n := m) (by simpa using h2)
    simp [this] at hn
  | .rf j :: as, n + 1, 0, i, hn, h2, h1 => by
    simp at h1
    subst h1
    unfold refsOf nodupB at hn
    rw [Bool.and_eq_true] at hn
    have : j ∈ refsOf as := mem_refs (as := as) (n := n) (by simpa using h2)
    simp [this] at hn
  | .rf j :: as, n + 1, m + 1, i, hn, h1, h2 => by
    unfold refsOf nodupB at hn
    rw [Bool.and_eq_true] at hn
    exact congrArg (· + 1) (refs_inj (as := as) hn.2 (by simpa using h1) (by simpa using h2))
end

/-! ### behind a call -/
section
variable {W : Wd} {ρ ρ' : Env} {loc : Loc} {σ : St} {H Hf H' Hf' : Hp}
theorem setC_get {i j : Nat} {c : C} {t : Sl} (h : (setC ρ i c)[j]? = some t) : (j = i ∧ ∃ s, ρ[i]? = some s ∧ t = s.put c) ∨ (j ≠ i ∧ ρ[j]? = some t) := by
  unfold setC at h
  split at h
  · rename_i s hs
    rcases set_cases h with ⟨e, q⟩ | q
    · exact .inl ⟨e, s, hs, q⟩
    · exact .inr q
  · rename_i hs
    refine .inr ⟨fun e => ?_, h⟩
    subst e
    rw [hs] at h; cases h
theorem setC_ne {i j : Nat} {c : C} (h : j ≠ i) : (setC ρ i c)[j]? = ρ[j]? := by
  unfold setC
  split
  · rw [List.getElem?_set_ne (Ne.symm h)]
  · rfl
theorem setC_self {i : Nat} {c : C} {s : Sl} (h : ρ[i]? = some s) : (setC ρ i c)[i]? = some (s.put c) := by
  unfold setC
  rw [h]
  exact List.getElem?_set_self (List.getElem?_eq_some_iff.mp h).1
theorem setC_len {i : Nat} {c : C} : (setC ρ i c).length = ρ.length := by
  unfold setC
  split
  · rw [List.length_set]
  · rfl
theorem put_own {s : Sl} {c c' : C} (h : s.put c = .own c') : ∃ d, s = .own d := by
  cases s with
  | own d => exact ⟨d, rfl⟩
  | un => cases h
  | imm d => cases h
  | par d => cases h
theorem put_par {s : Sl} {c c' : C} (h : s.put c = .par c') : ∃ d, s = .par d := by
  cases s with
  | par d => exact ⟨d, rfl⟩
  | un => cases h
  | imm d => cases h
  | own d => cases h
theorem put_imm' {s : Sl} {c : C} {d : D} (h : s.put c = .imm d) : s = .imm d := by
  cases s <;> first | exact h | cases h
theorem put_cont {s : Sl} {c c' : C} (h : (s.put c).cont = some c') : c' = c ∧ ∃ d, s.cont = some d := by
  cases s with
  | own d => cases h; exact ⟨rfl, d, rfl⟩
  | par d => cases h; exact ⟨rfl, d, rfl⟩
  | un => cases h
  | imm d => cases h
/-- kinds stay -/
theorem setCs_get : ∀ {is : List Nat} {cs : List C} {ρ ρ' : Env}, setCs ρ is cs = some ρ' → ρ'.length = ρ.length ∧
    (∀ (j : Nat) (c' : C), ρ'[j]? = some (Sl.own c') → ∃ c, ρ[j]? = some (Sl.own c)) ∧ (∀ (j : Nat) (c' : C), ρ'[j]? = some (Sl.par c') → ∃ c, ρ[j]? = some (Sl.par c)) ∧
    (∀ (j : Nat) (c : C), ρ[j]? = some (Sl.par c) → ∃ c', ρ'[j]? = some (Sl.par c')) ∧ (∀ (j : Nat) (d : D), ρ'[j]? = some (Sl.imm d) → ρ[j]? = some (Sl.imm d)) ∧ (∀ j, j ∉ is → ρ'[j]? = ρ[j]?)
  | [], [], ρ, ρ', h => by
    cases h
    exact ⟨rfl, fun j c h => ⟨c, h⟩, fun j c h => ⟨c, h⟩, fun j c h => ⟨c, h⟩, fun j d h => h, fun _ _ => rfl⟩
  | [], _ :: _, _, _, h => by cases h
  | _ :: _, [], _, _, h => by cases h
  | i :: is, c0 :: cs, ρ, ρ', h => by
    obtain ⟨l, a, b, p, d, z⟩ := setCs_get (ρ := setC ρ i c0) h
    refine ⟨l.trans setC_len, fun j c hh => ?_, fun j c hh => ?_, fun j c hh => ?_, fun j e hh => ?_, fun j hj => ?_⟩
    · obtain ⟨c1, q⟩ := a j c hh
      rcases setC_get q with ⟨e, s, h1, h2⟩ | ⟨_, q⟩
      · obtain ⟨d1, h3⟩ := put_own h2.symm
        subst h3; subst e
        exact ⟨d1, h1⟩
      · exact ⟨c1, q⟩
    · obtain ⟨c1, q⟩ := b j c hh
      rcases setC_get q with ⟨e, s, h1, h2⟩ | ⟨_, q⟩
      · obtain ⟨d1, h3⟩ := put_par h2.symm
        subst h3; subst e
        exact ⟨d1, h1⟩
      · exact ⟨c1, q⟩
    · by_cases e : j = i
      · subst e
        exact p j c0 (by rw [setC_self hh]; rfl)
      · exact p j c (by rw [setC_ne e]; exact hh)
    · have q := d j e hh
      rcases setC_get q with ⟨e', s, h1, h2⟩ | ⟨_, q⟩
      · have h3 := put_imm' h2.symm
        subst h3; subst e'
        exact h1
      · exact q
    · simp only [List.mem_cons, not_or] at hj
      rw [z j hj.2, setC_ne hj.1]
/-- what the changed slots hold -/
theorem setCs_own {L : Loc} : ∀ {as : List AR} {bs : List Ar} {cs : List C} {ρ ρ' : Env} (ρ0 : Env) (n : Nat), arsOf ρ0 as = some bs → nodupB (refsOf as) = true → setCs ρ (refsOf as) cs = some ρ' → CsOk W L H' Hf' n bs cs →
    (∀ j, L (n + j) = loc (slotOf as j)) → ∀ i ∈ refsOf as, ∀ (t : Sl) (c : C), ρ'[i]? = some t → t.cont = some c → Hf' (loc i) = none ∧ OwnAt W H' Hf' (loc i) c
  | [], bs, cs, ρ, ρ', ρ0, n, h, hn, hs, ho, hL, i, hi => by simp [refsOf] at hi
  | .val d :: as, bs, cs, ρ, ρ', ρ0, n, h, hn, hs, ho, hL, i, hi => by
    unfold arsOf at h
    obtain ⟨bs', h1, h2⟩ := Option.map_eq_some_iff.mp h
    subst h2
    refine setCs_own ρ0 (n + 1) h1 hn hs ho (fun j => ?_) i hi
    have := hL (j + 1)
    rw [show n + 1 + j = n + (j + 1) by omega, this]
    rfl
  | .rf k :: as, bs, [], ρ, ρ', ρ0, n, h, hn, hs, ho, hL, i, hi => by simp [refsOf, setCs] at hs
  | .rf k :: as, bs, c0 :: cs, ρ, ρ', ρ0, n, h, hn, hs, ho, hL, i, hi => by
    unfold arsOf at h
    obtain ⟨c, h0, h⟩ := Option.bind_eq_some_iff.mp h
    obtain ⟨bs', h1, h2⟩ := Option.map_eq_some_iff.mp h
    subst h2
    unfold refsOf nodupB at hn
    rw [Bool.and_eq_true] at hn
    have hs' : setCs (setC ρ k c0) (refsOf as) cs = some ρ' := hs
    by_cases e : i ∈ refsOf as
    · refine setCs_own ρ0 (n + 1) h1 hn.2 hs' ho.2 (fun j => ?_) i e
      have := hL (j + 1)
      rw [show n + 1 + j = n + (j + 1) by omega, this]
      rfl
    · have hik : i = k := by
        unfold refsOf at hi
        rcases List.mem_cons.mp hi with q | q
        · exact q
        · exact absurd q e
      subst hik
      intro t c1 ht hc
      have z := (setCs_get hs').2.2.2.2.2 i e
      rw [z] at ht
      rcases setC_get ht with ⟨_, s, q1, q2⟩ | ⟨q, _⟩
      · subst q2
        obtain ⟨q3, _⟩ := put_cont hc
        subst q3
        have e2 : L n = loc i := hL 0
        rw [← e2]
        exact ho.1
      · exact absurd rfl q
theorem arsOk_len {W : Wd} {loc : Loc} {Hf : Hp} : ∀ {vs : List V} {as : List AR}, ARsOk W loc Hf vs as → vs.length = as.length
  | [], [], _ => rfl
  | _ :: _, _ :: _, h => congrArg (· + 1) (arsOk_len h.2)
  | [], _ :: _, h => h.elim
  | _ :: _, [], h => h.elim
theorem call_core {ρ1 : Env} {H1 Hf1 : Hp} {F : Fn} {as : List AR} {vs : List V} {Q : VK} {r : Rv} (s1 : SOk W ρ1 loc σ H1 Hf1) (o1 : ARsOk W loc Hf1 vs as) (hF : applyU F as ρ1 = some (r, ρ'))
    (kk : ∀ v H' Hf', Ge ρ1 loc H1 Hf1 ρ' H' Hf' → SOk W ρ' loc σ H' Hf' → RvOk W H1 v H' Hf' r → Q v H') : spF W F vs H1 Q E0 := by
  unfold applyU at hF
  split at hF
  · rename_i hnd
    obtain ⟨bs, q2, hF⟩ := Option.bind_eq_some_iff.mp hF
    obtain ⟨⟨rv, cs⟩, q3, hF⟩ := Option.bind_eq_some_iff.mp hF
    obtain ⟨ρ2, q4, hF⟩ := Option.map_eq_some_iff.mp hF
    cases hF
    have hL : ∀ j, (fun n => loc (slotOf as n)) (0 + j) = loc (slotOf as j) := fun j => by rw [Nat.zero_add]
    have slot : ∀ n, isOwnAr bs n = true → ∃ i c t, as[n]? = some (.rf i) ∧ slotOf as n = i ∧ ρ1[i]? = some t ∧ t.cont = some c := fun n hn => by
      obtain ⟨i, c, h1, h2, _⟩ := arsOf_get q2 n hn
      obtain ⟨t, h3, h4⟩ := contAt_some h2
      exact ⟨i, c, t, h1, by unfold slotOf; rw [h1], h3, h4⟩
    refine ⟨Hf1, fun n => loc (slotOf as n), bs, _, cs, s1.sub, arOk_of s1 _ 0 o1 q2 hL, fun i j hi hj e => ?_, q3, fun v H' Hf' g o rvk => ?_⟩
    · obtain ⟨i1, c1, t1, a1, a2, a3, a4⟩ := slot i hi
      obtain ⟨i2, c2, t2, b1, b2, b3, b4⟩ := slot j hj
      have e' : loc i1 = loc i2 := by rw [← a2, ← b2]; exact e
      have := s1.inj i1 i2 t1 t2 c1 c2 a3 b3 a4 b4 e'
      subst this
      exact refs_inj hnd a1 b1
    · obtain ⟨sl, sOwn, sPar, sParK, sImm, sOut⟩ := setCs_get q4
      have notA : ∀ a, ¬ IsOwn ρ1 loc a → ¬ OwnA (fun n => loc (slotOf as n)) bs a := fun a n ⟨i, hi, e⟩ => by
        obtain ⟨i1, c1, t1, a1, a2, a3, a4⟩ := slot i hi
        exact n ⟨i1, t1, c1, a3, a4, by rw [← a2]; exact e⟩
      have fx : ∀ a o, Hf1 a = some o → Hf' a = some o := fun a o q => (g.frz a o (s1.sub a o q) (notA a (s1.notOwn q))).trans q
      have g2 : Ge ρ1 loc H1 Hf1 ρ' H' Hf' := ⟨g.there, fun a o h n => g.keep a o h (notA a n), fun a o h n => g.frz a o h (notA a n), sOwn, sPar, sParK⟩
      have s2 : SOk W ρ' loc σ H' Hf' := by
        refine ⟨g.sub, s1.len.trans sl.symm, fun j d h => ?_, fun j t c h1 h2 => ?_, fun j l t u c d h1 h2 h3 h4 h5 => ?_⟩
        · obtain ⟨w', h1, r⟩ := s1.imm j d (sImm j d h)
          exact ⟨w', h1, r.mono fx⟩
        · have old : ∃ t0 c0, ρ1[j]? = some t0 ∧ t0.cont = some c0 := by
            cases t with
            | un => cases h2
            | imm d => cases h2
            | own c' => obtain ⟨c0, q⟩ := sOwn j c' h1; exact ⟨_, c0, q, rfl⟩
            | par c' => obtain ⟨c0, q⟩ := sPar j c' h1; exact ⟨_, c0, q, rfl⟩
          obtain ⟨t0, c0, k1, k2⟩ := old
          obtain ⟨x, y, z⟩ := s1.own j t0 c0 k1 k2
          by_cases hj : j ∈ refsOf as
          · obtain ⟨y', z'⟩ := setCs_own ρ1 0 q2 hnd q4 o hL j hj t c h1 h2
            exact ⟨x, y', z'⟩
          · have e1 := sOut j hj
            rw [h1] at e1
            rw [← e1] at k1
            cases k1
            rw [h2] at k2; cases k2
            have na : ¬ OwnA (fun n => loc (slotOf as n)) bs (loc j) := fun ⟨i, hi, e⟩ => by
              obtain ⟨i1, c1, t1, a1, a2, a3, a4⟩ := slot i hi
              have e' : loc i1 = loc j := by rw [← a2]; exact e
              have e3 := s1.inj i1 j t1 t c1 c a3 e1.symm a4 h2 e'
              subst e3
              exact hj (mem_refs a1)
            obtain ⟨u, hu⟩ := Option.ne_none_iff_exists'.mp z.there
            exact ⟨x, (g.frz _ u hu na).trans y, z.mono (fun w' q => g.keep _ w' q na) fx⟩
        · have old : ∀ (j : Nat) (t : Sl) (c : C), ρ'[j]? = some t → t.cont = some c → ∃ t0 c0, ρ1[j]? = some t0 ∧ t0.cont = some c0 := fun j t c h1 h2 => by
            cases t with
            | un => cases h2
            | imm d => cases h2
            | own c' => obtain ⟨c0, q⟩ := sOwn j c' h1; exact ⟨_, c0, q, rfl⟩
            | par c' => obtain ⟨c0, q⟩ := sPar j c' h1; exact ⟨_, c0, q, rfl⟩
          obtain ⟨t0, c0, k1, k2⟩ := old j t c h1 h3
          obtain ⟨u0, d0, k3, k4⟩ := old l u d h2 h4
          exact s1.inj j l t0 u0 c0 d0 k1 k3 k2 k4 h5
      exact kk v H' Hf' g2 s2 rvk
  · cases hF
theorem call_read {n : Nat} {F : Fn} {FA : Fa} {σ : St} {H : Hp} {Q : VK} {T : List V → Hp → Prop} (h : tX W (userF n F FA) σ H Q) (k : ∀ vs H1, vs.length = n → spF W F vs H1 Q E0 → T vs H1) : tA W FA σ H T := by
  obtain ⟨ρ, loc, Hf, r, ρ', s, hF, kk⟩ := h
  unfold userF at hF
  obtain ⟨⟨as, ρ1⟩, q1, hF⟩ := Option.bind_eq_some_iff.mp hF
  dsimp only at hF
  split at hF
  · rename_i hlen
    exact ⟨ρ, loc, Hf, as, ρ1, s, q1, fun vs H1 Hf1 g1 s1 o1 => k vs H1 ((arsOk_len o1).trans hlen) (call_core s1 o1 hF fun v H' Hf' g2 s2 rv => kk v H' Hf' (g1.trans g2) s2 (rv.back g1.there))⟩
  · cases hF
end
end Ev
/-! text Ev12 -/
set_option Elab.async false
set_option linter.all false
set_option maxRecDepth 100000
set_option maxHeartbeats 4000000
namespace Ev
open PySem L2

/-- what a body's context gives -/
structure Cq (X : Cx) (k : Nat) : Prop where
  calm : X.calm = true
  gd : X.A.guards = some []
  room : Room k X.A
  nd : X.N.Nodup
  xe : X.xe = fun _ _ => False
theorem Cq.own {X : Cx} {k : Nat} (q : Cq X k) : PassesOwn (model X.prog X.w) X.A X.env X.xe := by
  rw [q.xe]; exact PassesOwn.never
theorem Cq.blk {X : Cx} {k : Nat} (q : Cq X k) (s : Shared) (H : Hp) (scope : Scope) (cenv : PySem.Env) (fp : List Addr) : Cq (X.blk s H scope cenv fp) k := ⟨q.calm, q.gd, q.room, q.nd, rfl⟩

section
variable {X : Cx} {e a b c o : Expr} {k : Nat} {f : Addr} {F : Fn}
theorem px_call {x : Str} {es : List Expr} {FA : Fa} {p pos : Pos} (q : Cq X k) (hg : Gl X x) (hm : X.mg x = some (.ref f)) (hk : PySem.W.keepIn X.K (.ref f) = true) (co : CallOk X.prog X.w X.K X.mg X.base k f (e :: es).length [] (spF (wd X) F))
    (ha : PAs X (e :: es) FA) (hs : (e :: es).all noStar = true) (hdb : (x == ("__debug__" : Str)) = false) : PX X (.Call (.Name x p) (e :: es) [] pos) (userF (e :: es).length F FA) := by
  rw [List.all_cons, Bool.and_eq_true] at hs
  refine ⟨fun pins s σ H Q I h => wpAny_Call_Name_kw (ld_glob I hg hm ?_ hdb)⟩
  have hr := call_read (T := fun vs H1 => vs.length = (e :: es).length ∧ spF (wd X) F vs H1 Q E0) h fun vs H1 l z => ⟨l, z⟩
  refine PySem.W.callWith_K (h₀ := X.base) I.ok.mod.kin hk (thn (ha.run pos pins s σ H _ I hr) fun us s1 ⟨vs, H1, I1, r, l, z⟩ => ⟨I1.kIn, ?_⟩) (starEach_cons hs.1) (starEach_plain pos hs.2)
  have hl : us.length = (e :: es).length := r.length.symm.trans l
  exact run_call (ws := []) (zs := []) (hl ▸ co) q.room q.gd I1 r .nil rfl (by rw [List.append_nil]; exact z)
theorem px_call0 {x : Str} {p pos : Pos} (q : Cq X k) (hg : Gl X x) (hm : X.mg x = some (.ref f)) (hk : PySem.W.keepIn X.K (.ref f) = true) (co : CallOk X.prog X.w X.K X.mg X.base k f 0 [] (spF (wd X) F))
    (hdb : (x == ("__debug__" : Str)) = false) : PX X (.Call (.Name x p) [] [] pos) (userF 0 F nilA) := by
  refine ⟨fun pins s σ H Q I h => wpAny_Call_Name_kw (ld_glob I hg hm ?_ hdb)⟩
  have hr := call_read (T := fun vs H1 => vs.length = 0 ∧ spF (wd X) F vs H1 Q E0) h fun vs H1 l z => ⟨l, z⟩
  refine PySem.W.callWith_K0 I.kIn hk ?_
  have hh := (pas_nil (X := X)).run pos pins s σ H _ I hr
  have z2 : spF (wd X) F [] H Q E0 := by
    obtain ⟨ρ, loc, Hf, r, ρ', s0, hF, kk⟩ := hr
    cases hF
    exact (kk [] H Hf .refl s0 trivial).2
  exact run_call (us := []) (ws := []) (vs := []) (zs := []) co q.room q.gd I .nil .nil rfl z2
/-- keywords' values -/
def appA (FA FB : Fa) : Fa := fun ρ => (FA ρ).bind fun x => (FB x.2).map fun y => (x.1 ++ y.1, y.2)
abbrev PKs (X : Cx) (kws : List Keyword) (F : Fa) := PK X kws (tA (wd X) F)
theorem pk_imp {kws : List Keyword} {t t' : TA} (h : PK X kws t) (kk : ∀ σ H Q, t' σ H Q → t σ H Q) : PK X kws t' := ⟨fun pos pins s σ H Q I w => h.run pos pins s σ H Q I (kk σ H Q w)⟩
theorem pks_nil : PKs X [] nilA := pk_imp pk_nil fun σ H Q ⟨ρ, loc, Hf, r, ρ', s, hF, kk⟩ => by
  cases hF
  exact kk [] H Hf .refl s trivial
theorem pks_cons {nm : Option Str} {kpos : Pos} {kws : List Keyword} {F : Fr} {G : Fa} (ha : PR X e F) (hr : PKs X kws G) : PKs X (⟨nm, e, kpos⟩ :: kws) (consA F G) :=
  pk_imp (pk_cons ha hr) fun σ H Q ⟨ρ, loc, Hf, r, ρ', s, hF, kk⟩ => by
    unfold consA at hF
    obtain ⟨⟨a, ρ1⟩, q1, hF⟩ := Option.bind_eq_some_iff.mp hF
    obtain ⟨⟨as, ρ2⟩, q2, hF⟩ := Option.map_eq_some_iff.mp hF
    cases hF
    exact ⟨ρ, loc, Hf, a, ρ1, s, q1, fun v H1 Hf1 g1 s1 o1 => ⟨ρ1, loc, Hf1, as, _, s1, q2, fun vs H2 Hf2 g2 s2 o2 => kk (v :: vs) H2 Hf2 (g1.trans g2) s2 ⟨o1.mono (g2.fixed s1), o2⟩⟩⟩
theorem ARsOk.append {W : Wd} {loc : Loc} {Hf : Hp} : ∀ {vs ws : List V} {as bs : List AR}, ARsOk W loc Hf vs as → ARsOk W loc Hf ws bs → ARsOk W loc Hf (vs ++ ws) (as ++ bs)
  | [], _, [], _, _, h => h
  | _ :: _, _, _ :: _, _, h, h' => ⟨h.1, ARsOk.append h.2 h'⟩
  | [], _, _ :: _, _, h, _ => h.elim
  | _ :: _, _, [], _, h, _ => h.elim
/-- two lists of arguments, n and m -/
def chkA (n : Nat) (FA : Fa) : Fa := fun ρ => (FA ρ).bind fun x => if x.1.length = n then some x else none
theorem chkA_some {n : Nat} {FA : Fa} {ρ : Env} {x : List AR × Env} (h : chkA n FA ρ = some x) : FA ρ = some x ∧ x.1.length = n := by
  unfold chkA at h
  obtain ⟨y, h1, h⟩ := Option.bind_eq_some_iff.mp h
  split at h
  · rename_i q; cases h; exact ⟨h1, q⟩
  · cases h
theorem px_callK {x : Str} {es : List Expr} {kws : List Keyword} {ks : List Str} {FA FB : Fa} {p pos : Pos} (q : Cq X k) (hg : Gl X x) (hm : X.mg x = some (.ref f)) (hk : PySem.W.keepIn X.K (.ref f) = true)
    (co : CallOk X.prog X.w X.K X.mg X.base k f (e :: es).length ks (spF (wd X) F))
    (ha : PAs X (e :: es) FA) (hb : PKs X kws FB) (hs : (e :: es).all noStar = true) (hks : kws.map (·.arg) = ks.map some) (hdb : (x == ("__debug__" : Str)) = false) :
    PX X (.Call (.Name x p) (e :: es) kws pos) (userF ((e :: es).length + ks.length) F (appA (chkA (e :: es).length FA) (chkA ks.length FB))) := by
  rw [List.all_cons, Bool.and_eq_true] at hs
  have k1 : ∀ (l : List Keyword) (ns : List Str), l.map (·.arg) = ns.map some → (keywordEach l X.env).map (·.1) = ns.map some := by
    intro l
    induction l with
    | nil => intro ns h; exact h
    | cons w l ih =>
      intro ns h
      cases ns with
      | nil => cases h
      | cons n ns =>
        obtain ⟨wa, wv, wp⟩ := w
        simp only [List.map_cons, List.cons.injEq] at h
        show wa :: (keywordEach l X.env).map (·.1) = _
        rw [ih ns h.2, h.1]; rfl
  have k2 : (backToKw pos (keywordEach kws X.env)).map (·.1) = ks.map some := by
    have := k1 kws ks hks
    unfold backToKw
    rw [List.map_map, ← this]
    rfl
  have k3 : (backToKw pos (keywordEach kws X.env)).all (fun z => z.1.isSome) = true := by
    have : (backToKw pos (keywordEach kws X.env)).all (fun z => z.1.isSome) = ((backToKw pos (keywordEach kws X.env)).map (·.1)).all Option.isSome := by rw [List.all_map]; rfl
    rw [this, k2, List.all_map]
    exact List.all_eq_true.mpr fun _ _ => rfl
  have k4 : (backToKw pos (keywordEach kws X.env)).filterMap (·.1) = ks := by
    have : (backToKw pos (keywordEach kws X.env)).filterMap (·.1) = ((backToKw pos (keywordEach kws X.env)).map (·.1)).filterMap id := by rw [List.filterMap_map]; rfl
    rw [this, k2, List.filterMap_map]
    show ks.filterMap some = ks
    exact List.filterMap_some
  have k5 : (backToKw pos (keywordEach kws X.env)).any (fun z => z.1.isNone) = false := by
    have : (backToKw pos (keywordEach kws X.env)).any (fun z => z.1.isNone) = ((backToKw pos (keywordEach kws X.env)).map (·.1)).any Option.isNone := by rw [List.any_map]; rfl
    rw [this, k2, List.any_map]
    exact List.any_eq_false.mpr fun _ _ => by simp
  refine ⟨fun pins s σ H Q I h => wpAny_Call_Name_kw (ld_glob I hg hm ?_ hdb)⟩
  have hr := call_read (T := fun vs H1 => spF (wd X) F vs H1 Q E0) h fun vs H1 l z => z
  have hr2 : tA (wd X) FA σ H fun vs H1 => vs.length = (e :: es).length ∧ tA (wd X) FB σ H1 fun zs H2 => zs.length = ks.length ∧ spF (wd X) F (vs ++ zs) H2 Q E0 := by
    obtain ⟨ρ, loc, Hf, r, ρ', s0, hF, kk⟩ := hr
    unfold appA at hF
    obtain ⟨⟨as, ρ1⟩, q1, hF⟩ := Option.bind_eq_some_iff.mp hF
    obtain ⟨⟨bs, ρ2⟩, q2, hF⟩ := Option.map_eq_some_iff.mp hF
    cases hF
    obtain ⟨q1, l1⟩ := chkA_some q1
    obtain ⟨q2, l2⟩ := chkA_some q2
    exact ⟨ρ, loc, Hf, as, ρ1, s0, q1, fun vs H1 Hf1 g1 s1 o1 => ⟨(arsOk_len o1).trans l1, ρ1, loc, Hf1, bs, _, s1, q2, fun zs H2 Hf2 g2 s2 o2 =>
      ⟨(arsOk_len o2).trans l2, kk (vs ++ zs) H2 Hf2 (g1.trans g2) s2 ((o1.mono (g2.fixed s1)).append o2)⟩⟩⟩
  refine PySem.W.callWith_KW (h₀ := X.base) I.ok.mod.kin hk k3 (thn (ha.run pos pins s σ H _ I hr2) fun us s1 ⟨vs, H1, I1, r, l1, z1⟩ => thn (hb.run pos pins s1 σ H1 _ I1 z1) fun ws s2 ⟨zs, H2, I2, rz, l2, z2⟩ => ⟨I2.kIn, ?_⟩)
    (by rw [starEach_cons hs.1, k5]; show ((false || (backTo pos (starEach es X.env)).any (·.1)) || false) = false; rw [starEach_plain pos hs.2]; rfl) (starEach_cons hs.1)
  rw [k4]
  have hl : us.length = (e :: es).length := r.length.symm.trans l1
  exact run_call (hl ▸ co) q.room q.gd I2 r rz (rz.length.symm.trans l2) z2
end
end Ev
/-! text Ev13 -/
set_option Elab.async false
set_option linter.all false
set_option maxRecDepth 100000
set_option maxHeartbeats 4000000
namespace Ev
open PySem L2

/-! ### a def, by its body -/
def slots (n : Nat) (as : List Ar) : Env := as.map Ar.sl ++ List.replicate (n - as.length) .un
/-- what the given objects hold then -/
def csOf : Nat → List Ar → Env → Option (List C)
  | _, [], _ => some []
  | n, .imm _ :: as, ρ => csOf (n + 1) as ρ
  | n, .own _ :: as, ρ => match ρ[n]? with
    | some (.par c) => (csOf (n + 1) as ρ).map (c :: ·)
    | _ => none
/-- n: the number of slots, m: of parameters -/
def bodyF (n m : Nat) (B : Fs) : Fn := fun as => if as.length = m then (B (slots n as)).bind fun x => match x.1 with
  | .nx => (csOf 0 as x.2).map fun cs => (.imm .non, cs)
  | .rt r => (csOf 0 as x.2).map fun cs => (r, cs)
  | _ => none else none
section
variable {W : Wd} {loc : Loc} {H Hf : Hp}
theorem arOk_get : ∀ {as : List Ar} {vs : List V} (n : Nat), ArOk W loc H Hf n vs as → vs.length = as.length ∧ ∀ j, (∀ d, as[j]? = some (Ar.imm d) → ∃ v, vs[j]? = some v ∧ Rp W Hf v d) ∧
    (∀ c, as[j]? = some (Ar.own c) → vs[j]? = some (.ref (loc (n + j))) ∧ Hf (loc (n + j)) = none ∧ OwnAt W H Hf (loc (n + j)) c)
  | [], [], _, _ => ⟨rfl, fun j => ⟨fun d h => by simp at h, fun c h => by simp at h⟩⟩
  | .imm d :: as, v :: vs, n, h => by
    obtain ⟨l, g⟩ := arOk_get (n + 1) h.2
    refine ⟨congrArg (· + 1) l, fun j => ?_⟩
    cases j with
    | zero => exact ⟨fun d' e => ⟨v, rfl, by simp at e; exact e ▸ h.1⟩, fun c e => by simp at e⟩
    | succ j =>
      obtain ⟨g1, g2⟩ := g j
      refine ⟨fun d' e => g1 d' (by simpa using e), fun c e => ?_⟩
      have := g2 c (by simpa using e)
      rw [show n + 1 + j = n + (j + 1) by omega] at this
      exact this
  | .own c :: as, v :: vs, n, h => by
    obtain ⟨l, g⟩ := arOk_get (n + 1) h.2
    refine ⟨congrArg (· + 1) l, fun j => ?_⟩
    cases j with
    | zero =>
      refine ⟨fun d' e => by simp at e, fun c' e => ?_⟩
      simp at e
      subst e
      exact ⟨by rw [h.1.1]; rfl, h.1.2⟩
    | succ j =>
      obtain ⟨g1, g2⟩ := g j
      refine ⟨fun d' e => g1 d' (by simpa using e), fun c e => ?_⟩
      have := g2 c (by simpa using e)
      rw [show n + 1 + j = n + (j + 1) by omega] at this
      exact this
  | [], _ :: _, _, h => h.elim
  | .imm _ :: _, [], _, h => h.elim
  | .own _ :: _, [], _, h => h.elim
theorem slots_get {n : Nat} {as : List Ar} {j : Nat} {t : Sl} (h : (slots n as)[j]? = some t) : (∃ a, as[j]? = some a ∧ t = a.sl) ∨ (as.length ≤ j ∧ t = .un) := by
  unfold slots at h
  by_cases hj : j < as.length
  · rw [List.getElem?_append_left (by simpa using hj), List.getElem?_map] at h
    obtain ⟨a, h1, h2⟩ := Option.map_eq_some_iff.mp h
    exact .inl ⟨a, h1, h2.symm⟩
  · rw [List.getElem?_append_right (by simpa using hj), List.getElem?_replicate] at h
    split at h
    · cases h; exact .inr ⟨by omega, rfl⟩
    · cases h
theorem slots_par {n : Nat} {as : List Ar} {j : Nat} {t : Sl} {c : C} (h : (slots n as)[j]? = some t) (hc : t.cont = some c) : as[j]? = some (.own c) ∧ t = .par c ∧ isOwnAr as j = true := by
  rcases slots_get h with ⟨a, h1, h2⟩ | ⟨_, h2⟩
  · subst h2
    cases a with
    | imm d => cases hc
    | own c' => cases hc; exact ⟨h1, rfl, by unfold isOwnAr; rw [h1]⟩
  · subst h2; cases hc
theorem isOwnAr_some {as : List Ar} {i : Nat} (h : isOwnAr as i = true) : ∃ c, as[i]? = some (.own c) := by
  unfold isOwnAr at h
  split at h
  · rename_i c q; exact ⟨c, q⟩
  · cases h
theorem start_ok {N : Nat} {vs : List V} {as : List Ar} (hN : as.length ≤ N) (hs : Sub Hf H) (h : ArOk W loc H Hf 0 vs as) (ap : Apart loc as) : SOk W (slots N as) loc (vs.map some ++ List.replicate (N - vs.length) none) H Hf := by
  obtain ⟨hl, g⟩ := arOk_get 0 h
  have at' : ∀ (j : Nat) (v : V), vs[j]? = some v → (vs.map some ++ List.replicate (N - vs.length) none)[j]? = some (some v) := fun j v e => by
    have hj : j < vs.length := (List.getElem?_eq_some_iff.mp e).1
    rw [List.getElem?_append_left (by simpa using hj), List.getElem?_map, e]; rfl
  refine ⟨hs, ?_, fun j d e => ?_, fun j t c e1 e2 => ?_, fun i j t u c d e1 e2 e3 e4 e5 => ?_⟩
  · unfold slots
    simp only [List.length_append, List.length_map, List.length_replicate]
    omega
  · rcases slots_get e with ⟨a, h1, h2⟩ | ⟨_, h2⟩
    · cases a with
      | imm d' =>
        cases h2
        obtain ⟨v, q1, q2⟩ := (g j).1 d h1
        exact ⟨v, at' j v q1, q2⟩
      | own c => cases h2
    · cases h2
  · obtain ⟨h1, _, _⟩ := slots_par e1 e2
    obtain ⟨q1, q2, q3⟩ := (g j).2 c h1
    rw [Nat.zero_add] at q1 q2 q3
    exact ⟨at' j _ q1, q2, q3⟩
  · exact ap i j (slots_par e1 e3).2.2 (slots_par e2 e4).2.2 e5
theorem cs_of {loc' : Loc} {σ' : St} {ρ' : Env} (s : SOk W ρ' loc' σ' H Hf) (hp : ∀ (i : Nat) (c : C), ρ'[i]? = some (Sl.par c) → loc' i = loc i) : ∀ (n : Nat) (as : List Ar) (cs : List C), csOf n as ρ' = some cs → CsOk W loc H Hf n as cs
  | n, [], cs, h => by cases h; trivial
  | n, .imm d :: as, cs, h => cs_of s hp (n + 1) as cs h
  | n, .own c0 :: as, cs, h => by
    unfold csOf at h
    split at h
    · rename_i c q
      obtain ⟨cs', h1, h2⟩ := Option.map_eq_some_iff.mp h
      subst h2
      obtain ⟨_, y, z⟩ := s.own n _ c q rfl
      rw [hp n c q] at y z
      exact ⟨⟨y, z⟩, cs_of s hp (n + 1) as cs' h1⟩
    · cases h
end
section
variable {P : Program} {w : World} {K : PySem.W.Frag} {mg : Str → Option Value} {base : Heap}
/-- a def as it stands behind the top, and how it is called: n values, keywords ks; g: the bound values in the parameters' order -/
structure DefAt (K : PySem.W.Frag) (f : Addr) (qual : Str) (st : Stmt) (N ps : List Str) (n : Nat) (ks : List Str) (gV : List V → List V) : Prop where
  fd : ∃ (nm : Str) (oc : Value) (od : Option Addr) (dV kV doc pm : Value) (an : Option Addr) (cdv ct : Value) (osl : Array (Option Value)),
    K.lookup f = some ⟨oc, od, .func (PySem.W.fnOf nm qual (defArgs st) (defBody st) (defScope st) dV kV doc pm an cdv ct), osl⟩ ∧ PySem.W.codeIn K cdv qual = true ∧
    ∀ (s : Shared) (us ws : List Value), K.In s.heap → us.length = n → ws.length = ks.length → ∃ bs : List Value, BindsTo s (PySem.W.fnOf nm qual (defArgs st) (defBody st) (defScope st) dV kV doc pm an cdv ct) ⟨us, ks.zip ws⟩ (ps.zip bs) ∧ bs.length = ps.length ∧
      ∀ vs zs : List V, Vals vs us → Vals zs ws → Vals (gV (vs ++ zs)) bs
  sc : FnScope N ps (defScope st)
/-- the data version of the binding -/
def GOk (gV : List V → List V) (gA : List Ar → List Ar) : Prop := ∀ (W : Wd) (loc : Loc) (H Hf : Hp) (vs : List V) (as : List Ar), Sub Hf H → ArOk W loc H Hf 0 vs as → Apart loc as →
  ∃ loc2, ArOk W loc2 H Hf 0 (gV vs) (gA as) ∧ Apart loc2 (gA as) ∧ (∀ a, OwnA loc2 (gA as) a → OwnA loc as a) ∧
    ∀ H' Hf' cs, CsOk W loc2 H' Hf' 0 (gA as) cs → CsOk W loc H' Hf' 0 as cs
theorem gOk_id : GOk id id := fun W loc H Hf vs as _ h a => ⟨loc, h, a, fun _ h => h, fun _ _ _ h => h⟩
theorem def_ok {f : Addr} {qual : Str} {st : Stmt} {N ps ks : List Str} {n k : Nat} {gV : List V → List V} {gA : List Ar → List Ar} {B : Fs} (d : DefAt K f qual st N ps n ks gV) (hg : GOk gV gA)
    (hb : ∀ X : Cx, X.prog = P → X.w = w → X.K = K → X.mg = mg → X.base = base → X.N = N → X.env.scope = defScope st → Cq X k → (∀ x, X.fn x = true) → PSts X (defBody st) B) :
    CallOk P w K mg base (k + 1) f n ks (spF ⟨K, mg⟩ fun as => bodyF N.length ps.length B (gA as)) := by
  obtain ⟨nm, oc, od, dV, kV, doc, pm, an, cdv, ct, osl, lk, hcd, hbind⟩ := d.fd
  have S := d.sc
  refine ⟨fun A outer s H us ws vs zs Q hr hgd e0 l1 l2 r1 r2 hsp => ?_⟩
  have KX : K.In s.heap := e0.mod.kin.keeps fun b o q => (e0.bs b o q).1
  obtain ⟨bs, hbs, hbl, hrel⟩ := hbind s us ws KX l1 l2
  have rb := hrel vs zs r1 r2
  obtain ⟨Hf, loc, as, r, cs, hsub, har, hap, hF, kk⟩ := hsp
  obtain ⟨loc2, har2, hap2, hown2, hcs2⟩ := hg _ loc H Hf _ as hsub har hap
  unfold bodyF at hF
  dsimp only at hF
  split at hF
  · rename_i hlen
    obtain ⟨⟨fl, ρ'⟩, q1, hF⟩ := Option.bind_eq_some_iff.mp hF
    have hkind : ∀ y ∈ ps.zip bs, (defScope st).names.lookup y.1 = some .local ∨ ((defScope st).names.lookup y.1 = some .cell ∧ ((cellsFrom (s.heap.objs.size + 1) (defScope st).names []).lookup y.1).isSome = true) := fun ⟨x, v⟩ hy =>
      (S.par x (List.of_mem_zip hy).1).imp id fun z => ⟨z, PySem.W.cellsFrom_some _ _ _ (.inl z)⟩
    refine codeAny_call_function hr.depth (KX _ _ lk) rfl S.co S.gen rfl (PySem.W.codeRec_of KX hcd) (hbs _ _ _ _ (wpAny_newFunctionEnv_cells S.kind hkind fun env he s1 x => ?_))
    subst he
    refine ⟨(e0.mod.nolimit.keeps fun b o q => (e0.bs b o q).1).keeps x.toInCall.keep, codeAny_func ?_⟩
    have hv : (gV (vs ++ zs)).length = ps.length := rb.length.trans hbl
    have I := inv_start (CX := CX0) (E := E0) S hr.hd e0 hv rb x
    have hpl : ps.length ≤ N.length := by
      have := congrArg List.length S.pre
      rw [List.length_take] at this
      omega
    have s0 : SOk ⟨K, mg⟩ (slots N.length (gA as)) loc2 (start N (gV (vs ++ zs))) H Hf := start_ok (by rw [hlen]; exact hpl) hsub har2 hap2
    have body := hb (cxOf CX0 P w K mg base N qual (defScope st) f cdv A outer s H E0).nox rfl rfl rfl rfl rfl rfl rfl ⟨rfl, hgd, hr.deeper _, S.nd, rfl⟩ (fun _ => rfl)
    -- what is handed back
    have fin : ∀ (rv : Rv) (ρ1 : Env) (v : V) (H' Hf' : Hp) (σ' : St) (loc' : Loc), Go (slots N.length (gA as)) loc2 H Hf ρ1 loc' H' Hf' → SOk ⟨K, mg⟩ ρ1 loc' σ' H' Hf' → RtOk ⟨K, mg⟩ (slots N.length (gA as)) loc2 H v H' Hf' rv →
        csOf 0 (gA as) ρ1 = some cs → rv = r → Q v H' := by
      intro rv ρ1 v H' Hf' σ' loc' g s1 o ec er
      subst er
      have own0 : ∀ a, IsOwn (slots N.length (gA as)) loc2 a → OwnA loc as a := fun a ⟨i, t, c, h1, h2, h3⟩ => hown2 a ⟨i, (slots_par h1 h2).2.2, h3⟩
      refine kk v H' Hf' ⟨s1.sub, g.there, fun a o h n => g.keep a o h fun z => n (own0 a z), fun a o h n => g.frz a o h fun z => n (own0 a z)⟩ (hcs2 H' Hf' _ (cs_of s1 (fun i c q => (g.par i c q).2) 0 _ _ ec)) ?_
      cases rv with
      | imm d => exact o
      | own c =>
        obtain ⟨p, h1, h2, h3, h4⟩ := o
        rcases h4 with z | ⟨j, c', z1, _⟩
        · exact ⟨p, h1, z, h2, h3⟩
        · have := (slots_par z1 rfl).2.1
          cases this
    have bd := body.nox.run [] s1 _ H { nx := fun _ H' => Q .non H', rt := Q } I ⟨slots N.length (gA as), loc2, Hf, fl, ρ', s0, q1, fun σ' loc' H' Hf' g s1 => by
      cases fl with
      | nx =>
        obtain ⟨cs', e1, e2⟩ := Option.map_eq_some_iff.mp hF
        cases e2
        exact fin (.imm .non) ρ' .non H' Hf' σ' loc' g s1 .non e1 rfl
      | rt rv =>
        obtain ⟨cs', e1, e2⟩ := Option.map_eq_some_iff.mp hF
        cases e2
        exact fun v o => fin _ ρ' v H' Hf' σ' loc' g s1 o e1 rfl
      | bk => cases hF
      | ct => cases hF⟩
    refine wpAny_mono bd (fun flow s' hs => ?_) fun _ _ hs => hs
    cases flow with
    | ret u =>
      obtain ⟨v, σ', H', J, rv, q⟩ := hs
      exact ⟨v, H', J.os, J.bare, J.base, J.hok, rv, q⟩
    | next =>
      obtain ⟨σ', H', J, q⟩ := hs
      exact ⟨V.non, H', J.os, J.bare, J.base, J.hok, rfl, q⟩
    | brk => obtain ⟨_, _, _, z⟩ := hs; exact False.elim z
    | cont => obtain ⟨_, _, _, z⟩ := hs; exact False.elim z
  · cases hF
end
end Ev
/-! text Ev14 -/
set_option Elab.async false
set_option linter.all false
set_option maxRecDepth 100000
set_option maxHeartbeats 4000000
namespace Ev
open PySem L2

/-! ### a receiver -/
def plainRecv : Expr → Bool
  | .Call (.Name _ _) [] [] _ => false
  | _ => true
theorem recv_base {o : Expr} {m : Str} {env : PySem.Env} (h : plainRecv o = true) : attributeBase o m env (eval o env) = eval o env := by
  unfold attributeBase
  split
  · cases h
  · rfl
theorem few_of {es : List Expr} {env : PySem.Env} {pos : Pos} (hs : es.all noStar = true) (hl : es.length < 29) :
    ((backTo pos (starEach es env)).all (fun x => !x.1) && (backToKw pos (keywordEach [] env)).all (fun x => x.1.isSome) && decide (es.length + ([] : List Keyword).length + (if ([] : List Keyword).isEmpty then 0 else 1) < 30)) = true := by
  have h1 : (backTo pos (starEach es env)).all (fun x => !x.1) = true := by
    have := starEach_plain (env := env) pos hs
    rw [List.any_eq_false] at this
    rw [List.all_eq_true]
    intro x hx
    have := this x hx
    simpa using this
  rw [h1]
  simp only [keywordEach, backToKw, List.map_nil, List.all_nil, Bool.true_and, decide_eq_true_eq]
  show es.length + 0 + 0 < 30
  omega

section
variable {X : Cx} {e a b c o : Expr} {k : Nat} {f C : Addr} {F : Fn}
/-- the parts of an object -/
def fldD (f : Str) : D → Option D
  | .obj _ fs => fs.lookup f
  | _ => none
theorem RpF.look {W : Wd} {H : Hp} {f : Str} : ∀ {vs : List (Str × V)} {ds : List (Str × D)}, RpF W H vs ds → (∀ d, ds.lookup f = some d → ∃ v, vs.lookup f = some v ∧ Rp W H v d) ∧ (ds.lookup f = none → vs.lookup f = none)
  | _, _, .nil => ⟨fun d h => (by cases h), fun _ => rfl⟩
  | _, _, .cons (f := g) r t => by
    obtain ⟨i1, i2⟩ := RpF.look (f := f) t
    by_cases e : f == g
    · refine ⟨fun d h => ?_, fun h => ?_⟩
      · simp only [List.lookup, e, Option.some.injEq] at h ⊢
        subst h
        exact ⟨_, rfl, r⟩
      · simp [List.lookup, e] at h
    · have e' : (f == g) = false := by simpa using e
      refine ⟨fun d h => ?_, fun h => ?_⟩
      · simp only [List.lookup, e'] at h ⊢
        exact i1 d h
      · simp only [List.lookup, e'] at h ⊢
        exact i2 h
/-- the classes whose parts are read: by the parts' names -/
structure FldOk (K : PySem.W.Frag) (mg : Str → Option Value) (c f : Str) : Prop where
  ok : ∀ C, mg c = some (.ref C) → Cls K C ∧ NoAttr K C f
def fldF (p : Str → Str → Bool) (f : Str) (FA : Fr) : Fe := fun ρ => (FA ρ).bind fun x => (deref x.2 x.1).bind fun d => match d with
  | .obj c fs => if p c f = true then (fs.lookup f).map fun z => (.imm z, x.2) else none
  | _ => none
theorem px_fld {p : Str → Str → Bool} {f : Str} {FA : Fr} {pos : Pos} (hp : ∀ c f, p c f = true → FldOk X.K X.mg c f) (ha : PR X o FA) (hr : plainRecv o = true) : PX X (.Attribute o f pos) (fldF p f FA) :=
  pe_imp (pe_fld ha (recv_base hr)) fun σ H Q ⟨ρ, loc, Hf, z, ρ', s, hF, kk⟩ => by
    unfold fldF at hF
    obtain ⟨⟨x, ρ1⟩, q1, hF⟩ := Option.bind_eq_some_iff.mp hF
    obtain ⟨d, q2, hF⟩ := Option.bind_eq_some_iff.mp hF
    split at hF
    · rename_i c fs
      split at hF
      · rename_i hpc
        obtain ⟨z', q3, q4⟩ := Option.map_eq_some_iff.mp hF
        cases q4
        refine ⟨ρ, loc, Hf, x, _, s, q1, fun v H1 Hf1 g1 s1 o1 => ?_⟩
        obtain ⟨p1, Cc, dx, vfs, rfl, h1, hm, r⟩ := deref_b s1 o1 q2
        obtain ⟨v, h2, rv⟩ := r.look.1 _ q3
        obtain ⟨c1, c2⟩ := (hp c f hpc).ok Cc hm
        exact ⟨p1, Cc, dx, vfs, v, rfl, h1, c1, c2, h2, kk v H1 Hf1 g1 s1 rv⟩
      · cases hF
    · cases hF

/-- a method of an object: the object is handed in as data (fixed), first -/
def methF (c m : Str) (n : Nat) (F : Fn) (FO : Fd) (FA : Fa) : Fe := fun ρ => (FO ρ).bind fun x => match x.1 with
  | .obj c' fs => if c' = c ∧ fs.lookup m = none then (FA x.2).bind fun y => if y.1.length = n then applyU F (.val (.obj c' fs) :: y.1) y.2 else none else none
  | _ => none
theorem evalCall_attr {o : Expr} {m : Str} {apos pos : Pos} {es : List Expr} {env : PySem.Env} (hr : plainRecv o = true) (hl : (apos.endLine == pos.line) = true) (hs : es.all noStar = true) (h30 : es.length < 29) : ∃ pl : Sem Bool, eval (.Call (.Attribute o m apos) es [] pos) env = (do
      let ov ← eval o env
      standAt apos.atName
      let (f, first) ← holding [ov] (getMethod ov m pl)
      callWith pos f first (backTo pos (starEach es env)) (backToKw pos (keywordEach [] env))) := by
  refine ⟨(do return (← importBound o env).getD true), ?_⟩
  have hfew : methodCallForm (es.length + 0) (backTo pos (starEach es env)) (backToKw pos (keywordEach [] env)) = true := by
    have := few_of (env := env) (pos := pos) hs h30
    unfold methodCallForm
    rw [Bool.and_eq_true, Bool.and_eq_true] at this ⊢
    refine ⟨⟨?_, rfl⟩, ?_⟩
    · exact this.1.1
    · simp [keywordEach, backToKw]; omega
  show (do
    let ov ← attributeBase o m env (eval o env)
    standAt apos.atName
    methodCall o m apos pos env ov (es.length + ([] : List Keyword).length) (backTo pos (starEach es env)) (backToKw pos (keywordEach [] env))) = _
  rw [recv_base hr]
  unfold methodCall calleeOf methodCallPos
  simp only [List.length_nil, hfew, hl]
  simp
theorem meth_read {W : Wd} {mg : Str → Option Value} {c m : Str} {n : Nat} {FO : Fd} {FA : Fa} {σ : St} {H : Hp} {Q : VK} (hc : W.mg c = some (.ref C)) (h : tX W (methF c m n F FO FA) σ H Q) :
    tD W FO σ H fun x H1 => ∃ a dx fs, x = .ref a ∧ H1 a = some (.ins C dx fs) ∧ fs.lookup m = none ∧ tA W FA σ H1 fun vs H2 => vs.length = n ∧ spF W F (x :: vs) H2 Q E0 := by
  obtain ⟨ρ, loc, Hf, r, ρ', s0, hF, kk⟩ := h
  unfold methF at hF
  obtain ⟨⟨d, ρ1⟩, q1, hF1⟩ := Option.bind_eq_some_iff.mp hF
  dsimp only at hF1
  split at hF1
  · rename_i c' fs
    split at hF1
    · rename_i hcm
      obtain ⟨hcc, hlk⟩ := hcm
      obtain ⟨⟨as, ρ2⟩, q2, hF2⟩ := Option.bind_eq_some_iff.mp hF1
      dsimp only at hF2
      split at hF2
      · rename_i hlen
        refine ⟨ρ, loc, Hf, _, ρ1, s0, q1, fun x H1 Hf1 g1 s1 rx => ?_⟩
        have rx' := rx
        cases rx with
        | obj ha' hm' rf =>
        rename_i p Cc dx vfs
        have e1 : W.mg c' = some (.ref Cc) := hm'
        rw [hcc, hc] at e1
        cases e1
        refine ⟨p, dx, vfs, rfl, s1.sub _ _ ha', rf.look.2 hlk, ρ1, loc, Hf1, as, ρ2, s1, q2, fun vs H2 Hf2 g2 s2 o2 => ⟨(arsOk_len o2).trans hlen, ?_⟩⟩
        exact call_core (as := .val (.obj c' fs) :: as) s2 ⟨rx'.mono (g2.fixed s1), o2⟩ hF2 fun v H' Hf' g3 s3 rv => kk v H' Hf' (g1.trans (g2.trans g3)) s3 (rv.back fun a z => g1.there a (g2.there a z))
      · cases hF2
    · cases hF1
  · cases hF1
theorem px_meth {c m : Str} {es : List Expr} {FO : Fd} {FA : Fa} {apos pos : Pos} (q : Cq X k) (hc : X.mg c = some (.ref C)) (cl : Cls X.K C) (hm : Meth X.K C m f) (co : CallOk X.prog X.w X.K X.mg X.base k f ((e :: es).length + 1) [] (spF (wd X) F))
    (ho : PD X o FO) (ha : PAs X (e :: es) FA) (hs : (e :: es).all noStar = true) (hr : plainRecv o = true) (hl : (apos.endLine == pos.line) = true) (h30 : (e :: es).length < 29) : PX X (.Call (.Attribute o m apos) (e :: es) [] pos) (methF c m (e :: es).length F FO FA) := by
  obtain ⟨pl, ht⟩ := evalCall_attr (m := m) (env := X.env) hr hl hs h30
  refine ⟨fun pins s σ H Q I h => ?_⟩
  have h1 := meth_read (W := wd X) (mg := X.mg) (C := C) hc h
  refine PySem.W.methodCall_KW (pl := pl) (thn (ho.run pins s σ H _ I h1) fun u s1 ⟨x, H1, I1, rx, p, dx, fs, ex, ea, l, z⟩ => ?_) ht
  subst ex
  obtain rfl : u = Value.ref p := rx
  refine getmeth_ok I1 ea cl hm l ?_
  rw [List.all_cons, Bool.and_eq_true] at hs
  refine PySem.W.callWith_K (first := [.ref p]) (h₀ := X.base) I.ok.mod.kin hm.kp (thn (ha.run pos pins s1 σ H1 _ I1 z) fun us s2 ⟨vs, H2, I2, r, l2, z2⟩ => ⟨I2.kIn, ?_⟩) (starEach_cons hs.1) (starEach_plain pos hs.2)
  have hl' : (Value.ref p :: us).length = (e :: es).length + 1 := congrArg (· + 1) (r.length.symm.trans l2)
  exact run_call (us := .ref p :: us) (ws := []) (vs := .ref p :: vs) (zs := []) (hl' ▸ co) q.room q.gd I2 (.cons rfl r) .nil rfl (by rw [List.append_nil]; exact z2)
theorem px_meth0 {c m : Str} {FO : Fd} {apos pos : Pos} (q : Cq X k) (hc : X.mg c = some (.ref C)) (cl : Cls X.K C) (hm : Meth X.K C m f) (co : CallOk X.prog X.w X.K X.mg X.base k f 1 [] (spF (wd X) F))
    (ho : PD X o FO) (hr : plainRecv o = true) (hl : (apos.endLine == pos.line) = true) : PX X (.Call (.Attribute o m apos) [] [] pos) (methF c m 0 F FO nilA) := by
  obtain ⟨pl, ht⟩ := evalCall_attr (m := m) (env := X.env) (es := []) hr hl rfl (by decide)
  refine ⟨fun pins s σ H Q I h => ?_⟩
  have h1 := meth_read (W := wd X) (mg := X.mg) (C := C) hc h
  refine PySem.W.methodCall_KW (pl := pl) (thn (ho.run pins s σ H _ I h1) fun u s1 ⟨x, H1, I1, rx, p, dx, fs, ex, ea, l, z⟩ => ?_) ht
  subst ex
  obtain rfl : u = Value.ref p := rx
  refine getmeth_ok I1 ea cl hm l ?_
  have z2 : spF (wd X) F [V.ref p] H1 Q E0 := by
    obtain ⟨ρ, loc, Hf, r, ρ', s0, hF, kk⟩ := z
    cases hF
    exact (kk [] H1 Hf .refl s0 trivial).2
  exact PySem.W.callWith_K0 (first := [.ref p]) I1.kIn hm.kp (run_call (us := [.ref p]) (ws := []) (vs := [.ref p]) (zs := []) co q.room q.gd I1 (.cons rfl .nil) .nil rfl z2)
end
end Ev
/-! text Ev15 -/
set_option Elab.async false
set_option linter.all false
set_option maxRecDepth 100000
set_option maxHeartbeats 4000000
namespace Ev
open PySem L2

/-! ### one's own objects change -/
section
variable {W : Wd} {ρ ρ' : Env} {loc : Loc} {σ : St} {H Hf H' Hf' : Hp}
theorem chg_own {i : Nat} {t : Sl} {c c' : C} {u : HO} (s : SOk W ρ loc σ H Hf) (h1 : ρ[i]? = some t) (h2 : t.cont = some c) (o : OwnAt W (upd H (loc i) u) Hf (loc i) c') :
    SOk W (setC ρ i c') loc σ (upd H (loc i) u) Hf ∧ Ge ρ loc H Hf (setC ρ i c') (upd H (loc i) u) Hf := by
  obtain ⟨z1, z2, z3⟩ := s.own i t c h1 h2
  have hth : H (loc i) ≠ none := z3.there
  refine ⟨⟨fun a x h => ?_, by rw [setC_len]; exact s.len, fun j d h => ?_, fun j t' d h3 h4 => ?_, fun j l t1 t2 d1 d2 a1 a2 a3 a4 a5 => ?_⟩, ⟨fun a h => ?_, fun a x h n => ?_, fun _ _ _ _ => rfl, fun j d h => ?_, fun j d h => ?_, fun j d h => ?_⟩⟩
  · rw [upd_ne (ne_of_none h z2)]; exact s.sub a x h
  · rcases setC_get h with ⟨_, s0, _, e⟩ | ⟨_, q⟩
    · have := put_imm' e.symm
      subst this
      rename_i e1 q1
      subst e1
      rw [h1] at q1
      cases q1
      cases h2
    · exact s.imm j d q
  · rcases setC_get h3 with ⟨e1, s0, q, e⟩ | ⟨n, q⟩
    · subst e1 e
      obtain ⟨rfl, _⟩ := put_cont h4
      exact ⟨z1, z2, o⟩
    · obtain ⟨x, y, w⟩ := s.own j t' d q h4
      have ne : loc j ≠ loc i := fun e => n (s.inj j i t' t d c q h1 h4 h2 e)
      exact ⟨x, y, w.mono (fun _ k => by rw [upd_ne ne]; exact k) fun _ _ k => k⟩
  · have r : ∀ (j : Nat) (t' : Sl) (d : C), (setC ρ i c')[j]? = some t' → t'.cont = some d → ∃ t0 d0, ρ[j]? = some t0 ∧ t0.cont = some d0 := fun j t' d h h' => by
      rcases setC_get h with ⟨e1, s0, q, e⟩ | ⟨n, q⟩
      · subst e
        obtain ⟨_, d0, q2⟩ := put_cont h'
        exact ⟨s0, d0, by rw [e1]; exact q, q2⟩
      · exact ⟨t', d, q, h'⟩
    obtain ⟨u1, e1, q1, q2⟩ := r j t1 d1 a1 a3
    obtain ⟨u2, e2, q3, q4⟩ := r l t2 d2 a2 a4
    exact s.inj j l u1 u2 e1 e2 q1 q3 q2 q4 a5
  · by_cases e : a = loc i
    · subst e; rw [upd_same] at h; cases h
    · rw [upd_ne e] at h; exact h
  · have ne : a ≠ loc i := fun e => n ⟨i, t, c, h1, h2, e.symm⟩
    rw [upd_ne ne]; exact h
  · rcases setC_get h with ⟨e1, s0, q, e⟩ | ⟨n, q⟩
    · obtain ⟨d0, q2⟩ := put_own e.symm
      subst q2
      exact ⟨d0, by rw [e1]; exact q⟩
    · exact ⟨d, q⟩
  · rcases setC_get h with ⟨e1, s0, q, e⟩ | ⟨n, q⟩
    · obtain ⟨d0, q2⟩ := put_par e.symm
      subst q2
      exact ⟨d0, by rw [e1]; exact q⟩
    · exact ⟨d, q⟩
  · by_cases e : j = i
    · subst e
      exact ⟨c', by rw [setC_self h]; rfl⟩
    · exact ⟨d, by rw [setC_ne e]; exact h⟩
end

/-! ### list methods that change the list -/
/-- of the items and the further values: what is handed back, and the items then -/
abbrev Gm := List D → List D → Option (D × List D)
def rfOf : AR → Option Nat
  | .rf i => some i
  | _ => none
def lstAt (ρ : Env) (i : Nat) : Option (List D) := match contAt ρ i with
  | some (.lst xs) => some xs
  | _ => none
theorem lstAt_some {ρ : Env} {i : Nat} {xs : List D} (h : lstAt ρ i = some xs) : ∃ s, ρ[i]? = some s ∧ s.cont = some (.lst xs) := by
  unfold lstAt at h
  split at h
  · rename_i ys q
    cases h
    exact contAt_some q
  · cases h
def mutF (g : Gm) (FR : Fr) (FL : Fl) : Fe := fun ρ => (FR ρ).bind fun x => (rfOf x.1).bind fun i => (lstAt x.2 i).bind fun _ => (FL x.2).bind fun y => (lstAt y.2 i).bind fun xs => (g xs y.1).map fun z => (.imm z.1, setC y.2 i (.lst z.2))
def mut0F (g : Gm) (FR : Fr) : Fe := fun ρ => (FR ρ).bind fun x => (rfOf x.1).bind fun i => (lstAt x.2 i).bind fun xs => (g xs []).map fun z => (.imm z.1, setC x.2 i (.lst z.2))
/-- such a rule -/
def DMut (W : Wd) (r : V → List V → Hp → VK → Prop) (g : Gm) : Prop := ∀ (p : Addr) (vs : List V) (xs ds : List D) (z : D) (ys : List D) (us : List V) (H Hf : Hp) (Q : VK), Sub Hf H → H p = some (.lst vs) → RpL W Hf vs xs → RpL W Hf us ds → g xs ds = some (z, ys) →
  (∀ v ws, Rp W Hf v z → RpL W Hf ws ys → Q v (upd H p (.lst ws))) → r (.ref p) us H Q
section
variable {X : Cx} {e a b c o : Expr} {m : Str}
theorem rfOf_some {a : AR} {i : Nat} (h : rfOf a = some i) : a = .rf i := by
  cases a with
  | val d => cases h
  | rf j => cases h; rfl
theorem mut_read {W : Wd} {r : V → List V → Hp → VK → Prop} {g : Gm} (hd : DMut W r g) {FR : Fr} {FL : Fl} {σ : St} {H : Hp} {Q : VK} (h : tX W (mutF g FR FL) σ H Q) :
    tBM W.K "list" r (tR W FR) (tL W FL) σ H Q := by
  obtain ⟨ρ, loc, Hf, rv, ρ', s, hF, k⟩ := h
  unfold mutF at hF
  obtain ⟨⟨x, ρ1⟩, q1, hF⟩ := Option.bind_eq_some_iff.mp hF
  obtain ⟨i, q0, hF⟩ := Option.bind_eq_some_iff.mp hF
  have := rfOf_some q0
  dsimp only at this
  subst this
  obtain ⟨xs0, q3, hF⟩ := Option.bind_eq_some_iff.mp hF
  obtain ⟨⟨ds, ρ2⟩, q2, hF⟩ := Option.bind_eq_some_iff.mp hF
  obtain ⟨xs, q5, hF⟩ := Option.bind_eq_some_iff.mp hF
  obtain ⟨⟨z, ys⟩, q4, q6⟩ := Option.map_eq_some_iff.mp hF
  cases q6
  obtain ⟨t1, h1, h2⟩ := lstAt_some q3
  obtain ⟨t2, h3, h4⟩ := lstAt_some q5
  refine ⟨ρ, loc, Hf, _, ρ1, s, q1, fun v H1 Hf1 g1 s1 o1 => ?_⟩
  obtain rfl : v = .ref (loc i) := o1
  obtain ⟨_, _, us0, w0, _⟩ := s1.own i t1 _ h1 h2
  refine ⟨.inl ⟨rfl, us0, SqL.of w0⟩, ρ1, loc, Hf1, ds, ρ2, s1, q2, fun vs H2 Hf2 g2 s2 r2 => ?_⟩
  obtain ⟨w1, w2, us, w3, w4⟩ := s2.own i t2 _ h3 h4
  refine hd (loc i) us xs ds z ys vs H2 Hf2 Q s2.sub w3 w4 r2 q4 fun v ws rz ry => ?_
  have s3 := chg_own (c' := .lst ys) s2 h3 h4 (u := .lst ws) ⟨ws, upd_same, ry⟩
  exact k v _ Hf2 (g1.trans (g2.trans s3.2)) s3.1 rz
theorem mut0_read {W : Wd} {r : V → List V → Hp → VK → Prop} {g : Gm} (hd : DMut W r g) {FR : Fr} {σ : St} {H : Hp} {Q : VK} (h : tX W (mut0F g FR) σ H Q) :
    tBM0 W.K "list" r (tR W FR) σ H Q := by
  obtain ⟨ρ, loc, Hf, rv, ρ', s, hF, k⟩ := h
  unfold mut0F at hF
  obtain ⟨⟨x, ρ1⟩, q1, hF⟩ := Option.bind_eq_some_iff.mp hF
  obtain ⟨i, q0, hF⟩ := Option.bind_eq_some_iff.mp hF
  have := rfOf_some q0
  dsimp only at this
  subst this
  obtain ⟨xs, q5, hF⟩ := Option.bind_eq_some_iff.mp hF
  obtain ⟨⟨z, ys⟩, q4, q6⟩ := Option.map_eq_some_iff.mp hF
  cases q6
  obtain ⟨t2, h3, h4⟩ := lstAt_some q5
  refine ⟨ρ, loc, Hf, _, ρ1, s, q1, fun v H1 Hf1 g1 s1 o1 => ?_⟩
  obtain rfl : v = .ref (loc i) := o1
  obtain ⟨w1, w2, us, w3, w4⟩ := s1.own i t2 _ h3 h4
  refine ⟨.inl ⟨rfl, us, SqL.of w3⟩, hd (loc i) us xs [] z ys [] H1 Hf1 Q s1.sub w3 w4 .nil q4 fun v ws rz ry => ?_⟩
  have s3 := chg_own (c' := .lst ys) s1 h3 h4 (u := .lst ws) ⟨ws, upd_same, ry⟩
  exact k v _ Hf1 (g1.trans s3.2) s3.1 rz
theorem px_mut {id : String} {r : V → List V → Hp → VK → Prop} {g : Gm} {FR : Fr} {FL : Fl} {es : List Expr} {apos cpos : Pos} (slot : Slot "list" m id) (hty : typeOf (.builtin id) = pure (.type "method_descriptor")) (hm : MtR X id r) (hd : DMut (wd X) r g)
    (ho : PR X o FR) (ha : PLs X (e :: es) FL) (hr : plainRecv o = true) (hs : (e :: es).all noStar = true) (h30 : (e :: es).length < 29) (hl : (apos.endLine == cpos.line) = true) : PX X (.Call (.Attribute o m apos) (e :: es) [] cpos) (mutF g FR FL) := by
  have hs2 := hs
  rw [List.all_cons, Bool.and_eq_true] at hs2
  exact pe_imp (pe_bm PySem.F.plainAttrs_list slot hty hm ho ha (recv_base hr) (few_of hs h30) hl (starEach_cons hs2.1) (starEach_plain cpos hs2.2)) fun _ _ _ h => mut_read hd h
theorem px_mut0 {id : String} {r : V → List V → Hp → VK → Prop} {g : Gm} {FR : Fr} {apos cpos : Pos} (slot : Slot "list" m id) (hty : typeOf (.builtin id) = pure (.type "method_descriptor")) (hm : MtR X id r) (hd : DMut (wd X) r g)
    (ho : PR X o FR) (hr : plainRecv o = true) (hl : (apos.endLine == cpos.line) = true) : PX X (.Call (.Attribute o m apos) [] [] cpos) (mut0F g FR) :=
  pe_imp (pe_bm0 PySem.F.plainAttrs_list slot hty hm ho (recv_base hr) hl) fun _ _ _ h => mut0_read hd h
def appendG : Gm := fun xs ds => match ds with
  | [d] => if xs.length < sizeLine then some (.non, xs ++ [d]) else none
  | _ => none
theorem dm_append {W : Wd} : DMut W rAppend appendG := fun p vs xs ds z ys us H Hf Q s h r ru e k => by
  unfold appendG at e
  split at e
  · rename_i d
    split at e
    · rename_i hl
      cases e
      cases ru with
      | cons rd rn =>
        cases rn
        exact ⟨p, vs, _, rfl, rfl, h, by rw [r.length]; exact hl, k .non _ .non (r.append (.cons rd .nil))⟩
    · cases e
  · cases e
def extendG : Gm := fun xs ds => match ds with
  | [.lst zs] => if xs.length + zs.length ≤ sizeLine then some (.non, xs ++ zs) else none
  | _ => none
theorem dm_extend {W : Wd} : DMut W rExtend extendG := fun p vs xs ds z ys us H Hf Q s h r ru e k => by
  unfold extendG at e
  split at e
  · rename_i zs
    split at e
    · rename_i hl
      cases e
      cases ru with
      | cons rd rn =>
        cases rn
        cases rd with
        | lst hb rz => exact ⟨p, _, vs, _, rfl, rfl, h, s _ _ hb, by rw [r.length, rz.length]; exact hl, k .non _ .non (r.append rz)⟩
    · cases e
  · cases e
def popG : Gm := fun xs ds => match ds with
  | [] => (xs[xs.length - 1]?).map fun d => (d, xs.dropLast)
  | _ => none
theorem RpL.dropLast {W : Wd} {H : Hp} {vs : List V} {ds : List D} (r : RpL W H vs ds) : RpL W H vs.dropLast ds.dropLast := by
  rw [List.dropLast_eq_take, List.dropLast_eq_take, r.length]; exact r.take _
theorem dm_pop {W : Wd} : DMut W rPop popG := fun p vs xs ds z ys us H Hf Q s h r ru e k => by
  unfold popG at e
  split at e
  · cases ru
    obtain ⟨d, e1, e2⟩ := Option.map_eq_some_iff.mp e
    cases e2
    obtain ⟨v, e3, rv⟩ := r.get e1
    exact ⟨p, vs, v, rfl, rfl, h, by rw [r.length]; exact e3, k v _ rv r.dropLast⟩
  · cases e
def popAtG : Gm := fun xs ds => match ds with
  | [.int i] => if -(2 ^ 63) ≤ i ∧ i < 2 ^ 63 then (seqIndex? i xs.length).bind fun j => (xs[j]?).map fun d => (d, xs.eraseIdx j) else none
  | _ => none
theorem dm_popAt {W : Wd} : DMut W rPopAt popAtG := fun p vs xs ds z ys us H Hf Q s h r ru e k => by
  unfold popAtG at e
  split at e
  · rename_i i
    split at e
    · rename_i hi
      obtain ⟨j, e0, e⟩ := Option.bind_eq_some_iff.mp e
      obtain ⟨d, e1, e2⟩ := Option.map_eq_some_iff.mp e
      cases e2
      cases ru with
      | cons rd rn =>
        cases rn
        cases rd
        obtain ⟨v, e3, rv⟩ := r.get e1
        exact ⟨p, vs, i, j, v, rfl, rfl, h, hi.1, hi.2, by rw [r.length]; exact e0, e3, k v _ rv (r.eraseIdx j)⟩
    · cases e
  · cases e
def reverseG : Gm := fun xs ds => match ds with
  | [] => some (.non, xs.reverse)
  | _ => none
theorem dm_reverse {W : Wd} : DMut W rReverse reverseG := fun p vs xs ds z ys us H Hf Q s h r ru e k => by
  unfold reverseG at e
  split at e
  · cases ru; cases e
    exact ⟨p, vs, rfl, rfl, h, k .non _ .non r.reverse⟩
  · cases e
def clearG : Gm := fun xs ds => match ds with
  | [] => some (.non, [])
  | _ => none
theorem dm_clear {W : Wd} : DMut W rClear clearG := fun p vs xs ds z ys us H Hf Q s h r ru e k => by
  unfold clearG at e
  split at e
  · cases ru; cases e
    exact ⟨p, vs, rfl, rfl, h, k .non _ .non .nil⟩
  · cases e
def insertG : Gm := fun xs ds => match ds with
  | [.int i, d] => if xs.length < sizeLine ∧ 0 ≤ i ∧ i < 2 ^ 63 then some (.non, xs.take i.toNat ++ [d] ++ xs.drop i.toNat) else none
  | _ => none
theorem dm_insert {W : Wd} : DMut W (fun x vs H Q => ∃ (l : Addr) (xs : List V) (i : Int) (y : V), x = .ref l ∧ vs = [.int i, y] ∧ H l = some (.lst xs) ∧ xs.length < sizeLine ∧ 0 ≤ i ∧ i < 2 ^ 63 ∧ Q .non (upd H l (.lst (xs.take i.toNat ++ [y] ++ xs.drop i.toNat)))) insertG := fun p vs xs ds z ys us H Hf Q s h r ru e k => by
  unfold insertG at e
  split at e
  · rename_i i d
    split at e
    · rename_i hi
      cases e
      cases ru with
      | cons rd rn =>
        cases rd
        cases rn with
        | cons r2 rn =>
          cases rn
          exact ⟨p, vs, i, _, rfl, rfl, h, by rw [r.length]; exact hi.1, hi.2.1, hi.2.2, k .non _ .non (((r.take _).append (.cons r2 .nil)).append (r.drop _))⟩
    · cases e
  · cases e
end
end Ev
/-! text Ev16 -/
set_option Elab.async false
set_option linter.all false
set_option maxRecDepth 100000
set_option maxHeartbeats 4000000
namespace Ev
open PySem L2

/-! ### dicts: store, display -/
def putKD (kvs : List (D × D)) (k : Key) (kd d : D) : List (D × D) := if (kvs.any fun p => decide (keyD p.1 = some k)) = true then kvs.map fun p => if keyD p.1 = some k then (p.1, d) else p else kvs ++ [(kd, d)]
def putTD (kvs : List (D × D)) (k : List Key) (kd d : D) : List (D × D) := if (kvs.any fun p => isTK p.1 k) = true then kvs.map fun p => if isTK p.1 k = true then (p.1, d) else p else kvs ++ [(kd, d)]
def putDK (kvs : List (D × D)) (kd d : D) : Option (List (D × D)) := if kvs.length < sizeLine then (keyD kd).map fun k => putKD kvs k kd d else none
def putDT (kvs : List (D × D)) (kds : List D) (d : D) : Option (List (D × D)) := if kvs.length < sizeLine then (keysD kds).map fun k => putTD kvs k (.tup kds) d else none
section
variable {W : Wd} {H Hf : Hp}
theorem RpK.len : ∀ {ks : List (Key × V)} {ds : List (D × D)}, RpK W H ks ds → ks.length = ds.length
  | _, _, .nil => rfl
  | _, _, .cons _ _ t => congrArg (· + 1) t.len
theorem RpT.len : ∀ {ks : List (List Key × V)} {ds : List (D × D)}, RpT W H ks ds → ks.length = ds.length
  | _, _, .nil => rfl
  | _, _, .cons _ _ t => congrArg (· + 1) t.len
theorem RpK.app {k : Key} {v : V} {kd d : D} (hk : keyD kd = some k) (r : Rp W H v d) : ∀ {ks : List (Key × V)} {ds : List (D × D)}, RpK W H ks ds → RpK W H (ks ++ [(k, v)]) (ds ++ [(kd, d)])
  | _, _, .nil => .cons hk r .nil
  | _, _, .cons a b t => .cons a b (t.app hk r)
theorem RpT.app {k : List Key} {v : V} {kd : List D} {d : D} (hk : keysD kd = some k) (r : Rp W H v d) : ∀ {ks : List (List Key × V)} {ds : List (D × D)}, RpT W H ks ds → RpT W H (ks ++ [(k, v)]) (ds ++ [(.tup kd, d)])
  | _, _, .nil => .cons hk r .nil
  | _, _, .cons a b t => .cons a b (t.app hk r)
theorem RpK.anyk {k : Key} : ∀ {ks : List (Key × V)} {ds : List (D × D)}, RpK W H ks ds → (ks.any fun kv => decide (kv.1 = k)) = ds.any fun p => decide (keyD p.1 = some k)
  | _, _, .nil => rfl
  | _, _, .cons (k := k1) (kd := kd) a b t => by
    rw [List.any_cons, List.any_cons, t.anyk]
    dsimp only
    rw [a]
    simp
theorem isTK_iff {kd : List D} {k1 k : List Key} (h : keysD kd = some k1) : isTK (.tup kd) k = decide (k1 = k) := by
  unfold isTK
  simp [h]
theorem RpT.anyk {k : List Key} : ∀ {ks : List (List Key × V)} {ds : List (D × D)}, RpT W H ks ds → (ks.any fun kv => decide (kv.1 = k)) = ds.any fun p => isTK p.1 k
  | _, _, .nil => rfl
  | _, _, .cons (k := k1) (kd := kd) a b t => by
    rw [List.any_cons, List.any_cons, t.anyk]
    dsimp only
    rw [isTK_iff a]
theorem RpK.chg {k : Key} {v : V} {d : D} (r : Rp W H v d) : ∀ {ks : List (Key × V)} {ds : List (D × D)}, RpK W H ks ds → RpK W H (ks.map fun kv => if kv.1 = k then (kv.1, v) else kv) (ds.map fun p => if keyD p.1 = some k then (p.1, d) else p)
  | _, _, .nil => .nil
  | _, _, .cons (k := k1) (kd := kd) a b t => by
    rw [List.map_cons, List.map_cons]
    by_cases e : k1 = k
    · subst e
      rw [if_pos (by dsimp only), if_pos (by dsimp only; exact a)]
      exact .cons a r (t.chg r)
    · rw [if_neg (by dsimp only; exact e), if_neg (by dsimp only; rw [a]; simp [e])]
      exact .cons a b (t.chg r)
theorem RpT.chg {k : List Key} {v : V} {d : D} (r : Rp W H v d) : ∀ {ks : List (List Key × V)} {ds : List (D × D)}, RpT W H ks ds → RpT W H (ks.map fun kv => if kv.1 = k then (kv.1, v) else kv) (ds.map fun p => if isTK p.1 k = true then (p.1, d) else p)
  | _, _, .nil => .nil
  | _, _, .cons (k := k1) (kd := kd) a b t => by
    rw [List.map_cons, List.map_cons]
    dsimp only
    rw [isTK_iff a]
    by_cases e : k1 = k
    · subst e
      rw [if_pos rfl, if_pos (by simp)]
      exact .cons a r (t.chg r)
    · rw [if_neg e, if_neg (by simp [e])]
      exact .cons a b (t.chg r)
theorem putDK_ok {kvs kvs' : List (D × D)} {kd d : D} {p : Addr} {y v : V} (s : Sub Hf H) (o : OwnAt W H Hf p (.dct false kvs)) (ry : Rp W Hf y kd) (rv : Rp W Hf v d) (e : putDK kvs kd d = some kvs') :
    ∃ u, DPut H p y v (upd H p u) ∧ OwnAt W (upd H p u) Hf p (.dct false kvs') := by
  unfold putDK at e
  split at e
  · rename_i hl
    obtain ⟨k, e1, e2⟩ := Option.map_eq_some_iff.mp e
    obtain ⟨ks, h1, r⟩ := o
    have ey : y = kV k := keyD_rp ry e1
    subst ey e2
    refine ⟨.dK (putK ks k v), .inl ⟨ks, k, h1, rfl, by rw [r.len]; exact hl, rfl⟩, _, upd_same, ?_⟩
    unfold putK putKD
    rw [r.anyk]
    split
    · exact r.chg rv
    · exact r.app e1 rv
  · cases e
theorem putDT_ok {kvs kvs' : List (D × D)} {kds : List D} {d : D} {p b : Addr} {vs : List V} {v : V} (o : OwnAt W H Hf p (.dct true kvs)) (hb : H b = some (.tup vs)) (rl : RpL W Hf vs kds) (rv : Rp W Hf v d) (e : putDT kvs kds d = some kvs') :
    ∃ u, DPut H p (.ref b) v (upd H p u) ∧ OwnAt W (upd H p u) Hf p (.dct true kvs') := by
  unfold putDT at e
  split at e
  · rename_i hl
    obtain ⟨k, e1, e2⟩ := Option.map_eq_some_iff.mp e
    obtain ⟨ks, h1, r⟩ := o
    have ey := keysD_rp rl e1
    subst ey e2
    refine ⟨.dT (putK ks k v), .inr ⟨ks, k, _, h1, rfl, hb, by rw [r.len]; exact hl, rfl⟩, _, upd_same, ?_⟩
    unfold putK putTD
    rw [r.anyk]
    split
    · exact r.chg rv
    · exact r.app e1 rv
  · cases e
end
def dctAt (ρ : Env) (i : Nat) : Option (Bool × List (D × D)) := match contAt ρ i with
  | some (.dct t kvs) => some (t, kvs)
  | _ => none
theorem dctAt_some {ρ : Env} {i : Nat} {x : Bool × List (D × D)} (h : dctAt ρ i = some x) : ∃ s, ρ[i]? = some s ∧ s.cont = some (.dct x.1 x.2) := by
  unfold dctAt at h
  split at h
  · rename_i t ys q
    cases h
    exact contAt_some q
  · cases h
/-- d[k] = v, d a slot -/
def dputS (FV : Fd) (FR : Fr) (FK : Fd) : Fs := fun ρ => (FV ρ).bind fun x => (FR x.2).bind fun y => (rfOf y.1).bind fun i => (FK y.2).bind fun z => (dctAt z.2 i).bind fun c => if c.1 = false then (putDK c.2 z.1 x.1).map fun kvs => (.nx, setC z.2 i (.dct false kvs)) else none
/-- d[k1, k2, ..] = v -/
def dputTS (FV : Fd) (FR : Fr) (FK : Fl) : Fs := fun ρ => (FV ρ).bind fun x => (FR x.2).bind fun y => (rfOf y.1).bind fun i => (FK y.2).bind fun z => (dctAt z.2 i).bind fun c => if c.1 = true ∧ z.1.length ≤ sizeLine then (putDT c.2 z.1 x.1).map fun kvs => (.nx, setC z.2 i (.dct true kvs)) else none
section
variable {X : Cx} {e a b c o i value : Expr}
theorem pst_dput {FV FK : Fd} {FR : Fr} {pos pos' : Pos} {k : Nat} (q : Cq X k) (ho : PR X o FR) (hi : PD X i FK) (hv : PD X value FV) (hs : swapsWith value (some (.Subscript o i pos')) pos.line X.env = pure false) :
    PSt X (.Assign [.Subscript o i pos'] value pos) (dputS FV FR FK) := ps_imp (ps_dput (hu_of q.room) ho hi hv hs) fun D σ H ⟨ρ, loc, Hf, fl, ρ', s, hF, kk⟩ => by
  unfold dputS at hF
  obtain ⟨⟨d, ρ1⟩, q1, hF⟩ := Option.bind_eq_some_iff.mp hF
  obtain ⟨⟨x, ρ2⟩, q2, hF⟩ := Option.bind_eq_some_iff.mp hF
  obtain ⟨j, q3, hF⟩ := Option.bind_eq_some_iff.mp hF
  have := rfOf_some q3
  dsimp only at this
  subst this
  obtain ⟨⟨kd, ρ3⟩, q4, hF⟩ := Option.bind_eq_some_iff.mp hF
  obtain ⟨⟨t, kvs⟩, q5, hF⟩ := Option.bind_eq_some_iff.mp hF
  split at hF
  · rename_i ht
    dsimp only at ht
    subst ht
    obtain ⟨kvs', q6, q7⟩ := Option.map_eq_some_iff.mp hF
    cases q7
    obtain ⟨sl, h3, h4⟩ := dctAt_some q5
    refine ⟨ρ, loc, Hf, d, ρ1, s, q1, fun v H1 Hf1 g1 s1 rv => ⟨ρ1, loc, Hf1, _, ρ2, s1, q2, fun u H2 Hf2 g2 s2 o2 => ⟨ρ2, loc, Hf2, kd, ρ3, s2, q4, fun y H3 Hf3 g3 s3 ry => ?_⟩⟩⟩
    obtain rfl : u = .ref (loc j) := o2
    obtain ⟨w1, w2, w3⟩ := s3.own j sl _ h3 h4
    obtain ⟨uo, hp, ho2⟩ := putDK_ok s3.sub w3 ry (rv.mono fun b o z => g3.fixed s2 b o (g2.fixed s1 b o z)) q6
    have s4 := chg_own s3 h3 h4 ho2
    exact ⟨loc j, _, rfl, hp, kk σ loc _ Hf3 (g1.trans (g2.trans (g3.trans s4.2))).go s4.1⟩
  · cases hF
theorem pst_dputT {FV : Fd} {FK : Fl} {FR : Fr} {es : List Expr} {k2 : Nat} {pos pos' pt : Pos} {k : Nat} (q : Cq X k) (ho : PR X o FR) (hi : PLs X es FK) (hv : PD X value FV) (hs : swapsWith value (some (.Subscript o (.Tuple es k2 pt) pos')) pos.line X.env = pure false) :
    PSt X (.Assign [.Subscript o (.Tuple es k2 pt) pos'] value pos) (dputTS FV FR FK) := ps_imp (ps_dput (hu_of q.room) ho (pe_tup hi) hv hs) fun D σ H ⟨ρ, loc, Hf, fl, ρ', s, hF, kk⟩ => by
  unfold dputTS at hF
  obtain ⟨⟨d, ρ1⟩, q1, hF⟩ := Option.bind_eq_some_iff.mp hF
  obtain ⟨⟨x, ρ2⟩, q2, hF⟩ := Option.bind_eq_some_iff.mp hF
  obtain ⟨j, q3, hF⟩ := Option.bind_eq_some_iff.mp hF
  have := rfOf_some q3
  dsimp only at this
  subst this
  obtain ⟨⟨kds, ρ3⟩, q4, hF⟩ := Option.bind_eq_some_iff.mp hF
  obtain ⟨⟨t, kvs⟩, q5, hF⟩ := Option.bind_eq_some_iff.mp hF
  split at hF
  · rename_i ht
    dsimp only at ht
    obtain ⟨ht, hz⟩ := ht
    subst ht
    obtain ⟨kvs', q6, q7⟩ := Option.map_eq_some_iff.mp hF
    cases q7
    obtain ⟨sl, h3, h4⟩ := dctAt_some q5
    refine ⟨ρ, loc, Hf, d, ρ1, s, q1, fun v H1 Hf1 g1 s1 rv => ⟨ρ1, loc, Hf1, _, ρ2, s1, q2, fun u H2 Hf2 g2 s2 o2 => ⟨ρ2, loc, Hf2, kds, ρ3, s2, q4, fun vs H3 Hf3 g3 s3 rl => ⟨by rw [rl.length]; exact hz, fun b hb => ?_⟩⟩⟩⟩
    obtain rfl : u = .ref (loc j) := o2
    have E := Ext.newO s3.sub hb (.tup vs)
    have s5 := s3.ext E
    obtain ⟨w1, w2, w3⟩ := s5.own j sl _ h3 h4
    obtain ⟨uo, hp, ho2⟩ := putDT_ok w3 upd_same rl (rv.mono fun b o z => g3.fixed s2 b o (g2.fixed s1 b o z)) q6
    have s4 := chg_own s5 h3 h4 ho2
    exact ⟨loc j, _, rfl, hp, kk σ loc _ Hf3 (g1.trans (g2.trans (g3.trans (E.ge.trans s4.2)))).go s4.1⟩
  · cases hF
/-- {'a': .., ..} -/
def dispL : List (Str × Fd) → Env → Option (List (D × D) × Env)
  | [], ρ => some ([], ρ)
  | (x, F) :: r, ρ => (F ρ).bind fun y => (dispL r y.2).map fun z => ((.str x, y.1) :: z.1, z.2)
def dispF (l : List (Str × Fd)) : Fe := fun ρ => if (l.map (·.1)).Nodup ∧ l.length ≤ 15 then (dispL l ρ).map fun z => (.own (.dct false z.1), z.2) else none
theorem disp_read {W : Wd} {σ : St} : ∀ {l : List (Str × Fd)} {H : Hp} {Q : List (V × V) → Hp → Prop} {ρ : Env} {loc : Loc} {Hf : Hp} {kvs : List (D × D)} {ρ' : Env}, SOk W ρ loc σ H Hf → dispL l ρ = some (kvs, ρ') →
    (∀ (ks : List (Key × V)) H' Hf', Ge ρ loc H Hf ρ' H' Hf' → SOk W ρ' loc σ H' Hf' → RpK W Hf' ks kvs → ks.map (·.1) = l.map (fun p => (Sum.inr p.1 : Key)) → Q (ks.map fun kv => (kV kv.1, kv.2)) H') → tPairs (l.map fun p => (tC (V.str p.1), tD W p.2)) σ H Q
  | [], H, Q, ρ, loc, Hf, kvs, ρ', s, h, k => by
    cases h
    exact k [] H Hf .refl s .nil rfl
  | (x, F) :: r, H, Q, ρ, loc, Hf, kvs, ρ', s, h, k => by
    unfold dispL at h
    obtain ⟨⟨d, ρ1⟩, q1, h⟩ := Option.bind_eq_some_iff.mp h
    obtain ⟨⟨kvs1, ρ2⟩, q2, q3⟩ := Option.map_eq_some_iff.mp h
    cases q3
    refine ⟨ρ, loc, Hf, d, ρ1, s, q1, fun v H1 Hf1 g1 s1 rv => disp_read s1 q2 fun ks H2 Hf2 g2 s2 rk ek => ?_⟩
    exact k ((Sum.inr x, v) :: ks) H2 Hf2 (g1.trans g2) s2 (.cons rfl (rv.mono (g2.fixed s1)) rk) (by rw [List.map_cons, List.map_cons, ek])
theorem putK_new {kvs : List (Key × V)} {k : Key} {v : V} (h : k ∉ kvs.map (·.1)) : putK kvs k v = kvs ++ [(k, v)] := by
  unfold putK
  rw [if_neg]
  intro z
  rw [List.any_eq_true] at z
  obtain ⟨p, h1, h2⟩ := z
  exact h (List.mem_map.mpr ⟨p, h1, of_decide_eq_true h2⟩)
theorem merge_new : ∀ {more kvs : List (Key × V)}, (kvs.map (·.1) ++ more.map (·.1)).Nodup → mergeK kvs more = kvs ++ more
  | [], kvs, _ => by simp [mergeK]
  | p :: more, kvs, h => by
    show mergeK (putK kvs p.1 p.2) more = _
    have h1 : p.1 ∉ kvs.map (·.1) := fun z => by
      rw [List.nodup_append] at h
      exact h.2.2 _ z _ (by rw [List.map_cons]; exact List.mem_cons_self) rfl
    rw [putK_new h1, merge_new (by rw [List.map_append]; simpa using h)]
    simp
theorem px_disp {keys : List (Option Expr)} {values : List Expr} {l : List (Str × Fd)} {pos : Pos} (h : PPs X pos keys values (l.map fun p => (tC (V.str p.1), tD (wd X) p.2))) (hall : keys.all (·.isSome) = true) (hl : keys.length = values.length) (h0 : keys ≠ []) (h15 : keys.length ≤ 15) : PX X (.Dict keys values pos) (dispF l) :=
  pe_imp (pe_disp h hall hl h0 h15) fun σ H Q ⟨ρ, loc, Hf, r, ρ', s, hF, k⟩ p hp => by
    unfold dispF at hF
    split at hF
    · rename_i hc
      obtain ⟨⟨kvs, ρ1⟩, q1, q2⟩ := Option.map_eq_some_iff.mp hF
      cases q2
      have hfp : Hf p = none := free_of s.sub hp
      have s0 : SOk (wd X) ρ loc σ (upd H p (.dK [])) Hf := s.other hfp (s.newNot hp)
      refine disp_read s0 q1 fun ks H2 Hf2 g2 s2 rk ek => ?_
      have g3 : Ge ρ loc H Hf ρ1 H2 Hf2 := (Ge.refl.other hp).trans g2
      have hp2 : H2 p = some (.dK []) := g2.keep _ _ upd_same (s.newNot hp)
      have hf2 : Hf2 p = none := (g2.frz _ _ upd_same (s.newNot hp)).trans hfp
      have nd : (ks.map (·.1)).Nodup := by
        rw [ek]
        have : (l.map fun p => (Sum.inr p.1 : Key)) = (l.map (·.1)).map Sum.inr := by rw [List.map_map]; rfl
        rw [this]
        exact List.Pairwise.map _ (fun a b n e => n (by injection e)) hc.1
      have hlen : ks.length ≤ 15 := by
        have := congrArg List.length ek
        rw [List.length_map, List.length_map] at this
        rw [this]; exact hc.2
      refine ⟨hp2, ks, rfl, hlen, ?_⟩
      rw [merge_new (by simpa using nd)]
      have no : ¬ IsOwn ρ1 loc p := fun z => s.newNot hp (g3.isOwn z)
      exact k _ _ Hf2 (g3.other hp) (s2.other hf2 no) ⟨p, rfl, hp, hf2, ks, upd_same, rk⟩
    · cases hF
/-- {} -/
def dnewF (t : Bool) : Fe := fun ρ => some (.own (.dct t []), ρ)
theorem px_dnewK {pos : Pos} : PX X (.Dict [] [] pos) (dnewF false) := pe_imp pe_dnewK fun σ H Q ⟨ρ, loc, Hf, r, ρ', s, hF, k⟩ p hp => by
  cases hF
  have hfp : Hf p = none := free_of s.sub hp
  exact k _ _ Hf (Ge.refl.other hp) (s.other hfp (s.newNot hp)) ⟨p, rfl, hp, hfp, [], upd_same, .nil⟩
theorem px_dnewT {pos : Pos} : PX X (.Dict [] [] pos) (dnewF true) := pe_imp pe_dnewT fun σ H Q ⟨ρ, loc, Hf, r, ρ', s, hF, k⟩ p hp => by
  cases hF
  have hfp : Hf p = none := free_of s.sub hp
  exact k _ _ Hf (Ge.refl.other hp) (s.other hfp (s.newNot hp)) ⟨p, rfl, hp, hfp, [], upd_same, .nil⟩
end

/-! ### x = e -/
section
variable {X : Cx} {e a b c o tg iter elt : Expr} {k : Nat}
theorem pst_set {i : Nat} {x : Str} {F : Fe} {pos' pos : Pos} (q : Cq X k) (hi : X.N[i]? = some x) (hx : L2.Loc X.env.scope x) (hf : X.fn x = true ∨ X.env.scope.names.lookup x = some .local) (he : PX X e F) (hs : swapsWith e (some (.Name x pos')) pos.line X.env = pure false) : PSt X (.Assign [.Name x pos'] e pos) (setS i F) :=
  ps_imp (ps_set q.nd hi hx he hs hf) fun D σ H h => set_read h
theorem pst_asg {t : Tg} {F : Fd} {pos : Pos} (he : PD X e F) (hg : PG X tg (tG (wd X) t)) (hs : swapsWithSole [tg] e pos.line X.env = pure false) (hw : swappedStores [tg] e X.env = pure none)
    (h1 : (assignEach [tg] X.env).map (·.2) = [assign tg X.env]) : PSt X (.Assign [tg] e pos) (asgS t F) := ps_imp (ps_asg he hg hs hw h1) fun D σ H h => asg_read h
/-- the conditions -/
def yesT : Ft := fun ρ => some (true, ρ)
abbrev PBs (X : Cx) (es : List Expr) (F : Ft) := PTs X es (tT (wd X) F)
theorem px_comp {t : Tg} {FI : Fi} {T : Ft} {FE : Fd} {ifs : List Expr} {scope : Scope} {own : List (Str × Nat)} {pos : Pos} (q : Cq X k) (hi : PIt X tg iter FI) (ok : blkC X.N X.env.scope scope own = true)
    (hb : ∀ (s : Shared) (H : Hp) (C : Addr) (cl : List (Str × Addr)) (fp : List Addr), PG (X.blk s H scope (compEnvC scope cl C X.env) fp) tg (tG (wd X) t) ∧ PTs (X.blk s H scope (compEnvC scope cl C X.env) fp) ifs (tT (wd X) T) ∧ PE (X.blk s H scope (compEnvC scope cl C X.env) fp) elt (tD (wd X) FE))
    (hs : ∀ x, foldedSetIterable iter X.env x = pure x) : PX X (.ListComp elt [⟨tg, iter, ifs, 0⟩] scope pos) (compF t FI T FE (own.map (·.2))) :=
  pe_imp (pe_lc q.calm q.nd hi (blkOk_by ok) (fun s H C cl fp => (hb s H C cl fp).1) (fun s H C cl fp => (hb s H C cl fp).2.1) (fun s H C cl fp => (hb s H C cl fp).2.2) hs) fun _ _ _ h => lc_read h
theorem pst_setComp {i : Nat} {y : Str} {py : Pos} {t : Tg} {FI : Fi} {T : Ft} {FE : Fd} {ifs : List Expr} {scope : Scope} {own : List (Str × Nat)} {pos spos : Pos} (q : Cq X k) (hy : X.N[i]? = some y) (hyl : X.env.scope.names.lookup y = some .local)
    (hsw : swapsWith (.ListComp elt [⟨tg, iter, ifs, 0⟩] scope pos) (some (.Name y py)) spos.line X.env = pure true) (hi : PIt X tg iter FI) (ok : blkC X.N X.env.scope scope own = true)
    (hb : ∀ (s : Shared) (H : Hp) (C : Addr) (cl : List (Str × Addr)) (fp : List Addr), PG (X.blk s H scope (compEnvC scope cl C X.env) fp) tg (tG (wd X) t) ∧ PTs (X.blk s H scope (compEnvC scope cl C X.env) fp) ifs (tT (wd X) T) ∧ PE (X.blk s H scope (compEnvC scope cl C X.env) fp) elt (tD (wd X) FE))
    (hs : ∀ x, foldedSetIterable iter X.env x = pure x) : PSt X (.Assign [.Name y py] (.ListComp elt [⟨tg, iter, ifs, 0⟩] scope pos) spos) (setS i (compF t FI T FE (own.map (·.2)))) :=
  ps_imp (ps_setLc q.calm q.nd hy hyl hsw hi (blkOk_by ok) (fun s H C cl fp => (hb s H C cl fp).1) (fun s H C cl fp => (hb s H C cl fp).2.1) (fun s H C cl fp => (hb s H C cl fp).2.2) hs) fun D σ H h => by
    obtain ⟨ρ, loc, Hf, fl, ρ', s, hF, kk⟩ := h
    unfold setS at hF
    obtain ⟨⟨r, ρ1⟩, q1, hF⟩ := Option.bind_eq_some_iff.mp hF
    obtain ⟨ρ2, q2, q3⟩ := Option.map_eq_some_iff.mp hF
    cases q3
    refine lc_read (W := wd X) ⟨ρ, loc, Hf, r, ρ1, s, q1, fun v H' Hf' g s' o => ?_⟩
    obtain ⟨loc2, g2, s2⟩ := put_ok s g s' o q2
    exact kk _ loc2 H' Hf' g2 s2
end
end Ev
/-! text Ev17 -/
set_option Elab.async false
set_option linter.all false
set_option maxRecDepth 100000
set_option maxHeartbeats 4000000

/-! ### enumerate of a tuple -/
namespace Ev
open PySem PySem.Spec PyProof.Rows
open Sem (wp)
open AutoSeq1 (wpAny_loadPart')
theorem enumT_new (l : Addr) (items : Array Value) (n : Nat) (dct : Option Addr) (sl : Array (Option Value)) :
    Meets (Builtin.«enumerate.__new__» ⟨[.type "enumerate", .ref l], []⟩) (fun _ R s => s.heap.get? l = some { cls := .type "tuple", dict := dct, data := .seq items n, slots := sl } ∧
      R (.ok (.ret (.ref (s.heap.push { cls := .type "tuple_iterator", data := .fields #[.ref l, .int 0 0] }).objs.size)))
        { s with heap := (s.heap.push { cls := .type "tuple_iterator", data := .fields #[.ref l, .int 0 0] }).push { cls := .type "enumerate", data := .fields #[.none, .bool false, .ref s.heap.objs.size, rawInt 0, .none, .none] } }) :=
  .of_wp fun prog w A R s h => by
    obtain ⟨hp, g, d, tk, os⟩ := s; obtain ⟨hl, h⟩ := h
    have hsub := sub_enumerate
    have hL : Heap.IsTuple (Shared.heap ⟨hp, g, d, tk, os⟩) l items := ⟨_, hl, rfl, n, rfl⟩
    wp_walk using wpAny_loadPart' hl
    refine wpAny_stack_any fun st => wpAny_pure ?_
    split
    · rename_i c _ _ _ _ _
      cases (c == Value.type "enumerate")
      · wp_walk using wpAny_loadPart' hl, wpAny_pyIter_tuple hL
        exact ⟨_, rfl, h⟩
      · wp_walk using wpAny_loadPart' hl, wpAny_pyIter_tuple hL
        exact ⟨_, rfl, h⟩
    · wp_walk using wpAny_loadPart' hl, wpAny_pyIter_tuple hL
      exact ⟨_, rfl, h⟩
section
variable {prog : Program} {w : World} {A : Around} {E : Value → Shared → Prop} {s : Shared}
theorem call_enumT {l : Addr} {items : Array Value} {Q : Value → Shared → Prop} (hL : s.heap.IsTuple l items)
    (h : ∀ h', IsEnum h' (s.heap.objs.size + 1) s.heap.objs.size 0 .none → h'.IsTupleIter s.heap.objs.size l 0 → h'.objs.size = s.heap.objs.size + 2 →
      (∀ b o, s.heap.get? b = some o → h'.get? b = some o) → Q (.ref (s.heap.objs.size + 1)) { s with heap := h' }) :
    wpAny (model prog w) A (call (.type "enumerate") [.ref l]) Q E s := by
  obtain ⟨⟨c, dct, dt, sl⟩, hl, hc, n, hd⟩ := hL
  replace hc : c = .type "tuple" := hc
  replace hd : dt = .seq items n := hd
  subst hc hd
  refine callType_new F.called_enumerate (by decide) (F.typeCall_enumerate_1 _) (F.newCall_enumerate_1 _) (fun obj => F.args_object_init_2 obj _) F.entry_enumerate_new
    (enumT_new l items n dct sl) ⟨hl, ?_⟩
  have hz : (s.heap.push { cls := .type "tuple_iterator", data := .fields #[.ref l, .int 0 0] }).objs.size = s.heap.objs.size + 1 := Heap.size_push ..
  show _ ∧ _
  rw [hz]
  have he : IsEnum ((s.heap.push { cls := .type "tuple_iterator", data := .fields #[.ref l, .int 0 0] }).push
      { cls := .type "enumerate", data := .fields #[.none, .bool false, .ref s.heap.objs.size, rawInt 0, .none, .none] }) (s.heap.objs.size + 1) s.heap.objs.size 0 .none := by
    have := Heap.get?_push_size (s.heap.push { cls := .type "tuple_iterator", data := .fields #[.ref l, .int 0 0] })
      (o := { cls := .type "enumerate", data := .fields #[.none, .bool false, .ref s.heap.objs.size, rawInt 0, .none, .none] }) rfl
    rw [hz] at this; exact this
  exact ⟨⟨_, he, rfl⟩, h _ he ⟨_, Heap.get?_push_of_some _ (Heap.get?_push_size _ rfl), rfl, rfl⟩ (by rw [Heap.size_push, hz]) fun b o x => Heap.get?_push_of_some _ (Heap.get?_push_of_some _ x)⟩
end
end Ev
namespace Ev
open PySem L2
/-- items as they stand at each turn, each in a new pair -/
def ItE (S : Hp → List V → Prop) : It :=
  ⟨fun i H => ∃ (xs : List V) (x : V), S H xs ∧ xs[i]? = some x, fun i H v H' => ∃ T ob x, v = .ref T ∧ ob.dict = none ∧ H T = none ∧ H' = upd H T (.frz ob (.tup [.int (i : Nat), x])) ∧ ∀ xs, S H xs → xs[i]? = some x, fun i H => ∃ xs : List V, S H xs ∧ xs.length ≤ i⟩
theorem turn_enL {P : Program} {w : World} {K : PySem.W.Frag} {elts : List Expr} {kk : Nat} {tpos : Pos} (a e it : Addr) :
    Turn P w K (.Tuple elts kk tpos) (ItE fun H xs => SqL K H a xs) [e, it] e (fun i h => (∃ old, IsEnum h e it ((i : Nat) : Int) old) ∧ h.IsListIter it a i ∧ e ≠ it) where
  mem := by simp
  obj := fun i h st b hb => by
    obtain ⟨⟨old, he⟩, ⟨o, ho, hc, hd⟩, _⟩ := st
    rcases (show b = e ∨ b = it by simpa using hb) with z | z
    · rw [z]; exact ⟨_, he, fun v q => nomatch q⟩
    · rw [z]; exact ⟨o, ho, fun v q => by rw [hd] at q; cases q⟩
  keep := fun i h h' st k => let ⟨⟨old, he⟩, hi, hne⟩ := st; ⟨⟨old, k e (by simp) _ he⟩, hi.at fun o q => k it (by simp) o q, hne⟩
  item := by
    intro X hP hw hK hc i pins s σ H E I hf st hg
    subst hP hw hK
    obtain ⟨⟨old, he⟩, hit, hne⟩ := st
    obtain ⟨xs, x, hq, hx⟩ := hg
    obtain ⟨its, rv, p, hz⟩ := I.list hq
    obtain ⟨u, hu, ru⟩ := rv.get hx
    have hel : e < s.heap.objs.size := Heap.lt_size he
    have hil : it < s.heap.objs.size := by obtain ⟨_, q, _⟩ := hit; exact Heap.lt_size q
    refine wpAny_pyNext_enum_item he hit p.isList (x := u) (by simpa using hu) hne fun h' ho hit' hT hsz hk => ?_
    refine ⟨_, rfl, wpAny_letOwnedTupleGo_enum (s := { s with heap := h', toks := s.toks + 1 }) ho fun h'' he' sb => ?_⟩
    have hT2 : h''.get? s.heap.objs.size = some { cls := .type "tuple", data := .seq #[.int i s.toks, u] } := (sb.2 _ (Nat.ne_of_gt hel)).trans hT
    have new : ObjOk X.prog X.w (upd H s.heap.objs.size (.frz { cls := .type "tuple", data := .seq #[.int i s.toks, u] } (.tup [.int (i : Nat), x]))) h'' s.heap.objs.size (.frz { cls := .type "tuple", data := .seq #[.int i s.toks, u] } (.tup [.int (i : Nat), x])) :=
      ⟨hT2, by show 2 ≤ sizeLine; decide, [.int i s.toks, u], .cons ⟨_, rfl⟩ (.cons ru .nil), ⟨_, hT2, rfl, _, rfl⟩⟩
    have I1 : Inv X pins σ (upd H s.heap.objs.size (.frz { cls := .type "tuple", data := .seq #[.int i s.toks, u] } (.tup [.int (i : Nat), x]))) { s with heap := h'', toks := s.toks + 1 } :=
      I.turnedNew (ch := [e, it]) (fun b ob hb q => (sb.2 b (fun z => hb (by simp [z]))).trans (hk b ob (fun z => hb (by simp [z])) (fun z => hb (by simp [z])) q)) hf (Nat.le_refl _) new
    refine ⟨.ref s.heap.objs.size, _, I1, rfl, ⟨_, _, x, rfl, rfl, I.hok.fresh (Nat.le_refl _), rfl, fun ys hy => by rw [I.list_inj hy hq]; exact hx⟩, ⟨⟨u, ?_⟩, hit'.at fun o q => (sb.2 it (Ne.symm hne)).trans q, hne⟩, fun b hb => ?_⟩
    · rw [show ((i + 1 : Nat) : Int) = (i : Int) + 1 by omega]; exact he'
    · have hb' : b < s.heap.objs.size := by
        rcases (show b = e ∨ b = it by simpa using hb) with z | z
        · rw [z]; exact hel
        · rw [z]; exact hil
      rw [upd_ne (Nat.ne_of_lt hb')]
      exact (hf b hb).1
  done := by
    intro X hP hw hK hc i pins s σ H E I hf st hg
    subst hP hw hK
    obtain ⟨⟨old, he⟩, hit, hne⟩ := st
    obtain ⟨xs, hq, hx⟩ := hg
    obtain ⟨its, rv, p, hz⟩ := I.list hq
    obtain ⟨f0, f1, f2, f3, f4, f5⟩ := hf it (by simp)
    have hl := rv.length
    exact wpAny_pyNext_enum_end (I.ok.hd hc) he hit p.isList (by simp; omega) fun h' eb => ⟨rfl, I.turned (t' := s.toks) (fun b o hb q => eb b o hb q) f0 f1 f3 f4 f5⟩
  self := fun A i s Q E st h => let ⟨⟨_, he⟩, _⟩ := st; wpAny_pyIter_enum he h
def iEnL (K : PySem.W.Frag) (ta : TA) : TI := fun σ H R => ta σ H fun vs H1 => ∃ a xs, vs = [.ref a] ∧ SqL K H1 a xs ∧ R (ItE fun H xs => SqL K H a xs) H1
theorem pi_enL {X : Cx} {e : Expr} {ta : TA} {p pos tpos : Pos} {elts : List Expr} {kk : Nat} (hg : Gl X "enumerate") (hm : X.mg "enumerate" = none) (ha : PA X [e] ta) (hs : starEach [e] X.env = [(false, eval e X.env)]) :
    PI X (.Tuple elts kk tpos) (.Call (.Name "enumerate" p) [e] [] pos) (iEnL X.K ta) := by
  refine ⟨fun pins s σ H R I h => ?_⟩
  refine PyProof.Rows.Call_ (ld_blt I hg hm PyProof.Rows.boot_enumerate (PyProof.Rows.callWith_type1 (thn (ha.run pos pins s σ H _ I h) fun us s1 ⟨vs, H1, I1, r1, q1⟩ => ?_) hs rfl))
  obtain ⟨a, xs, ex, hq, q⟩ := q1
  subst ex
  cases r1 with
  | cons r rr =>
    cases rr
    cases r
    obtain ⟨its, rv, p', hz⟩ := I1.list hq
    refine call_enumerate_list p'.isList fun h' he hit hsz hk => wpAny_pyIter_enum he ?_
    have I2 : Inv X pins σ H1 { s1 with heap := h' } := I1.kept (t' := s1.toks) hk
    refine ⟨s1.heap.objs.size + 1, [s1.heap.objs.size + 1, s1.heap.objs.size], _, _, H1, rfl, I2, turn_enL a (s1.heap.objs.size + 1) s1.heap.objs.size, ⟨⟨.none, he⟩, hit, Nat.succ_ne_self _⟩, fun b hb => ?_, q⟩
    have hle : s1.heap.objs.size ≤ b := by
      rcases (show b = s1.heap.objs.size + 1 ∨ b = s1.heap.objs.size by simpa using hb) with z | z
      · rw [z]; exact Nat.le_add_right _ _
      · rw [z]; exact Nat.le_refl _
    exact I1.fpOk hle (I1.hok.fresh hle)
theorem turn_enumT {P : Program} {w : World} {K : PySem.W.Frag} {elts : List Expr} {kk : Nat} {tpos : Pos} (a e it : Addr) :
    Turn P w K (.Tuple elts kk tpos) (ItE fun H xs => SqT K H a xs) [e, it] e (fun i h => (∃ old, IsEnum h e it ((i : Nat) : Int) old) ∧ h.IsTupleIter it a i ∧ e ≠ it) where
  mem := by simp
  obj := fun i h st b hb => by
    obtain ⟨⟨old, he⟩, ⟨o, ho, hc, hd⟩, _⟩ := st
    have e' : b = e ∨ b = it := by simpa using hb
    rcases e' with z | z
    · rw [z]; exact ⟨_, he, fun v q => nomatch q⟩
    · rw [z]; exact ⟨o, ho, fun v q => by rw [hd] at q; cases q⟩
  keep := fun i h h' st k => let ⟨⟨old, he⟩, hi, hne⟩ := st; ⟨⟨old, k e (by simp) _ he⟩, hi.at fun o q => k it (by simp) o q, hne⟩
  item := by
    intro X hP hw hK hc i pins s σ H E I hf st hg
    subst hP hw hK
    obtain ⟨⟨old, he⟩, hit, hne⟩ := st
    obtain ⟨xs, x, hq, hx⟩ := hg
    obtain ⟨its, rv, p, hz⟩ := I.tuple hq
    obtain ⟨u, hu, ru⟩ := rv.get hx
    have hel : e < s.heap.objs.size := Heap.lt_size he
    have hil : it < s.heap.objs.size := by obtain ⟨_, q, _⟩ := hit; exact Heap.lt_size q
    have hT0 : s.heap.IsTuple a its.toArray := p
    have hai : a ≠ it := fun z => by
      obtain ⟨o1, e1, c1, _⟩ := hT0
      obtain ⟨o2, e2, c2, _⟩ := hit
      rw [z, e2] at e1
      cases e1
      rw [c1] at c2
      exact absurd c2 (by decide)
    have hae : a ≠ e := fun z => by
      obtain ⟨o1, e1, c1, _⟩ := hT0
      have e2 := he
      unfold IsEnum at e2
      rw [z, e2] at e1
      cases e1
      exact absurd (show Value.type "enumerate" = Value.type "tuple" from c1) (by decide)
    have hlt : i < its.toArray.size := by
      have := (List.getElem?_eq_some_iff.mp hu).1
      simpa using this
    refine wpAny_pyNext_enum_itemD (Draws.tuple (A := X.A.in1) (I.ok.hd hc) it a hai its.toArray) he ⟨hit, hT0⟩ hlt hne (by simp [hne, Ne.symm hae]) fun x' h' tk hPx ho hst' hT hsz hk => ?_
    obtain ⟨hit', hT0'⟩ := hst'
    have ex : x' = u := by
      have h1 : its.toArray[i]? = some u := by simpa using hu
      rw [h1] at hPx
      exact (Option.some.inj hPx).symm
    subst ex
    refine ⟨_, rfl, wpAny_letOwnedTupleGo_enum (s := { s with heap := h', toks := tk + 1 }) ho fun h'' he' sb => ?_⟩
    have hT2 : h''.get? s.heap.objs.size = some { cls := .type "tuple", data := .seq #[.int i tk, x'] } := (sb.2 _ (Nat.ne_of_gt hel)).trans hT
    have new : ObjOk X.prog X.w (upd H s.heap.objs.size (.frz { cls := .type "tuple", data := .seq #[.int i tk, x'] } (.tup [.int (i : Nat), x]))) h'' s.heap.objs.size (.frz { cls := .type "tuple", data := .seq #[.int i tk, x'] } (.tup [.int (i : Nat), x])) :=
      ⟨hT2, by show 2 ≤ sizeLine; decide, [.int i tk, x'], .cons ⟨_, rfl⟩ (.cons ru .nil), ⟨_, hT2, rfl, _, rfl⟩⟩
    have I1 : Inv X pins σ (upd H s.heap.objs.size (.frz { cls := .type "tuple", data := .seq #[.int i tk, x'] } (.tup [.int (i : Nat), x]))) { s with heap := h'', toks := tk + 1 } :=
      I.turnedNew (ch := [e, it]) (fun b ob hb q => (sb.2 b (fun z => hb (by simp [z]))).trans (hk b ob (fun z => hb (by simp [z])) (fun z => hb (by simp [z])) q)) hf (Nat.le_refl _) new
    refine ⟨.ref s.heap.objs.size, _, I1, rfl, ⟨_, _, x, rfl, rfl, I.hok.fresh (Nat.le_refl _), rfl, fun ys hy => by rw [I.tuple_inj hy hq]; exact hx⟩, ⟨⟨x', ?_⟩, hit'.at fun o q => (sb.2 it (Ne.symm hne)).trans q, hne⟩, fun b hb => ?_⟩
    · have e1 : ((i + 1 : Nat) : Int) = (i : Int) + 1 := by omega
      rw [e1]; exact he'
    · have hb' : b < s.heap.objs.size := by
        have e' : b = e ∨ b = it := by simpa using hb
        rcases e' with z | z
        · rw [z]; exact hel
        · rw [z]; exact hil
      rw [upd_ne (Nat.ne_of_lt hb')]
      exact (hf b hb).1
  done := by
    intro X hP hw hK hc i pins s σ H E I hf st hg
    subst hP hw hK
    obtain ⟨⟨old, he⟩, hit, hne⟩ := st
    obtain ⟨xs, hq, hx⟩ := hg
    obtain ⟨its, rv, p, hz⟩ := I.tuple hq
    have hT0 : s.heap.IsTuple a its.toArray := p
    obtain ⟨f0, f1, f2, f3, f4, f5⟩ := hf it (by simp)
    have hl := rv.length
    have hsz : its.toArray[i]? = none := by simp; omega
    unfold pyNext
    have hTy : s.TypeIs (.ref e) "enumerate" := ⟨_, he, rfl⟩
    refine wpAny_bind (wpAny_attempt (wpAny_callSpecial?_slot (name := Str.ofString "__next__") hTy F.slot_enumerate_next
      (wpAny_call_entry F.slot_enumerate_next hTy F.entry_enumerate_next ?_ (F.args_enumerate_next_1 _))))
    show wpAny _ _ (field (.ref e) 2 >>= _) _ _ _
    refine wpAny_bind (wpAny_field he rfl (x := .ref it) rfl ?_)
    refine wpAny_bind (wpAny_nextOf_tuple_end (A := X.A.in1) (I.ok.hd hc) hit hT0 hsz fun h' x he' hx' => ?_)
    obtain ⟨o, ho, hc2⟩ := hx'
    refine wpAny_bind (wpAny_isInstance (T := "StopIteration") (b := true) ⟨o, ho, hc2⟩ isSubtype_stop ?_)
    exact wpAny_pure ⟨rfl, I.turned (t' := s.toks) (fun b o hb q => he' b o hb q) f0 f1 f3 f4 f5⟩
  self := fun A i s Q E st h => let ⟨⟨_, he⟩, _⟩ := st; wpAny_pyIter_enum he h
def iEnumT (K : PySem.W.Frag) (ta : TA) : TI := fun σ H R => ta σ H fun vs H1 => ∃ a xs, vs = [.ref a] ∧ SqT K H1 a xs ∧ R (ItE fun H xs => SqT K H a xs) H1
theorem pi_enumT {X : Cx} {e : Expr} {ta : TA} {p pos tpos : Pos} {elts : List Expr} {kk : Nat} (hg : Gl X "enumerate") (hm : X.mg "enumerate" = none) (ha : PA X [e] ta) (hs : starEach [e] X.env = [(false, eval e X.env)]) :
    PI X (.Tuple elts kk tpos) (.Call (.Name "enumerate" p) [e] [] pos) (iEnumT X.K ta) := by
  refine ⟨fun pins s σ H R I h => ?_⟩
  refine PyProof.Rows.Call_ (ld_blt I hg hm PyProof.Rows.boot_enumerate (PyProof.Rows.callWith_type1 (thn (ha.run pos pins s σ H _ I h) fun us s1 ⟨vs, H1, I1, r1, q1⟩ => ?_) hs rfl))
  obtain ⟨a, xs, ex, hq, q⟩ := q1
  subst ex
  cases r1 with
  | cons r rr =>
    cases rr
    cases r
    obtain ⟨its, rv, p', hz⟩ := I1.tuple hq
    refine call_enumT (show s1.heap.IsTuple a its.toArray from p') fun h' he hit hsz hk => wpAny_pyIter_enum he ?_
    have I2 : Inv X pins σ H1 { s1 with heap := h' } := I1.kept (t' := s1.toks) hk
    refine ⟨s1.heap.objs.size + 1, [s1.heap.objs.size + 1, s1.heap.objs.size], _, _, H1, rfl, I2, turn_enumT a (s1.heap.objs.size + 1) s1.heap.objs.size, ⟨⟨.none, he⟩, hit, Nat.succ_ne_self _⟩, fun b hb => ?_, q⟩
    have e' : b = s1.heap.objs.size + 1 ∨ b = s1.heap.objs.size := by simpa using hb
    have hle : s1.heap.objs.size ≤ b := by
      rcases e' with z | z
      · rw [z]; exact Nat.le_add_right _ _
      · rw [z]; exact Nat.le_refl _
    exact I1.fpOk hle (I1.hok.fresh hle)

/-! enumerate, as data -/
def enD (ds : List D) : List D := (List.range ds.length).map fun i => D.tup [.int (i : Nat), ds.getD i .non]
theorem enD_get {ds : List D} {i : Nat} {d : D} (h : (enD ds)[i]? = some d) : ∃ x, ds[i]? = some x ∧ d = .tup [.int (i : Nat), x] := by
  unfold enD at h
  rw [List.getElem?_map] at h
  obtain ⟨j, h1, h2⟩ := Option.map_eq_some_iff.mp h
  obtain ⟨hi, h3⟩ := List.getElem?_eq_some_iff.mp h1
  rw [List.length_range] at hi
  rw [List.getElem_range] at h3
  subst h3
  exact ⟨ds[i], List.getElem?_eq_getElem hi, by rw [← h2]; simp [List.getD, hi]⟩
theorem enD_len (ds : List D) : (enD ds).length = ds.length := by unfold enD; rw [List.length_map, List.length_range]
/-- a new pair, fixed at once -/
theorem Ext.pair {W : Wd} {H Hf : Hp} {T : Addr} {u : HO} (s : Sub Hf H) (hT : H T = none) : Ext H Hf (upd H T u) (upd Hf T u) := Ext.newF s hT u
theorem Feed.en {W : Wd} {Hf : Hp} {S : Hp → List V → Prop} {vs : List V} {ds : List D} (hS : ∀ H', Sub Hf H' → S H' vs) (r : RpL W Hf vs ds) : Feed W (ItE S) Hf (enD ds) where
  go := fun i d H' Hf' e m s => by
    obtain ⟨x, e1, rfl⟩ := enD_get e
    obtain ⟨v, h1, rv⟩ := r.get e1
    have hq : S H' vs := hS H' fun b o q => s _ _ (m _ _ q)
    refine ⟨⟨vs, v, hq, h1⟩, fun y H3 ⟨T, ob, x', e2, hn, hT, e3, e4⟩ => ?_⟩
    subst e2 e3
    have := e4 vs hq
    rw [h1] at this; cases this
    have hTf : Hf' T = none := free_of s hT
    exact ⟨upd Hf' T (.frz ob (.tup [.int (i : Nat), v])), Ext.pair (W := W) s hT, .tup upd_same hn (.cons (.int _) (.cons (rv.mono fun b o q => by rw [upd_ne (ne_of_none (m _ _ q) hTf)]; exact m _ _ q) .nil))⟩
  stop := fun H' Hf' m s => ⟨vs, hS H' fun b o q => s _ _ (m _ _ q), by rw [r.length, enD_len]; exact Nat.le_refl _⟩
theorem rpl_one {W : Wd} {H : Hp} {vs : List V} {d : D} (r : RpL W H vs [d]) : ∃ v, vs = [v] ∧ Rp W H v d := by
  cases r with
  | cons r rr => cases rr; exact ⟨_, rfl, r⟩
theorem rpl_two {W : Wd} {H : Hp} {vs : List V} {d e : D} (r : RpL W H vs [d, e]) : ∃ v u, vs = [v, u] ∧ Rp W H v d ∧ Rp W H u e := by
  cases r with
  | cons r rr =>
    obtain ⟨u, rfl, r2⟩ := rpl_one rr
    exact ⟨_, u, rfl, r, r2⟩
theorem rp_lst {W : Wd} {H : Hp} {v : V} {ds : List D} (r : Rp W H v (.lst ds)) : ∃ a vs, v = .ref a ∧ H a = some (.lst vs) ∧ RpL W H vs ds := by
  cases r with
  | lst h rl => exact ⟨_, _, rfl, h, rl⟩
theorem rp_tup {W : Wd} {H : Hp} {v : V} {ds : List D} (r : Rp W H v (.tup ds)) : ∃ a ob vs, v = .ref a ∧ H a = some (.frz ob (.tup vs)) ∧ ob.dict = none ∧ RpL W H vs ds := by
  cases r with
  | tup h hn rl => exact ⟨_, _, _, rfl, h, hn, rl⟩
def enI : List D → Option (List D)
  | [.lst ds] => some (enD ds)
  | [.tup ds] => some (enD ds)
  | _ => none
/-- enumerate(xs); xs a value -/
def enumF (FL : Fl) : Fi := fun ρ => (FL ρ).bind fun x => (enI x.1).map fun ds => (ds, x.2)
theorem pit_enum {X : Cx} {e : Expr} {FL : Fl} {p pos tpos : Pos} {elts : List Expr} {kk : Nat} (hg : Gl X "enumerate") (hm : X.mg "enumerate" = none) (ha : PLs X [e] FL) (hs : noStar e = true) :
    PIt X (.Tuple elts kk tpos) (.Call (.Name "enumerate" p) [e] [] pos) (enumF FL) :=
  pi_imp (pi_or2 (pi_enL hg hm ha (starEach_cons hs)) (pi_enumT hg hm ha (starEach_cons hs))) fun σ H R ⟨ρ, loc, Hf, items, ρ', s, hF, k⟩ => by
    unfold enumF at hF
    obtain ⟨⟨ds, ρ1⟩, q1, hF⟩ := Option.bind_eq_some_iff.mp hF
    obtain ⟨es, q2, q3⟩ := Option.map_eq_some_iff.mp hF
    cases q3
    dsimp only at q2
    unfold enI at q2
    split at q2
    · cases q2
      refine .inl ⟨ρ, loc, Hf, _, _, s, q1, fun vs H1 Hf1 g1 s1 r => ?_⟩
      obtain ⟨v, rfl, r1⟩ := rpl_one r
      obtain ⟨a, ws, rfl, h, rl⟩ := rp_lst r1
      exact ⟨_, _, rfl, SqL.of (s1.sub _ _ h), k _ H1 Hf1 g1 s1 (Feed.en (fun H' q => .of (q _ _ h)) rl)⟩
    · cases q2
      refine .inr ⟨ρ, loc, Hf, _, _, s, q1, fun vs H1 Hf1 g1 s1 r => ?_⟩
      obtain ⟨v, rfl, r1⟩ := rpl_one r
      obtain ⟨a, ob, ws, rfl, h, _, rl⟩ := rp_tup r1
      exact ⟨_, _, rfl, sqT_fz (s1.sub _ _ h), k _ H1 Hf1 g1 s1 (Feed.en (fun H' q => sqT_fz (q _ _ h)) rl)⟩
    · cases q2
end Ev
/-! text Ev18 -/
set_option Elab.async false
set_option linter.all false
set_option maxRecDepth 100000
set_option maxHeartbeats 4000000

/-! ### t[::-1] of a tuple -/
namespace Ev
open PySem PySem.Spec PyProof.Rows HT
section
variable {prog : Program} {w : World} {A : Around} {E : Value → Shared → Prop} {s : Shared}
theorem sliceApplied_rev {sl : Addr} {vs : Value} {n : Nat} {Q : Int × Int × Nat → Shared → Prop} (hs : s.heap.IsSliceOf sl .none .none vs) (ps : IsPart vs (some (-1)))
    (h : Q ((n : Int) - 1, -1, n) s) : wpAny (model prog w) A (Builtin.Slice.sliceApplied (.ref sl) (pure (n : Int))) Q E s := by
  obtain ⟨os, hos, hcs, hds⟩ := id hs
  unfold Builtin.Slice.sliceApplied Builtin.Slice.sliceFields
  refine wpAny_bind (wpAny_bind (wpAny_field hos hds (x := .none) rfl (wpAny_bind (wpAny_field hos hds (x := .none) rfl (wpAny_bind (wpAny_field hos hds (x := vs) rfl (wpAny_pure ?_)))))))
  refine wpAny_bind (HT.slicePart_ ps ?_)
  show wpAny _ _ (if ((-1 : Int) == 0) = true then _ else _) _ _ s
  rw [if_neg (by decide)]
  refine wpAny_bind (slicePart_none (wpAny_bind (slicePart_none (wpAny_bind (wpAny_pure ?_)))))
  have e1 : Builtin.Slice.sliceAdjust none none (-1) (n : Int) = ((n : Int) - 1, -1) := by
    unfold Builtin.Slice.sliceAdjust
    rfl
  show wpAny _ _ (match Builtin.Slice.sliceAdjust none none (-1) (n : Int) with | (lo, hi) => pure (lo, (-1 : Int), Builtin.Slice.slicePlaces lo hi (-1))) _ _ s
  rw [e1]
  show wpAny _ _ (pure ((n : Int) - 1, (-1 : Int), Builtin.Slice.slicePlaces ((n : Int) - 1) (-1) (-1))) _ _ s
  have e2 : Builtin.Slice.slicePlaces ((n : Int) - 1) (-1) (-1) = n := by
    unfold Builtin.Slice.slicePlaces
    have h1 : ¬ ((-1 : Int) > 0) := by omega
    simp only [h1, if_false]
    rw [show (- -1 : Int) = 1 by decide, Int.ediv_one]
    split <;> omega
  rw [e2]
  exact wpAny_pure h
theorem pick_rev (xs : Array Value) : ((List.range xs.size).filterMap fun (m : Nat) => xs[((xs.size : Int) - 1 + (m : Int) * (-1)).toNat]?).toArray = xs.toList.reverse.toArray := by
  congr 1
  have e : (List.range xs.size).filterMap (fun (m : Nat) => xs[((xs.size : Int) - 1 + (m : Int) * (-1)).toNat]?) = ((List.range xs.size).map fun k => xs.size - 1 - k).filterMap (xs[·]?) := by
    rw [List.filterMap_map]
    have gen : ∀ (l : List Nat), (∀ m ∈ l, m < xs.size) → l.filterMap (fun (m : Nat) => xs[((xs.size : Int) - 1 + (m : Int) * (-1)).toNat]?) = l.filterMap ((xs[·]?) ∘ fun k => xs.size - 1 - k) := by
      intro l
      induction l with
      | nil => intro _; rfl
      | cons m l ih =>
        intro h
        have hm := h m List.mem_cons_self
        rw [List.filterMap_cons, List.filterMap_cons, ih fun x hx => h x (List.mem_cons_of_mem _ hx)]
        have e3 : ((xs.size : Int) - 1 + (m : Int) * (-1)).toNat = xs.size - 1 - m := by omega
        rw [e3]
        rfl
    exact gen _ fun m hm => List.mem_range.mp hm
  rw [e, PySem.W.krv_range, List.filterMap_reverse, PySem.W.krv_all]
theorem getItem_tuple_rev {t sl : Addr} {items : Array Value} {vs : Value} {Q : Value → Shared → Prop} (ht : IsTup s.heap t items) (hs : s.heap.IsSliceOf sl .none .none vs) (ps : IsPart vs (some (-1)))
    (h : Q (.ref s.heap.objs.size) { s with heap := s.heap.push { cls := .type "tuple", data := .seq items.toList.reverse.toArray } })
    (hsz : items.size ≤ sizeLine) : wpAny (model prog w) A (getItem (.ref t) (.ref sl)) Q E s := by
  have htake : sizeOk (.seq items.toList.reverse.toArray) := by
    show items.toList.reverse.toArray.size ≤ sizeLine
    rw [List.size_toArray, List.length_reverse, Array.length_toList]
    exact hsz
  obtain ⟨os, hos, hcs, hds⟩ := id hs
  have hTs : s.TypeIs (.ref sl) "slice" := ⟨os, hos, hcs⟩
  unfold getItem
  try with_reducible refine wpAny_holding ?_
  first | refine wpAny_bind (wpAny_pure ?_) | skip
  refine wpAny_bind (wpAny_sequenceKey ht.typeIs (by decide) ?_)
  refine wpAny_bind (wpAny_callSpecial?_slot (name := Str.ofString "__getitem__") ht.typeIs PyProof.Rows.slot_tuple_getitem
    (wpAny_call_entry PyProof.Rows.slot_tuple_getitem ht.typeIs entry_tuple_getitem ?_ (args_tuple_getitem _ _)))
  show wpAny _ _ (Builtin.Tuple.tupleItemsOf (.ref t) >>= _) _ _ s
  refine wpAny_bind (tupleItemsOf_ ht ?_)
  refine wpAny_bind (wpAny_typeOf hTs ?_)
  rw [if_pos (by decide)]
  refine wpAny_bind (sliceApplied_rev hs ps ?_)
  have hno : ¬ (((items.size : Int) - 1 == 0 && (-1 : Int) == 1 && items.size == items.size) = true) := by
    intro q
    rw [Bool.and_eq_true, Bool.and_eq_true] at q
    exact absurd q.1.2 (by decide)
  show wpAny _ _ (if ((items.size : Int) - 1 == 0 && (-1 : Int) == 1 && items.size == items.size) = true then _ else _) _ _ s
  rw [if_neg hno, pick_rev]
  first
    | exact wpAny_bind (m := Builtin.Tuple.tupleExact _) (wpAny_newObj_type (wpAny_pure ⟨_, rfl, wpAny_pure h⟩) htake)
    | exact wpAny_bind (m := Builtin.Tuple.tupleExact _) (wpAny_newObj_type (wpAny_bind (wpAny_pure (wpAny_pure ⟨_, rfl, wpAny_pure h⟩))) htake)
    | exact wpAny_bind (wpAny_bind (m := Builtin.Tuple.tupleExact _) (wpAny_newObj_type (wpAny_pure (wpAny_pure ⟨_, rfl, wpAny_pure h⟩)) htake))
    | exact wpAny_bind (wpAny_bind (m := Builtin.Tuple.tupleExact _) (wpAny_newObj_type (wpAny_pure ⟨_, rfl, wpAny_pure h⟩) htake))
end
end Ev
namespace Ev
open PySem L2 PyProof.Rows
def tRevT (K : PySem.W.Frag) (te : TE) : TE := fun σ H Q => te σ H fun x H1 => ∃ a xs, x = .ref a ∧ SqT K H1 a xs ∧ ∀ p u, FT xs.reverse u → H1 p = none → Q (.ref p) (upd H1 p u)
section
variable {X : Cx}
theorem pe_revT {e : Expr} {te : TE} {k : Nat} {p1 p2 p3 pos : Pos} (he : PE X e te) : PE X (.Subscript e (.Slice none none (some (.UnaryOp .USub (.Constant (.int 1) k p1) p2)) p3) pos) (tRevT X.K te) := by
  refine ⟨fun pins s σ H Q I h => ?_⟩
  refine Subscript_ (thn (he.run pins s σ H _ I h) fun v s1 ⟨x, H1, I1, r1, q1⟩ => ?_)
  obtain ⟨a, xs, ex, hx, q⟩ := q1
  subst ex
  cases r1
  have hst : PO X (some (.UnaryOp .USub (.Constant (.int 1) k p1) p2)) (tPart (tUn (rU fun i => .int (-i)) (tC (.int 1)))) := po_some (pe_un un_neg pe_int)
  refine wpAny_Slice (thn (po_none.run pins s1 σ H1 (fun o H2 => o = none ∧ H2 = H1) I1 ⟨rfl, rfl⟩) fun vl s2 ⟨l, H2, I2, pl, el, e2⟩ => ?_)
  subst el e2
  refine thn (po_none.run pins s2 σ H2 (fun o H3 => o = none ∧ H3 = H2) I2 ⟨rfl, rfl⟩) fun vu s3 ⟨u, H3, I3, pu, eu, e3⟩ => ?_
  subst eu e3
  refine thn (hst.run pins s3 σ H3 (fun o H4 => o = some (-1) ∧ H4 = H3) I3 ⟨1, rfl, -1, rfl, rfl, rfl⟩) fun vs s4 ⟨o, H4, I4, ps, eo, e4⟩ => ?_
  subst eo e4
  cases pl
  cases pu
  have I5 : Inv X pins σ H4 { s4 with heap := s4.heap.push { cls := .type "slice", data := .fields #[.none, .none, vs] } } := I4.kept (t' := s4.toks) fun b ob q => Heap.get?_push_of_some _ q
  obtain ⟨its, r, ht, hz⟩ := I5.tuple hx
  have hlen := r.length
  show wpAny (model X.prog X.w) X.A (subscriptTail e (.Slice none none (some (.UnaryOp .USub (.Constant (.int 1) k p1) p2)) p3) (.ref a) (.ref s4.heap.objs.size)) (EP X pins σ Q) X.xe { s4 with heap := s4.heap.push { cls := .type "slice", data := .fields #[.none, .none, vs] } }
  refine tail_any (ops := [.ref a, .ref s4.heap.objs.size]) ht.typeIs (PyProof.Rows.slot_tuple_getitem.lookup) ?_ (by with_unfolding_all rfl)
  refine getItem_tuple_rev ht (Heap.IsSliceOf.new _ .none .none vs) ps ?_ (by rw [List.size_toArray]; omega)
  exact ⟨.ref _, _, laidT (s := { s4 with heap := s4.heap.push { cls := .type "slice", data := .fields #[.none, .none, vs] } }) (t' := s4.toks) I5 r.reverse (by rw [List.length_reverse]; exact hz) (fun b ob q => Heap.get?_push_of_some _ q) (Nat.le_refl _)
    (Heap.get?_push_size _ rfl) rfl ⟨_, rfl⟩, rfl, q _ _ ⟨_, rfl, rfl⟩ (I5.hok.fresh (Nat.le_refl _))⟩
def revD : D → Option Rv
  | .lst xs => some (.own (.lst xs.reverse))
  | .tup xs => some (.imm (.tup xs.reverse))
  | _ => none
def rvF (FA : Fr) : Fe := fun ρ => (FA ρ).bind fun x => (deref x.2 x.1).bind fun d => (revD d).map fun z => (z, x.2)
theorem px_rev {e : Expr} {FA : Fr} {k : Nat} {p1 p2 p3 pos : Pos} (he : PR X e FA) : PX X (.Subscript e (.Slice none none (some (.UnaryOp .USub (.Constant (.int 1) k p1) p2)) p3) pos) (rvF FA) :=
  pe_imp (pe_or2 (pe_revL he) (pe_revT he)) fun σ H Q ⟨ρ, loc, Hf, r, ρ', s, hF, kk⟩ => by
    unfold rvF at hF
    obtain ⟨⟨x, ρ1⟩, q1, hF⟩ := Option.bind_eq_some_iff.mp hF
    obtain ⟨d, q2, hF⟩ := Option.bind_eq_some_iff.mp hF
    obtain ⟨z, q3, q4⟩ := Option.map_eq_some_iff.mp hF
    cases q4
    unfold revD at q3
    split at q3
    · cases q3
      refine .inl ⟨ρ, loc, Hf, x, ρ1, s, q1, fun v H1 Hf1 g1 s1 o1 => ?_⟩
      obtain ⟨p, vs, rfl, h1, r⟩ := deref_b s1 o1 q2
      refine ⟨p, vs, rfl, .of h1, fun p' hp => ?_⟩
      have E := Ext.newO s1.sub hp (.lst vs.reverse)
      exact kk _ _ _ (g1.trans E.ge) (s1.ext E) ⟨p', rfl, g1.there _ hp, free_of s1.sub hp, _, upd_same, r.reverse⟩
    · cases q3
      refine .inr ⟨ρ, loc, Hf, x, ρ1, s, q1, fun v H1 Hf1 g1 s1 o1 => ?_⟩
      obtain ⟨p, ob0, vs, rfl, h1, _, r⟩ := rp_tup (deref_b s1 o1 q2)
      refine ⟨p, vs, rfl, sqT_fz (s1.sub _ _ h1), fun p' u ⟨ob, hn, eu⟩ hp => ?_⟩
      subst eu
      have E := Ext.newF s1.sub hp (.frz ob (.tup vs.reverse))
      exact kk _ _ _ (g1.trans E.ge) (s1.ext E) (.tup upd_same hn (r.reverse.mono (E.fixed s1.sub)))
    · cases q3

/-! ### list(range(..)), tuple(range(..)) -/
def rgI (a b : Int) : List D := (List.range (b - a).toNat).map fun i => D.int (a + (i : Nat))
def rgOk (a b : Int) : Bool := decide (-(2 ^ 62) ≤ a ∧ a < 2 ^ 62 ∧ -(2 ^ 62) ≤ b ∧ b < 2 ^ 62 ∧ (b - a).toNat ≤ 2 ^ 24)
theorem rgOk_ok {a b : Int} (h : rgOk a b = true) : RgOk a b := by
  unfold rgOk at h
  unfold RgOk
  exact of_decide_eq_true h
theorem rgI_rp {W : Wd} {H : Hp} (a b : Int) : RpL W H (rgV a b) (rgI a b) := by
  unfold rgV rgI
  have : ∀ l : List Nat, RpL W H (l.map fun (i : Nat) => V.int (a + (i : Nat))) (l.map fun (i : Nat) => D.int (a + (i : Nat))) := fun l => by
    induction l with
    | nil => exact .nil
    | cons x l ih => exact .cons (.int _) ih
  exact this _
def lstRg1 (F : Fd) : Fe := fun ρ => (F ρ).bind fun x => match x.1 with
  | .int n => if rgOk 0 n = true then some (.own (.lst (rgI 0 n)), x.2) else none
  | _ => none
def tupRg1 (F : Fd) : Fe := fun ρ => (F ρ).bind fun x => match x.1 with
  | .int n => if rgOk 0 n = true then some (.imm (.tup (rgI 0 n)), x.2) else none
  | _ => none
theorem px_lstRg1 {a : Expr} {F : Fd} {p p2 pos pos2 : Pos} (hc : X.calm = true) (hg : Gl X "list") (hm : X.mg "list" = none) (hg2 : Gl X "range") (hm2 : X.mg "range" = none) (ha : PD X a F) (hs : noStar a = true) :
    PX X (.Call (.Name "list" p) [.Call (.Name "range" p2) [a] [] pos2] [] pos) (lstRg1 F) :=
  pe_imp (pe_listRg hc hg hm (prg_1 hg2 hm2 ha (starEach_cons hs)) (starEach_cons rfl)) fun σ H Q ⟨ρ, loc, Hf, r, ρ', s, hF, kk⟩ => by
    unfold lstRg1 at hF
    obtain ⟨⟨x, ρ1⟩, q1, hF⟩ := Option.bind_eq_some_iff.mp hF
    dsimp only at hF
    split at hF
    · rename_i n
      split at hF
      · rename_i ho
        cases hF
        refine ⟨ρ, loc, Hf, _, _, s, q1, fun v H1 Hf1 g1 s1 o1 => ?_⟩
        cases o1
        refine ⟨n, rfl, rgOk_ok ho, fun p' hp => ?_⟩
        have E := Ext.newO s1.sub hp (.lst (rgV 0 n))
        exact kk _ _ _ (g1.trans E.ge) (s1.ext E) ⟨p', rfl, g1.there _ hp, free_of s1.sub hp, _, upd_same, rgI_rp 0 n⟩
      · cases hF
    · cases hF
theorem px_tupRg1 {a : Expr} {F : Fd} {p p2 pos pos2 : Pos} (hc : X.calm = true) (hg : Gl X "tuple") (hm : X.mg "tuple" = none) (hg2 : Gl X "range") (hm2 : X.mg "range" = none) (ha : PD X a F) (hs : noStar a = true) :
    PX X (.Call (.Name "tuple" p) [.Call (.Name "range" p2) [a] [] pos2] [] pos) (tupRg1 F) :=
  pe_imp (pe_tupRgF hc hg hm (prg_1 hg2 hm2 ha (starEach_cons hs)) (starEach_cons rfl)) fun σ H Q ⟨ρ, loc, Hf, r, ρ', s, hF, kk⟩ => by
    unfold tupRg1 at hF
    obtain ⟨⟨x, ρ1⟩, q1, hF⟩ := Option.bind_eq_some_iff.mp hF
    dsimp only at hF
    split at hF
    · rename_i n
      split at hF
      · rename_i ho
        cases hF
        refine ⟨ρ, loc, Hf, _, _, s, q1, fun v H1 Hf1 g1 s1 o1 => ?_⟩
        cases o1
        refine ⟨n, rfl, rgOk_ok ho, fun p' u ⟨ob, hn, eu⟩ hp => ?_⟩
        subst eu
        have E := Ext.newF s1.sub hp (.frz ob (.tup (rgV 0 n)))
        exact kk _ _ _ (g1.trans E.ge) (s1.ext E) (.tup upd_same hn (rgI_rp 0 n))
      · cases hF
    · cases hF
end
end Ev
/-! text Ev19 -/
set_option Elab.async false
set_option linter.all false
set_option maxRecDepth 100000
set_option maxHeartbeats 4000000
namespace Ev
open PySem L2 PySem.Spec PyProof.Rows

/-! ### isinstance -/
/-- the name of a built-in type of a thing -/
def tyD : D → Option String
  | .non => some "NoneType"
  | .bl _ => some "bool"
  | .int _ => some "int"
  | .str _ => some "str"
  | .tup _ => some "tuple"
  | .lst _ => some "list"
  | .dct _ _ => some "dict"
  | _ => none
theorem RpB.ty {W : Wd} {H Hf : Hp} {v : V} {d : D} {n : String} (h : RpB W H Hf v d) (s : Sub Hf H) (e : tyD d = some n) : TyX W.K H v (.type n) := by
  cases d with
  | non => cases e; have q : Rp W Hf v .non := h; cases q; exact .base .non
  | bl b => cases e; have q : Rp W Hf v (.bl b) := h; cases q; exact .base (.bl _)
  | int b => cases e; have q : Rp W Hf v (.int b) := h; cases q; exact .base (.int _)
  | str b => cases e; have q : Rp W Hf v (.str b) := h; cases q; exact .base (.str _)
  | tup xs => cases e; obtain ⟨a, ob, vs, rfl, h1, _⟩ := rp_tup h; exact .fTuple (s _ _ h1)
  | lst xs => cases e; obtain ⟨a, vs, rfl, h1, _⟩ := h; exact .base (.lst h1)
  | dct t kvs =>
    cases e
    cases t with
    | false => obtain ⟨a, vs, rfl, h1, _⟩ := h; exact .base (.dK h1)
    | true => obtain ⟨a, vs, rfl, h1, _⟩ := h; exact .base (.dT h1)
  | obj c fs => cases e
  | scr ns => cases e
/-- whether an object of a class of the text is one of the built-in type: told by facts of the text -/
structure ObjTy (K : PySem.W.Frag) (mg : Str → Option Value) (c : Str) : Prop where
  ok : ∀ C, mg c = some (.ref C) → Cls K C ∧ PySem.W.findIn K (.ref C) "__class__" = some (some (.builtin "object.__class__")) ∧ PySem.W.specialIn K (.builtin "object.__class__") "__get__" = some (some (.builtin "getset_descriptor.__get__")) ∧
    PySem.W.takesIn K (.builtin "object.__class__") = some true ∧ PySem.W.mroIn K C (.type "object") = some true
def isiD (n : String) : List D → Option Rv
  | [d] => (tyD d).bind fun m => (kitB m n).map fun b => .imm (.bl b)
  | _ => none
/-- isinstance(x, T), T a built-in type's name -/
def isiF (n : String) (FA : Fr) : Fd := fun ρ => (FA ρ).bind fun x => (deref x.2 x.1).bind fun d => (tyD d).bind fun m => (kitB m n).map fun b => (.bl b, x.2)
/-- isinstance(x, (T1, ..)) -/
def anyTy (m : String) : List String → Option Bool
  | [] => some false
  | n :: ns => (kitB m n).bind fun b => if b = true then some true else anyTy m ns
def isisF (ns : List String) (FA : Fr) : Fd := fun ρ => (FA ρ).bind fun x => (deref x.2 x.1).bind fun d => (tyD d).bind fun m => (anyTy m ns).map fun b => (.bl b, x.2)
theorem kitAny_of {K : PySem.W.Frag} {m : String} : ∀ {ns : List String} {b : Bool}, anyTy m ns = some b → PySem.W.kitAny K (.type m) (ns.map Value.type) = some b
  | [], b, e => by cases e; rfl
  | n :: ns, b, e => by
    unfold anyTy at e
    obtain ⟨c, e1, e2⟩ := Option.bind_eq_some_iff.mp e
    rw [List.map_cons]
    cases c with
    | true =>
      simp only [if_true] at e2
      cases e2
      exact kitAny_cons (r := true) (kit_ty e1) (fun q => by cases q) (fun _ => rfl)
    | false =>
      simp only [Bool.false_eq_true, if_false] at e2
      exact kitAny_cons (kit_ty e1) (fun _ => kitAny_of e2) (fun q => by cases q)
section
variable {X : Cx} {e a b c o : Expr}
theorem px_isi {n : String} {x tn : Str} {FA : Fr} {p pt pos : Pos} (hg : Gl X x) (hm : X.mg x = none) (hx : x = "isinstance") (hgt : Gl X tn) (hmt : X.mg tn = none) (hvt : bootBuiltins tn = some (.type n)) (ha : PR X a FA) (hs : noStar a = true)
    (hn2 : tn ≠ "__name__") (hd2 : (tn == ("__debug__" : Str)) = false) :
    PD X (.Call (.Name x p) [a, .Name tn pt] [] pos) (isiF n FA) := by
  subst hx
  have hb : PE X (.Name tn pt) (tC (.ty n)) := pe_bltn hgt hmt hvt rfl hn2 hd2
  refine pe_imp (pe_callB call_isi hg hm (by rfl) (pa_cons ha (pa_cons hb pa_nil (starEach_cons rfl)) (starEach_cons hs)) (by decide) (by decide) (starEach_cons hs) (starEach_plain pos rfl)) fun σ H Q ⟨ρ, loc, Hf, r, ρ', s, hF, kk⟩ => ?_
  unfold isiF at hF
  obtain ⟨⟨y, ρ1⟩, q1, hF⟩ := Option.bind_eq_some_iff.mp hF
  obtain ⟨d, q2, hF⟩ := Option.bind_eq_some_iff.mp hF
  obtain ⟨m, q3, hF⟩ := Option.bind_eq_some_iff.mp hF
  obtain ⟨z, q4, q5⟩ := Option.map_eq_some_iff.mp hF
  cases q5
  refine ⟨ρ, loc, Hf, y, _, s, q1, fun v H1 Hf1 g1 s1 o1 => ?_⟩
  exact ⟨v, .ty n, .type m, .type n, z, rfl, .ty n, (deref_b s1 o1 q2).ty s1.sub q3, kit_ty q4, kk _ H1 Hf1 g1 s1 (.bl z)⟩
/-- the classes of a tuple -/
inductive Tys (X : Cx) : List Expr → List String → Prop where
  | nil : Tys X [] []
  | cons {n : String} {tn : Str} {pt : Pos} {es : List Expr} {ns : List String} (hgt : Gl X tn) (hmt : X.mg tn = none) (hvt : bootBuiltins tn = some (.type n)) (hn2 : tn ≠ "__name__") (hd2 : (tn == ("__debug__" : Str)) = false) (t : Tys X es ns) : Tys X (.Name tn pt :: es) (n :: ns)
def tTys (ns : List String) : TA := fun _ H Q => Q (ns.map V.ty) H
theorem Tys.pa {es : List Expr} {ns : List String} (h : Tys X es ns) : PA X es (tTys ns) := by
  induction h with
  | nil => exact pa_imp pa_nil fun σ H Q w => w
  | cons hgt hmt hvt hn2 hd2 t ih =>
    rename_i n tn pt es ns
    have hb : PE X (.Name tn pt) (tC (.ty n)) := pe_bltn hgt hmt hvt rfl hn2 hd2
    exact pa_imp (pa_cons hb ih (starEach_cons rfl)) fun σ H Q w => w
theorem px_isis {ns : List String} {x : Str} {es : List Expr} {FA : Fr} {k : Nat} {p pt pos : Pos} (hg : Gl X x) (hm : X.mg x = none) (hx : x = "isinstance") (ht : Tys X es ns) (ha : PR X a FA) (hs : noStar a = true) (hl : ns.length ≤ 9) :
    PD X (.Call (.Name x p) [a, .Tuple es k pt] [] pos) (isisF ns FA) := by
  subst hx
  refine pe_imp (pe_callB call_isiT hg hm (by rfl) (pa_cons ha (pa_cons (pe_tup ht.pa) pa_nil (starEach_cons rfl)) (starEach_cons hs)) (by decide) (by decide) (starEach_cons hs) (starEach_plain pos rfl)) fun σ H Q ⟨ρ, loc, Hf, r, ρ', s, hF, kk⟩ => ?_
  unfold isisF at hF
  obtain ⟨⟨y, ρ1⟩, q1, hF⟩ := Option.bind_eq_some_iff.mp hF
  obtain ⟨d, q2, hF⟩ := Option.bind_eq_some_iff.mp hF
  obtain ⟨m, q3, hF⟩ := Option.bind_eq_some_iff.mp hF
  obtain ⟨z, q4, q5⟩ := Option.map_eq_some_iff.mp hF
  cases q5
  refine ⟨ρ, loc, Hf, y, _, s, q1, fun v H1 Hf1 g1 s1 o1 => ?_⟩
  refine ⟨by rw [List.length_map]; exact Nat.le_trans hl (by decide), fun t ht' => ?_⟩
  have E := Ext.newF s1.sub ht' (.tup (ns.map V.ty))
  have s2 := s1.ext E
  have o2 : AROk (wd X) loc v _ y := o1.mono (E.fixed s1.sub)
  refine ⟨v, t, ns.map V.ty, .type m, ns.map Value.type, z, rfl, upd_same, ?_, (deref_b s2 o2 q2).ty s2.sub q3, kitAny_of q4, kk _ _ _ (g1.trans E.ge) s2 (.bl z)⟩
  have : ∀ l : List String, Paired ClsV (l.map V.ty) (l.map Value.type) := fun l => by
    induction l with
    | nil => exact .nil
    | cons n l ih => exact .cons (.ty n) ih
  exact this ns
end

/-! ### index -/
/-- the first place of an equal one -/
def idxP (d : PyData) : List PyData → Option Nat
  | [] => none
  | z :: zs => if PyData.eqv z d = true then some 0 else (idxP d zs).map (· + 1)
theorem idxP_some {d : PyData} : ∀ {zs : List PyData} {j : Nat}, idxP d zs = some j → (∃ z, zs[j]? = some z ∧ PyData.eqv z d = true) ∧ ∀ (m : Nat) (z' : PyData), m < j → zs[m]? = some z' → PyData.eqv z' d = false
  | [], j, h => by cases h
  | z :: zs, j, h => by
    unfold idxP at h
    split at h
    · rename_i e
      cases h
      exact ⟨⟨z, rfl, e⟩, fun m z' hm _ => absurd hm (Nat.not_lt_zero m)⟩
    · rename_i e
      obtain ⟨j', h1, h2⟩ := Option.map_eq_some_iff.mp h
      subst h2
      obtain ⟨⟨y, q1, q2⟩, q3⟩ := idxP_some h1
      refine ⟨⟨y, by simpa using q1, q2⟩, fun m z' hm hz => ?_⟩
      cases m with
      | zero =>
        simp at hz
        subst hz
        simpa using e
      | succ m => exact q3 m z' (by omega) (by simpa using hz)
def rTIndexD (K : PySem.W.Frag) : V → List V → Hp → VK → Prop := fun x xs H Q => ∃ (a : Addr) (y : V) (d : PyData) (ds : List PyData) (j : Nat) (z : PyData), x = V.ref a ∧ xs = [y] ∧ Dp K H (V.ref a) (.tuple ds) ∧ Dp K H y d ∧
  SeqAt.shaped (.tuple ds) = true ∧ SeqAt.shaped d = true ∧ ds[j]? = some z ∧ PyData.eqv z d = true ∧ (∀ (m : Nat) (z' : PyData), m < j → ds[m]? = some z' → PyData.eqv z' d = false) ∧ Q (.int (j : Nat)) H
section
variable {X : Cx} {e a b c o : Expr}
theorem mt_tindexD (hu : X.A.units + 65 < cLine) : MtR X "tuple.index" (rTIndexD X.K) := by
  intro pins s σ H x xs v us Q I rx rxs h
  obtain ⟨a, y, d, ds, j, z, rfl, rfl, hl, hy, sl, sd, hz, hzj, hno, q⟩ := h
  cases rx
  obtain ⟨uy, rfl, ry⟩ := vals1 rxs
  obtain ⟨bs, r1⟩ := Dp.reads I d y uy hy ry
  have hxs : PyData.canLayAll0 ds = true := SeqAt.canLay_of_shaped sl
  have hroom : X.A.units + 1 + min (PyData.depthAll ds) d.depth < cLine := room_in_shaped sd hu
  cases hl with
  | tup hs ha =>
    obtain ⟨its, rv, ⟨⟨cls, dd, data, sls⟩, ho, hc, n, hdt⟩, hlen⟩ := I.tuple hs
    simp only at hc hdt
    subst hc hdt
    obtain ⟨as, h4⟩ := Dp.readsAll I ds _ its ha rv
    have hn : its.length = ds.length := SeqAt.ReadsAll.length ds its as h4
    have hmap : its.map (SeqAt.readOf s.heap) = ds := SeqAt.readsAll_map ds its as hxs h4
    have hvl := rv.length
    have hsl := sizeLine_eq
    obtain ⟨hjd, _⟩ := List.getElem?_eq_some_iff.mp hz
    have hjl : j < its.length := by omega
    have hj : j < its.toArray.size := by simpa using hjl
    have at_ : ∀ (m : Nat) (hm : m < its.toArray.size) (z' : PyData), ds[m]? = some z' → SeqAt.readOf s.heap its.toArray[m] = z' := by
      intro m hm z' hz'
      have hml : m < its.length := by simpa using hm
      rw [← hmap, List.getElem?_map, List.getElem?_eq_getElem hml] at hz'
      have e1 : SeqAt.readOf s.heap its[m] = z' := Option.some.inj (show some (SeqAt.readOf s.heap its[m]) = some z' from hz')
      simpa using e1
    refine call_meets PySem.F.slot_tuple_index ⟨_, ho, rfl⟩ PySem.F.entry_tuple_index (PySem.F.args_tuple_index_2 _ _)
      (TI.tuple_indexAt a its.toArray n dd sls uy (fun u => PyData.eqv (SeqAt.readOf s.heap u) d) j hj ?_ ?_) ⟨ho, SeqAt.items_eqAt (vs := its.toArray) (show ReadsAll s.heap its.toArray.toList ds as from h4) r1 hxs (SeqAt.canLay_of_shaped sd) hroom, ?_⟩
    · show PyData.eqv (SeqAt.readOf s.heap its.toArray[j]) d = true
      rw [at_ j hj z hz]
      exact hzj
    · intro m hm hmj
      have hmd : m < ds.length := by omega
      have hz' : ds[m]? = some ds[m] := List.getElem?_eq_getElem hmd
      show PyData.eqv (SeqAt.readOf s.heap its.toArray[m]) d = false
      rw [at_ m hm _ hz']
      exact hno m _ hmj hz'
    · exact ⟨.int (j : Nat), H, I.tok _, ⟨_, rfl⟩, q⟩
/-- a method of a tracked tuple -/
def tBMT (r : V → List V → Hp → VK → Prop) (to : TE) (t : TA) : TE := fun σ H Q => to σ H fun x H1 => (∃ p ob xs, x = .ref p ∧ H1 p = some (.frz ob (.tup xs)) ∧ ob.dict = none) ∧ t σ H1 fun xs H2 => r x xs H2 Q
theorem pe_bmT {name : Str} {id : String} {es : List Expr} {to : TE} {t : TA} {apos cpos : Pos} {r : V → List V → Hp → VK → Prop} (slot : Slot "tuple" name id) (hty : typeOf (.builtin id) = pure (.type "method_descriptor")) (hm : MtR X id r) (ho : PE X o to) (ha : PA X (e :: es) t)
    (hr : plainRecv o = true) (hs : (e :: es).all noStar = true) (h30 : (e :: es).length < 29) (hline : (apos.endLine == cpos.line) = true) : PE X (.Call (.Attribute o name apos) (e :: es) [] cpos) (tBMT r to t) := by
  have hs2 := hs
  rw [List.all_cons, Bool.and_eq_true] at hs2
  refine ⟨fun pins s σ H Q I h => ?_⟩
  refine wpAny_Call_method_late (recv_base hr) (few_of hs h30) hline rfl (thn (ho.run pins s σ H _ I h) fun v s1 ⟨x, H1, I1, r1, ty, q1⟩ => ?_)
  obtain ⟨p, ob, xs, rfl, hp, hn⟩ := ty
  cases r1
  obtain ⟨g1, _, its, rv, o2, g2, g3, g4⟩ := (show ObjOk X.prog X.w H1 s1.heap p (.frz ob (.tup xs)) from I1.hok p _ hp)
  refine ⟨"tuple", id, PySem.F.plainAttrs_tuple, slot, hty, ⟨o2, g2, g3⟩, fun a ea => by cases ea; exact ⟨ob, g1, hn⟩, ?_⟩
  have hA := ha.run cpos pins s1 σ H1 _ I1 q1
  rw [starEach_cons hs2.1] at hA ⊢
  refine Calls.callWith_builtin (by show (false || (backTo cpos (starEach es X.env)).any (·.1)) = false; rw [starEach_plain cpos hs2.2] <;> rfl) (Calls.evalArgs_plain ?_)
  exact thn hA fun us s2 ⟨vs, H2, I2, r2, q2⟩ => hm pins s2 σ H2 (.ref p) vs (.ref p) us Q I2 rfl r2 q2
/-- xs.index(e), xs a list or a tuple -/
def idxD (d e : D) : Option Int := match d with
  | .lst xs => if SeqAt.shaped (.list (pyL xs)) = true ∧ SeqAt.shaped (py e) = true then (idxP (py e) (pyL xs)).map fun j => ((j : Nat) : Int) else none
  | .tup xs => if SeqAt.shaped (.tuple (pyL xs)) = true ∧ SeqAt.shaped (py e) = true then (idxP (py e) (pyL xs)).map fun j => ((j : Nat) : Int) else none
  | _ => none
def isLst : D → Bool
  | .lst _ => true
  | _ => false
def isTup : D → Bool
  | .tup _ => true
  | _ => false
theorem isLst_eq {d : D} (h : isLst d = true) : ∃ xs, d = .lst xs := by
  cases d <;> first | exact ⟨_, rfl⟩ | cases h
theorem isTup_eq {d : D} (h : isTup d = true) : ∃ xs, d = .tup xs := by
  cases d <;> first | exact ⟨_, rfl⟩ | cases h
/-- the receiver is looked at, the argument made, and the receiver looked at again -/
def idxF (FR FA : Fr) : Fd := fun ρ => (FR ρ).bind fun x => (deref x.2 x.1).bind fun d0 => (FA x.2).bind fun y => (deref y.2 x.1).bind fun d => (deref y.2 y.1).bind fun e => if isLst d0 = isLst d ∧ isTup d0 = isTup d then (idxD d e).map fun j => (.int j, y.2) else none
theorem shaped_lst {xs : List D} (h : SeqAt.shaped (.list (pyL xs)) = true) : PyData.canLayAll0 (pyL xs) = true := SeqAt.canLay_of_shaped h
theorem px_idx {FR FA : Fr} {k : Nat} {apos pos : Pos} (q : Cq X k) (ho : PR X o FR) (ha : PR X a FA) (hr : plainRecv o = true) (hs : noStar a = true) (hl : (apos.endLine == pos.line) = true) : PD X (.Call (.Attribute o "index" apos) [a] [] pos) (idxF FR FA) := by
  have hu : X.A.units + 65 < cLine := by have := q.room.un; omega
  have hall : ([a] : List Expr).all noStar = true := by simp [hs]
  have h29 : ([a] : List Expr).length < 29 := by simp
  refine pe_imp (pe_or2 (pe_bm PySem.F.plainAttrs_list PySem.F.slot_list_index PySem.F.type_list_index (mt_indexD hu) ho (pa_cons ha pa_nil (starEach_cons hs)) (recv_base hr) (few_of hall h29) hl (starEach_cons hs) (starEach_plain pos rfl))
    (pe_bmT PySem.F.slot_tuple_index PySem.F.type_tuple_index (mt_tindexD hu) ho (pa_cons ha pa_nil (starEach_cons hs)) hr hall h29 hl)) fun σ H Q ⟨ρ, loc, Hf, r, ρ', s, hF, kk⟩ => ?_
  unfold idxF at hF
  obtain ⟨⟨x, ρ1⟩, q1, hF⟩ := Option.bind_eq_some_iff.mp hF
  obtain ⟨d0, q2, hF⟩ := Option.bind_eq_some_iff.mp hF
  obtain ⟨⟨y, ρ2⟩, q3, hF⟩ := Option.bind_eq_some_iff.mp hF
  obtain ⟨d, q4, hF⟩ := Option.bind_eq_some_iff.mp hF
  obtain ⟨e, q5, hF⟩ := Option.bind_eq_some_iff.mp hF
  split at hF
  · rename_i hk
    obtain ⟨j, q6, q7⟩ := Option.map_eq_some_iff.mp hF
    cases q7
    unfold idxD at q6
    split at q6
    · rename_i xs
      split at q6
      · rename_i hsh
        obtain ⟨j', q8, q9⟩ := Option.map_eq_some_iff.mp q6
        subst q9
        refine .inl ⟨ρ, loc, Hf, x, ρ1, s, q1, fun v H1 Hf1 g1 s1 o1 => ?_⟩
        have ty0 : tyV X.K "list" v H1 := by
          obtain ⟨ys, rfl⟩ := isLst_eq (hk.1.trans rfl)
          obtain ⟨p, vs, rfl, h1, _⟩ := deref_b s1 o1 q2
          exact .inl ⟨rfl, vs, .of h1⟩
        refine ⟨ty0, ρ1, loc, Hf1, y, _, s1, q3, fun w H2 Hf2 g2 s2 o2 => ?_⟩
        have b1 := (deref_b s2 (o1.mono (g2.fixed s1)) q4)
        have b2 := (deref_b s2 o2 q5)
        have dp1 := (b1.up s2.sub).dp (SeqAt.canLay_of_shaped hsh.1)
        have dp2 := (b2.up s2.sub).dp (SeqAt.canLay_of_shaped hsh.2)
        obtain ⟨p, vs, rfl, h1, _⟩ := b1
        obtain ⟨⟨z, z1, z2⟩, z3⟩ := idxP_some q8
        exact ⟨p, w, py e, pyL _, j', z, rfl, rfl, dp1, dp2, hsh.1, hsh.2, z1, z2, z3, kk _ H2 Hf2 (g1.trans g2) s2 (.int _)⟩
      · cases q6
    · rename_i xs
      split at q6
      · rename_i hsh
        obtain ⟨j', q8, q9⟩ := Option.map_eq_some_iff.mp q6
        subst q9
        refine .inr ⟨ρ, loc, Hf, x, ρ1, s, q1, fun v H1 Hf1 g1 s1 o1 => ?_⟩
        have ty0 : ∃ p ob xs, v = .ref p ∧ H1 p = some (.frz ob (.tup xs)) ∧ ob.dict = none := by
          obtain ⟨ys, rfl⟩ := isTup_eq (hk.2.trans rfl)
          obtain ⟨p, ob, vs, rfl, h1, hn, _⟩ := rp_tup (deref_b s1 o1 q2)
          exact ⟨p, ob, vs, rfl, s1.sub _ _ h1, hn⟩
        refine ⟨ty0, ρ1, loc, Hf1, y, _, s1, q3, fun w H2 Hf2 g2 s2 o2 => ?_⟩
        have b1 := (deref_b s2 (o1.mono (g2.fixed s1)) q4)
        have b2 := (deref_b s2 o2 q5)
        have dp1 := (b1.up s2.sub).dp (SeqAt.canLay_of_shaped hsh.1)
        have dp2 := (b2.up s2.sub).dp (SeqAt.canLay_of_shaped hsh.2)
        obtain ⟨p, ob, vs, rfl, h1, _⟩ := rp_tup b1
        obtain ⟨⟨z, z1, z2⟩, z3⟩ := idxP_some q8
        exact ⟨p, w, py e, pyL _, j', z, rfl, rfl, dp1, dp2, hsh.1, hsh.2, z1, z2, z3, kk _ H2 Hf2 (g1.trans g2) s2 (.int _)⟩
      · cases q6
    · cases q6
  · cases hF

/-! ### repr -/
def reprOk (d : D) : Bool := (py d).canLay0 && (py d).showable && decide ((py d).depth ≤ 100) && decide ((py d).shown.length ≤ sizeLine)
def isRef : D → Bool
  | .tup _ => true
  | .lst _ => true
  | _ => false
def reprD : List D → Option Rv
  | [.int i] => if i.natAbs.log2 < 1920 then some (.imm (.str (py (.int i)).shown)) else none
  | [d] => if isRef d = true ∧ reprOk d = true then some (.imm (.str (py d).shown)) else none
  | _ => none
def rRepr (K : PySem.W.Frag) : List V → Hp → VK → Prop := fun xs H Q => (∃ i, xs = [.int i] ∧ i.natAbs.log2 < 1920 ∧ Q (.str (toString i)) H) ∨ ∃ a d, xs = [.ref a] ∧ Dp K H (.ref a) d ∧ d.canLay0 = true ∧ d.showable = true ∧ d.depth ≤ 100 ∧ d.shown.length ≤ sizeLine ∧ Q (.str d.shown) H
theorem call_reprD {k : Nat} (q : Cq X k) : CallR X (.builtin "repr") (rRepr X.K) := by
  intro pins s σ H xs us Q I r h
  rcases h with ⟨i, rfl, hz, q1⟩ | ⟨a, d, rfl, hd, h1, h2, h3, h4, q1⟩
  · obtain ⟨u, rfl, t, rfl⟩ := vals1 r
    exact PySem.P.repr_of_int hz ⟨.str _, H, I.tok _, ⟨_, rfl⟩, q1⟩
  · obtain ⟨u, rfl, ru⟩ := vals1 r
    cases ru
    obtain ⟨as, rd⟩ := Dp.reads I d _ _ hd rfl
    refine repr_of_reads' rd h2 (PyData.noDict_hsm (PyData.hasDict_of_canLay d h1)) q.gd (by have := q.room.un; omega) (fun _ _ e => e) (fun h' u tk hk => ?_) h4
    exact ⟨.str d.shown, H, I.kept hk, ⟨u, rfl⟩, q1⟩
theorem dc_repr {W : Wd} : DCall W (rRepr W.K) reprD := fun vs ds z H Hf Q s a q k => by
  unfold reprD at q
  split at q
  · rename_i i
    split at q
    · rename_i hz
      cases q
      obtain ⟨v, rfl, b⟩ := a.one
      cases b
      exact .inl ⟨i, rfl, hz, k _ H Hf (.refl s) (.str _)⟩
    · cases q
  · rename_i d _
    split at q
    · rename_i hc
      cases q
      obtain ⟨v, rfl, b⟩ := a.one
      obtain ⟨hr, hc⟩ := hc
      unfold reprOk at hc
      simp only [Bool.and_eq_true, decide_eq_true_eq] at hc
      obtain ⟨⟨⟨c1, c2⟩, c3⟩, c4⟩ := hc
      have dp := (b.up s).dp c1
      have hv : ∃ p, v = .ref p := by
        cases d with
        | tup xs => obtain ⟨p, _, _, e, _⟩ := rp_tup b; exact ⟨p, e⟩
        | lst xs => obtain ⟨p, _, e, _⟩ := b; exact ⟨p, e⟩
        | _ => cases hr
      obtain ⟨p, rfl⟩ := hv
      exact .inr ⟨p, _, rfl, dp, c1, c2, c3, c4, k _ H Hf (.refl s) (.str _)⟩
    · cases q
  · cases q
end
end Ev
/-! text Ev20 -/
set_option Elab.async false
set_option linter.all false
set_option maxRecDepth 100000
set_option maxHeartbeats 4000000
namespace Ev
open PySem L2

/-! ### several values at once, each may be an object of one's own -/
inductive RvsOk (W : Wd) (H H' Hf' : Hp) : List V → List Rv → List Addr → Prop
  | nil : RvsOk W H H' Hf' [] [] []
  | imm {v : V} {d : D} {vs : List V} {rs : List Rv} {as : List Addr} : Rp W Hf' v d → RvsOk W H H' Hf' vs rs as → RvsOk W H H' Hf' (v :: vs) (.imm d :: rs) as
  | own {p : Addr} {c : C} {vs : List V} {rs : List Rv} {as : List Addr} : H p = none → Hf' p = none → OwnAt W H' Hf' p c → p ∉ as → RvsOk W H H' Hf' vs rs as → RvsOk W H H' Hf' (.ref p :: vs) (.own c :: rs) (p :: as)
theorem RvsOk.new {W : Wd} {H H' Hf' : Hp} : ∀ {vs : List V} {rs : List Rv} {as : List Addr}, RvsOk W H H' Hf' vs rs as → ∀ q ∈ as, H q = none
  | _, _, _, .nil => fun q h => by simp at h
  | _, _, _, .imm _ t => t.new
  | _, _, _, .own h _ _ _ t => fun q hq => by
    rcases List.mem_cons.mp hq with z | z
    · exact z ▸ h
    · exact t.new q z
theorem RvsOk.back {W : Wd} {H H0 H' Hf' : Hp} (t : ∀ a, H a = none → H0 a = none) : ∀ {vs : List V} {rs : List Rv} {as : List Addr}, RvsOk W H H' Hf' vs rs as → RvsOk W H0 H' Hf' vs rs as
  | _, _, _, .nil => .nil
  | _, _, _, .imm r q => .imm r (q.back t)
  | _, _, _, .own h a b c q => .own (t _ h) a b c (q.back t)
theorem RvsOk.len {W : Wd} {H H' Hf' : Hp} : ∀ {vs : List V} {rs : List Rv} {as : List Addr}, RvsOk W H H' Hf' vs rs as → vs.length = rs.length
  | _, _, _, .nil => rfl
  | _, _, _, .imm _ t => congrArg (· + 1) t.len
  | _, _, _, .own _ _ _ _ t => congrArg (· + 1) t.len
/-- a new thing apart -/
theorem RvsOk.ext {W : Wd} {H H1 Hf1 H2 : Hp} (k : ∀ a o, H1 a = some o → H2 a = some o) : ∀ {vs : List V} {rs : List Rv} {as : List Addr}, RvsOk W H H1 Hf1 vs rs as → RvsOk W H H2 Hf1 vs rs as
  | _, _, _, .nil => .nil
  | _, _, _, .imm r q => .imm r (q.ext k)
  | _, _, _, .own h a b c q => .own h a (b.mono (fun o z => k _ _ z) fun _ _ z => z) c (q.ext k)
abbrev Fxs := Env → Option (List Rv × Env)
def tXs (W : Wd) (F : Fxs) : TA := fun σ H Q => ∃ ρ loc Hf rs ρ', SOk W ρ loc σ H Hf ∧ F ρ = some (rs, ρ') ∧ ∀ vs as H' Hf', Ge ρ loc H Hf ρ' H' Hf' → SOk W ρ' loc σ H' Hf' → RvsOk W H H' Hf' vs rs as → Q vs H'
def nilX : Fxs := fun ρ => some ([], ρ)
def consX (F : Fe) (G : Fxs) : Fxs := fun ρ => (F ρ).bind fun x => (G x.2).map fun y => (x.1 :: y.1, y.2)
abbrev PXs (X : Cx) (es : List Expr) (F : Fxs) := PA X es (tXs (wd X) F)
section
variable {X : Cx} {e : Expr} {es : List Expr}
theorem pxs_nil : PXs X [] nilX := pa_imp pa_nil fun σ H Q ⟨ρ, loc, Hf, r, ρ', s, hF, k⟩ => by
  cases hF
  exact k [] [] H Hf .refl s .nil
theorem pxs_cons {F : Fe} {G : Fxs} (ha : PX X e F) (hr : PXs X es G) (hs : starEach (e :: es) X.env = (false, eval e X.env) :: starEach es X.env) : PXs X (e :: es) (consX F G) :=
  pa_imp (pa_cons ha hr hs) fun σ H Q ⟨ρ, loc, Hf, r, ρ', s, hF, k⟩ => by
    unfold consX at hF
    obtain ⟨⟨x, ρ1⟩, q1, hF⟩ := Option.bind_eq_some_iff.mp hF
    obtain ⟨⟨rs, ρ2⟩, q2, q3⟩ := Option.map_eq_some_iff.mp hF
    cases q3
    refine ⟨ρ, loc, Hf, x, ρ1, s, q1, fun v H1 Hf1 g1 s1 o1 => ⟨ρ1, loc, Hf1, rs, _, s1, q2, fun vs as H2 Hf2 g2 s2 o2 => ?_⟩⟩
    cases x with
    | imm d => exact k (v :: vs) as H2 Hf2 (g1.trans g2) s2 (.imm (Rp.mono (g2.fixed s1) o1) (o2.back g1.there))
    | own c =>
      obtain ⟨p, rfl, hp, hf, oo⟩ := o1
      obtain ⟨u, hu⟩ := Option.ne_none_iff_exists'.mp oo.there
      have no : ¬ IsOwn ρ1 loc p := fun z => s.newNot hp (g1.isOwn z)
      refine k _ (p :: as) H2 Hf2 (g1.trans g2) s2 (.own hp ((g2.frz _ _ hu no).trans hf) (oo.mono (fun o z => g2.keep _ _ z no) (g2.fixed s1)) (fun z => ?_) (o2.back g1.there))
      have := o2.new p z
      rw [hu] at this; cases this
end
def setAll (σ : St) : List Nat → List V → St
  | i :: is, v :: vs => setAll (σ.set i (some v)) is vs
  | _, _ => σ
def putVs : List Nat → List Rv → Env → Option Env
  | [], [], ρ => some ρ
  | i :: is, r :: rs, ρ => (putV i r ρ).bind fun ρ1 => putVs is rs ρ1
  | _, _, _ => none
section
variable {W : Wd} {ρ ρ1 ρ2 : Env} {loc loc1 : Loc} {σ0 σ σ1 : St} {H Hf H' Hf' : Hp}
theorem put_more {i : Nat} {r : Rv} {v : V} (g : Go ρ loc H Hf ρ1 loc1 H' Hf') (s : SOk W ρ1 loc1 σ1 H' Hf') (hp : putV i r ρ1 = some ρ2)
    (o : (∃ d, r = .imm d ∧ Rp W Hf' v d) ∨ ∃ p c, r = .own c ∧ v = .ref p ∧ H p = none ∧ Hf' p = none ∧ OwnAt W H' Hf' p c ∧ ¬ IsOwn ρ1 loc1 p) :
    ∃ loc2, Go ρ loc H Hf ρ2 loc2 H' Hf' ∧ SOk W ρ2 loc2 (σ1.set i (some v)) H' Hf' ∧ ∀ a, IsOwn ρ2 loc2 a → IsOwn ρ1 loc1 a ∨ (v = .ref a ∧ ∃ c, r = .own c) := by
  unfold putV at hp
  split at hp
  · rename_i hc
    cases hp
    have par1 : ∀ (x : Sl), (∀ c, x ≠ .par c) → ∀ (j : Nat) (c' : C), (ρ1.set i x)[j]? = some (Sl.par c') → j ≠ i ∧ ρ1[j]? = some (Sl.par c') := fun x hx j c' h => by
      rcases set_cases h with ⟨_, q⟩ | q
      · exact absurd q.symm (hx c')
      · exact q
    have par2 : ∀ (j : Nat) (c : C), ρ1[j]? = some (Sl.par c) → j ≠ i := fun j c h e => by
      subst e
      rw [h] at hc
      cases hc.2
    rcases o with ⟨d, rfl, ro⟩ | ⟨p, c, rfl, rfl, h0, hf, oo, no⟩
    · refine ⟨loc1, ⟨g.there, g.keep, g.frz, fun j c h => ?_, fun j c h => ?_, fun j c h => ?_⟩, s.putImm ro hc.1, fun a ⟨j, t, c, h1, h2, h3⟩ => ?_⟩
      · obtain ⟨n, q⟩ := par1 _ (fun c e => by cases e) j c h
        exact g.par j c q
      · obtain ⟨c', q⟩ := g.parK j c h
        exact ⟨c', by rw [List.getElem?_set_ne (Ne.symm (par2 j c' q))]; exact q⟩
      · rcases set_cases h with ⟨_, q⟩ | ⟨_, q⟩
        · cases q
        · exact g.own j c q
      · rcases set_cases h1 with ⟨_, q⟩ | ⟨_, q⟩
        · subst q; cases h2
        · exact .inl ⟨j, t, c, q, h2, h3⟩
    · refine ⟨upL loc1 i p, ⟨g.there, g.keep, g.frz, fun j c h => ?_, fun j c h => ?_, fun j c h => ?_⟩, s.putOwn hf oo no hc.1, fun a ⟨j, t, c', h1, h2, h3⟩ => ?_⟩
      · obtain ⟨n, q⟩ := par1 _ (fun c e => by cases e) j c h
        obtain ⟨z1, z2⟩ := g.par j c q
        exact ⟨z1, (if_neg n).trans z2⟩
      · obtain ⟨c', q⟩ := g.parK j c h
        exact ⟨c', by rw [List.getElem?_set_ne (Ne.symm (par2 j c' q))]; exact q⟩
      · rcases set_cases h with ⟨e, q⟩ | ⟨n, q⟩
        · refine .inl ?_
          rw [show upL loc1 i p j = p from if_pos e]; exact h0
        · rw [show upL loc1 i p j = loc1 j from if_neg n]
          exact g.own j c q
      · rcases set_cases h1 with ⟨e, q⟩ | ⟨n, q⟩
        · refine .inr ⟨?_, c, rfl⟩
          rw [← h3, show upL loc1 i p j = p from if_pos e]
        · exact .inl ⟨j, t, c', q, h2, by rw [← h3]; exact (if_neg n).symm⟩
  · cases hp
theorem put_all : ∀ {is : List Nat} {rs : List Rv} {vs : List V} {as : List Addr} {ρ1 : Env} {loc1 : Loc} {σ1 : St}, Go ρ loc H Hf ρ1 loc1 H' Hf' → SOk W ρ1 loc1 σ1 H' Hf' → RvsOk W H H' Hf' vs rs as → (∀ a ∈ as, ¬ IsOwn ρ1 loc1 a) → putVs is rs ρ1 = some ρ2 →
    ∃ loc2, Go ρ loc H Hf ρ2 loc2 H' Hf' ∧ SOk W ρ2 loc2 (setAll σ1 is vs) H' Hf'
  | [], [], vs, as, ρ1, loc1, σ1, g, s, o, no, h => by
    cases h; cases o
    exact ⟨loc1, g, s⟩
  | [], _ :: _, _, _, _, _, _, _, _, _, _, h => by cases h
  | _ :: _, [], _, _, _, _, _, _, _, _, _, h => by cases h
  | i :: is, r :: rs, vs, as, ρ1, loc1, σ1, g, s, o, no, h => by
    unfold putVs at h
    obtain ⟨ρ3, q1, q2⟩ := Option.bind_eq_some_iff.mp h
    cases o with
    | imm r t =>
      obtain ⟨loc2, g2, s2, w⟩ := put_more g s q1 (.inl ⟨_, rfl, r⟩)
      have fin := put_all g2 s2 t (fun a ha z => (w a z).elim (no a ha) fun ⟨_, _, e⟩ => by cases e) q2
      exact fin
    | own h0 hf oo hn t =>
      rename_i p c vs as
      obtain ⟨loc2, g2, s2, w⟩ := put_more g s q1 (.inr ⟨p, c, rfl, rfl, h0, hf, oo, no p List.mem_cons_self⟩)
      have fin := put_all g2 s2 t (fun a ha z => (w a z).elim (no a (List.mem_cons_of_mem _ ha)) fun ⟨z, _⟩ => by cases z; exact hn ha) q2
      exact fin
end
/-- x, y, .. = e1, e2, .. -/
def parS (is : List Nat) (F : Fxs) : Fs := fun ρ => (F ρ).bind fun x => (putVs is x.1 x.2).map fun ρ' => (.nx, ρ')
section
variable {X : Cx} {a b c : Expr}
theorem par_core {W : Wd} {is : List Nat} {F : Fxs} {D : Ends} {σ : St} {H : Hp} {T : List V → Hp → Prop} (h : tS W (parS is F) D σ H) (hT : ∀ vs H', vs.length = is.length → D.nx (setAll σ is vs) H' → T vs H') : tXs W F σ H T := by
  obtain ⟨ρ, loc, Hf, fl, ρ', s, hF, k⟩ := h
  unfold parS at hF
  obtain ⟨⟨rs, ρ1⟩, q1, hF⟩ := Option.bind_eq_some_iff.mp hF
  obtain ⟨ρ2, q2, q3⟩ := Option.map_eq_some_iff.mp hF
  cases q3
  refine ⟨ρ, loc, Hf, rs, ρ1, s, q1, fun vs as H' Hf' g s' o => hT vs H' ?_ ?_⟩
  · rw [o.len]
    clear k q1 o s' g
    have : ∀ (is : List Nat) (rs : List Rv) (ρ ρ' : Env), putVs is rs ρ = some ρ' → rs.length = is.length := fun is => by
      induction is with
      | nil => intro rs ρ ρ' h; cases rs with
        | nil => rfl
        | cons _ _ => cases h
      | cons i is ih => intro rs ρ ρ' h; cases rs with
        | nil => cases h
        | cons r rs =>
          unfold putVs at h
          obtain ⟨ρ3, _, q⟩ := Option.bind_eq_some_iff.mp h
          exact congrArg (· + 1) (ih rs _ _ q)
    exact this _ _ _ _ q2
  · obtain ⟨loc2, g2, s2⟩ := put_all g.go s' o (fun a ha z => s.newNot (o.new a ha) (g.isOwn z)) q2
    exact k _ loc2 H' Hf' g2 s2
theorem pst_par2 {k : Nat} {i j : Nat} {x y : Str} {F : Fxs} {px py pt pos : Pos} {kt k2 pt2} (q : Cq X k) (hi : X.N[i]? = some x) (hj : X.N[j]? = some y) (hij : i ≠ j)
    (hx : X.env.scope.names.lookup x = some .local) (hy : X.env.scope.names.lookup y = some .local) (ha : PXs X [a, b] F)
    (hw : swappedStores [.Tuple [.Name x px, .Name y py] kt pt] (.Tuple [a, b] k2 pt2) X.env = pure (some [x, y])) (hs : swapsWithSole [.Tuple [.Name x px, .Name y py] kt pt] (.Tuple [a, b] k2 pt2) pos.line X.env = pure false) :
    PSt X (.Assign [.Tuple [.Name x px, .Name y py] kt pt] (.Tuple [a, b] k2 pt2) pos) (parS [i, j] F) := ps_imp (ps_par q.calm q.nd hi hj hij hx hy ha hw hs) fun D σ H h => par_core h fun vs H' l z => by
  match vs, l with
  | [v, w], _ => exact ⟨v, w, rfl, z⟩
theorem pst_par3 {k : Nat} {i j l : Nat} {x y z : Str} {F : Fxs} {px py pz pt pos : Pos} {kt k2 pt2} (q : Cq X k) (hi : X.N[i]? = some x) (hj : X.N[j]? = some y) (hl : X.N[l]? = some z) (hij : i ≠ j) (hil : i ≠ l) (hjl : j ≠ l)
    (hx : X.env.scope.names.lookup x = some .local) (hy : X.env.scope.names.lookup y = some .local) (hz : X.env.scope.names.lookup z = some .local) (ha : PXs X [a, b, c] F)
    (hw : swappedStores [.Tuple [.Name x px, .Name y py, .Name z pz] kt pt] (.Tuple [a, b, c] k2 pt2) X.env = pure (some [x, y, z])) (hs : swapsWithSole [.Tuple [.Name x px, .Name y py, .Name z pz] kt pt] (.Tuple [a, b, c] k2 pt2) pos.line X.env = pure false) :
    PSt X (.Assign [.Tuple [.Name x px, .Name y py, .Name z pz] kt pt] (.Tuple [a, b, c] k2 pt2) pos) (parS [i, j, l] F) := ps_imp (ps_par3 q.calm q.nd hi hj hl hij hil hjl hx hy hz ha hw hs) fun D σ H h => par_core h fun vs H' l z => by
  match vs, l with
  | [v, w, u], _ => exact ⟨v, w, u, rfl, z⟩
/-- names, one behind the other -/
def tNm (is : List Nat) : TGs := fun vs σ H Q => vs.length = is.length ∧ Q (setAll σ is vs) H
theorem pgn_nil : PGs X [] (tNm []) := pgs_imp pgs_nil fun vs σ H Q ⟨l, q⟩ => by
  cases vs with
  | nil => exact ⟨rfl, q⟩
  | cons _ _ => cases l
theorem pgn_cons {x : Str} {p : Pos} {i : Nat} {is : List Nat} {es : List Expr} {k : Nat} (q : Cq X k) (hi : X.N[i]? = some x) (hx : L2.Loc X.env.scope x) (hf : X.fn x = true ∨ X.env.scope.names.lookup x = some .local) (h : PGs X es (tNm is)) (hs : (assignEach (.Name x p :: es) X.env).map (·.2) = assign (.Name x p) X.env :: (assignEach es X.env).map (·.2)) : PGs X (.Name x p :: es) (tNm (i :: is)) :=
  pgs_imp (pgs_cons (pg_name q.nd hi hx hf) h hs) fun vs σ H Q ⟨l, z⟩ => by
    cases vs with
    | nil => cases l
    | cons v vs => exact ⟨v, vs, rfl, by simpa using l, z⟩
theorem RvsOk.toExt {W : Wd} {H H1 Hf1 : Hp} {p : Addr} {u : HO} {vs : List V} {rs : List Rv} {as : List Addr} (hp : H1 p = none) (o : RvsOk W H H1 Hf1 vs rs as) : RvsOk W H (upd H1 p u) Hf1 vs rs as :=
  o.ext fun a x h => by rw [upd_ne (ne_of_none h hp)]; exact h
theorem pst_parG {k : Nat} {is : List Nat} {ns es : List Expr} {F : Fxs} {pt pos : Pos} {kt k2 pt2} (q : Cq X k) (hn : PGs X ns (tNm is)) (ha : PXs X es F) (hz : is.length ≤ 100)
    (hst : (assignEach ns X.env).findIdx? (·.1) = none) (hnl : (assignEach ns X.env).length = is.length)
    (hs : swapsWithSole [.Tuple ns kt pt] (.Tuple es k2 pt2) pos.line X.env = pure false) (hw : swappedStores [.Tuple ns kt pt] (.Tuple es k2 pt2) X.env = pure none) (h1 : (assignEach [.Tuple ns kt pt] X.env).map (·.2) = [assign (.Tuple ns kt pt) X.env]) :
    PSt X (.Assign [.Tuple ns kt pt] (.Tuple es k2 pt2) pos) (parS is F) := ps_imp (ps_asg (pe_tup ha) (pg_tup q.calm hn hnl hst) hs hw h1) fun D σ H h => by
  obtain ⟨ρ, loc, Hf, fl, ρ', s, hF, kk⟩ := h
  unfold parS at hF
  obtain ⟨⟨rs, ρ1⟩, q1, hF⟩ := Option.bind_eq_some_iff.mp hF
  obtain ⟨ρ2, q2, q3⟩ := Option.map_eq_some_iff.mp hF
  cases q3
  have hlen : rs.length = is.length := by
    clear kk q1
    have : ∀ (is : List Nat) (rs : List Rv) (ρ ρ' : Env), putVs is rs ρ = some ρ' → rs.length = is.length := fun is => by
      induction is with
      | nil => intro rs ρ ρ' h; cases rs with
        | nil => rfl
        | cons _ _ => cases h
      | cons i is ih => intro rs ρ ρ' h; cases rs with
        | nil => cases h
        | cons r rs =>
          unfold putVs at h
          obtain ⟨ρ3, _, q⟩ := Option.bind_eq_some_iff.mp h
          exact congrArg (· + 1) (ih rs _ _ q)
    exact this _ _ _ _ q2
  refine ⟨ρ, loc, Hf, rs, ρ1, s, q1, fun vs as H' Hf' g s' o => ⟨by rw [o.len, hlen]; exact Nat.le_trans hz (by decide), fun p hp => ?_⟩⟩
  have E := Ext.newO s'.sub hp (.tup vs)
  have s3 := s'.ext E
  have g3 := g.trans E.ge
  have o3 := o.toExt (u := .tup vs) hp
  obtain ⟨loc2, g2, s2⟩ := put_all g3.go s3 o3 (fun a ha z => s.newNot (o.new a ha) (g3.isOwn z)) q2
  exact ⟨p, vs, rfl, SqT.of upd_same, o.len.trans hlen, o.len.trans hlen, kk _ loc2 _ Hf' g2 s2⟩
end
end Ev
/-! text Ev21 -/
set_option Elab.async false
set_option linter.all false
set_option maxRecDepth 100000
set_option maxHeartbeats 4000000
namespace Ev
open PySem L2

/-! ### what a text's walk is written with -/
structure Th where
  P : Program
  w : World
  K : PySem.W.Frag
  mg : Str → Option Value
  base : Heap
abbrev Th.W (Θ : Th) : Wd := ⟨Θ.K, Θ.mg⟩
def okSt (sc : Scope) (x : Str) : Bool := match sc.names.lookup x with
  | some .local => true
  | some .cell => true
  | _ => false
/-- sc: the scope as it is looked up, s0: as it is written (its own names may be stored) -/
structure In (Θ : Th) (N : List Str) (sc s0 : Scope) (k : Nat) (X : Cx) : Prop where
  prog : X.prog = Θ.P
  w : X.w = Θ.w
  K : X.K = Θ.K
  mg : X.mg = Θ.mg
  base : X.base = Θ.base
  N : X.N = N
  sc : X.env.scope = sc
  q : Cq X k
  st : ∀ x, okSt s0 x = true → L2.Loc X.env.scope x ∧ (X.fn x = true ∨ X.env.scope.names.lookup x = some .local)
theorem okSt_loc {sc : Scope} {x : Str} (h : okSt sc x = true) : L2.Loc sc x := by
  unfold okSt at h
  split at h
  · rename_i e; exact .inl e
  · rename_i e; exact .inr e
  · cases h
section
variable {Θ : Th} {N : List Str} {sc s0 : Scope} {k : Nat} {X : Cx}
theorem In.body {st : Stmt} (h1 : X.prog = Θ.P) (h2 : X.w = Θ.w) (h3 : X.K = Θ.K) (h4 : X.mg = Θ.mg) (h5 : X.base = Θ.base) (h6 : X.N = N) (h7 : X.env.scope = defScope st) (q : Cq X k) (hf : ∀ x, X.fn x = true) : In Θ N (defScope st) (defScope st) k X :=
  ⟨h1, h2, h3, h4, h5, h6, h7, q, fun x h => ⟨by rw [h7]; exact okSt_loc h, .inl (hf x)⟩⟩
theorem lookup_rel {scope sc : Scope} {x : Str} {kd : NameKind} (hk : kd ≠ .free) : ∀ {names : List (Str × NameKind)}, names.lookup x = some kd →
    (names.map fun (n, k) => if (k == NameKind.free && sc.kind == .function && sc.names.lookup n == some .cell) then (n, NameKind.cell) else (n, k)).lookup x = some kd
  | [], h => by simp at h
  | (n, k) :: r, h => by
    have ih := @lookup_rel scope sc x kd hk r
    show List.lookup x ((if (k == NameKind.free && sc.kind == .function && sc.names.lookup n == some .cell) = true then (n, NameKind.cell) else (n, k)) :: _) = _
    cases hx : x == n with
    | true =>
      simp only [List.lookup_cons, hx] at h
      cases h
      have hk' : (kd == NameKind.free) = false := by cases kd <;> first | rfl | exact absurd rfl hk
      rw [hk']
      simp [List.lookup_cons, hx]
    | false =>
      simp only [List.lookup_cons, hx] at h
      by_cases hc : (k == NameKind.free && sc.kind == .function && sc.names.lookup n == some .cell) = true
      · rw [if_pos hc]; simp only [List.lookup_cons, hx]; exact ih h
      · rw [if_neg hc]; simp only [List.lookup_cons, hx]; exact ih h
theorem In.blk (I : In Θ N sc s0 k X) (scope : Scope) (s : Shared) (H : Hp) (C : Addr) (cl : List (Str × Addr)) (fp : List Addr) : In Θ N (relS scope sc) scope k (X.blk s H scope (compEnvC scope cl C X.env) fp) where
  prog := I.prog
  w := I.w
  K := I.K
  mg := I.mg
  base := I.base
  N := I.N
  sc := by
    show relabel scope X.env = relS scope sc
    rw [← I.sc]; rfl
  q := I.q.blk s H scope _ fp
  st := fun x h => by
    have e : (X.blk s H scope (compEnvC scope cl C X.env) fp).env.scope = relS scope X.env.scope := rfl
    rw [e]
    rcases okSt_loc h with z | z
    · have := lookup_rel (scope := scope) (sc := X.env.scope) (x := x) (kd := .local) (by decide) z
      exact ⟨.inl this, .inr this⟩
    · have := lookup_rel (scope := scope) (sc := X.env.scope) (x := x) (kd := .cell) (by decide) z
      refine ⟨.inr this, .inl ?_⟩
      show (scope.names.lookup x == some .cell) = true
      rw [z]; rfl

/-- a name that is read, in slot i -/
def visB (N : List Str) (sc : Scope) (i : Nat) (x : Str) : Bool := decide (N[i]? = some x) && (match sc.names.lookup x with
  | some .local => true
  | some .cell => true
  | some .free => true
  | _ => false) && !(x == ("__debug__" : Str)) && !(x == ("__classdict__" : Str))
def stB (N : List Str) (s0 : Scope) (i : Nat) (x : Str) : Bool := decide (N[i]? = some x) && okSt s0 x
def glB (sc : Scope) (x : Str) : Bool := decide (sc.names.lookup x = some .globalImplicit)
def locB (N : List Str) (sc : Scope) (i : Nat) (x : Str) : Bool := decide (N[i]? = some x) && decide (sc.names.lookup x = some .local)
theorem In.pv (I : In Θ N sc s0 k X) {i : Nat} {x : Str} {pos : Pos} (h : visB N sc i x = true) : PE X (.Name x pos) (tVar i) := by
  unfold visB at h
  simp only [Bool.and_eq_true, decide_eq_true_eq, Bool.not_eq_true'] at h
  obtain ⟨⟨⟨h1, h2⟩, h3⟩, h4⟩ := h
  refine pe_var (by rw [I.N]; exact h1) ?_ h3 h4
  unfold Vis
  rw [I.sc]
  split at h2
  · rename_i e; exact .inl e
  · rename_i e; exact .inr (.inl e)
  · rename_i e; exact .inr (.inr e)
  · cases h2
theorem In.gl (I : In Θ N sc s0 k X) {x : Str} (h : glB sc x = true) : Gl X x := by
  unfold Gl PySem.Env.kindOf
  rw [I.sc]
  exact of_decide_eq_true h
theorem In.st2 (I : In Θ N sc s0 k X) {i : Nat} {x : Str} (h : stB N s0 i x = true) : X.N[i]? = some x ∧ L2.Loc X.env.scope x ∧ (X.fn x = true ∨ X.env.scope.names.lookup x = some .local) := by
  unfold stB at h
  rw [Bool.and_eq_true, decide_eq_true_eq] at h
  exact ⟨by rw [I.N]; exact h.1, I.st x h.2⟩
theorem In.loc2 (I : In Θ N sc s0 k X) {i : Nat} {x : Str} (h : locB N sc i x = true) : X.N[i]? = some x ∧ X.env.scope.names.lookup x = some .local := by
  unfold locB at h
  rw [Bool.and_eq_true, decide_eq_true_eq, decide_eq_true_eq] at h
  exact ⟨by rw [I.N]; exact h.1, by rw [I.sc]; exact h.2⟩
theorem In.m0 (I : In Θ N sc s0 k X) {x : Str} (h : Θ.mg x = none) : X.mg x = none := by rw [I.mg]; exact h
theorem In.hu (I : In Θ N sc s0 k X) : X.A.units + 65 < cLine := by have := I.q.room.un; omega

/-! names, constants -/
theorem s_r (I : In Θ N sc s0 k X) {i : Nat} {x : Str} {pos : Pos} (h : visB N sc i x = true) : PR X (.Name x pos) (varR i) := pr_var (I.pv h)
theorem s_d (I : In Θ N sc s0 k X) {i : Nat} {x : Str} {pos : Pos} (h : visB N sc i x = true) : PD X (.Name x pos) (varD i) := pd_var (I.pv h)
theorem s_int {i : Int} {j pos} : PD X (.Constant (.int i) j pos) (constF (.int i)) := pd_const pe_int fun _ _ => .int i
theorem s_str {x : Str} {j pos} : PD X (.Constant (.str x) j pos) (constF (.str x)) := pd_const pe_str fun _ _ => .str x
theorem s_bl {b : Bool} {j pos} : PD X (.Constant (.bool b) j pos) (constF (.bl b)) := pd_const pe_bl fun _ _ => .bl b
theorem s_non {j pos} : PD X (.Constant .none j pos) (constF .non) := pd_const pe_non fun _ _ => .non
/-- a module's constant -/
structure GlC (Θ : Th) (x : Str) (v : V) : Prop where
  ex : ∃ u, Θ.mg x = some u ∧ RelV v u
theorem s_gint (I : In Θ N sc s0 k X) {x : Str} {i : Int} {pos : Pos} (hg : glB sc x = true) (c : GlC Θ x (.int i)) (hd : (x == ("__debug__" : Str)) = false) : PD X (.Name x pos) (constF (.int i)) := by
  obtain ⟨u, h1, h2⟩ := c.ex
  exact pd_const (pe_glob (I.gl hg) (by rw [I.mg]; exact h1) h2 hd) fun _ _ => .int i
theorem s_gstr (I : In Θ N sc s0 k X) {x : Str} {z : Str} {pos : Pos} (hg : glB sc x = true) (c : GlC Θ x (.str z)) (hd : (x == ("__debug__" : Str)) = false) : PD X (.Name x pos) (constF (.str z)) := by
  obtain ⟨u, h1, h2⟩ := c.ex
  exact pd_const (pe_glob (I.gl hg) (by rw [I.mg]; exact h1) h2 hd) fun _ _ => .str z

/-! operators -/
section
variable {a b c e o : Expr} {FA FB FC : Fr} {pos : Pos}
theorem s_add (ha : PR X a FA) (hb : PR X b FB) : PX X (.BinOp a .Add b pos) (binF addD FA FB) := px_bin op_addD (dop_add (W := wd X)) ha hb
theorem s_sub (ha : PR X a FA) (hb : PR X b FB) : PX X (.BinOp a .Sub b pos) (binF (intOp subI) FA FB) := px_bin op_subD (dop_sub (W := wd X)) ha hb
theorem s_mul (ha : PR X a FA) (hb : PR X b FB) : PX X (.BinOp a .Mult b pos) (binF mulD' FA FB) := px_bin op_mulD (dop_mul (W := wd X)) ha hb
theorem s_fdiv (ha : PR X a FA) (hb : PR X b FB) : PX X (.BinOp a .FloorDiv b pos) (binF (intOp fdivI) FA FB) := px_bin op_fdivD (dop_fdiv (W := wd X)) ha hb
theorem s_mod (ha : PR X a FA) (hb : PR X b FB) : PX X (.BinOp a .Mod b pos) (binF (intOp modI) FA FB) := px_bin op_modN (dop_mod (W := wd X)) ha hb
theorem s_pow (ha : PR X a FA) (hb : PR X b FB) : PX X (.BinOp a .Pow b pos) (binF (intOp powI) FA FB) := px_bin op_pow (dop_pow (W := wd X)) ha hb
theorem s_neg {i : Int} {j p2 : _} : PD X (.UnaryOp .USub (.Constant (.int i) j p2) pos) (constF (.int (-i))) := pe_imp (pe_un un_neg pe_int) fun σ H Q ⟨ρ, loc, Hf, d', ρ', s, hF, k⟩ => by
  cases hF
  exact ⟨i, rfl, k _ H Hf .refl s (.int _)⟩
/-- the comparisons' rules, as one -/
structure CmpR (op : CmpOp) (f : D → D → Option Bool) : Prop where
  ex : ∀ X : Cx, X.A.units + 65 < cLine → ∃ r, OpR X (compareOp op) r ∧ DOpB (wd X) r f
  nm : ∀ b, behindInMarks op b = false
theorem c_eq : CmpR .Eq eqD := ⟨fun X hu => ⟨_, op_eq.or (op_eqD (by omega)), dop_eq (W := wd X)⟩, fun b => nomark b⟩
theorem c_ne : CmpR .NotEq neD := ⟨fun X hu => ⟨_, op_ne.or (op_neD (by omega)), dop_ne (W := wd X)⟩, fun b => nomark b⟩
theorem c_lt : CmpR .Lt (cmpI fun i j => decide (i < j)) := ⟨fun X _ => ⟨_, op_lt, dop_cmpI (W := wd X)⟩, fun b => nomark b⟩
theorem c_le : CmpR .LtE (cmpI fun i j => decide (i ≤ j)) := ⟨fun X _ => ⟨_, op_le, dop_cmpI (W := wd X)⟩, fun b => nomark b⟩
theorem c_gt : CmpR .Gt (cmpI fun i j => decide (i > j)) := ⟨fun X _ => ⟨_, op_gt, dop_cmpI (W := wd X)⟩, fun b => nomark b⟩
theorem c_ge : CmpR .GtE (cmpI fun i j => decide (i ≥ j)) := ⟨fun X _ => ⟨_, op_ge, dop_cmpI (W := wd X)⟩, fun b => nomark b⟩
theorem c_is : CmpR .Is isD := ⟨fun X _ => ⟨_, op_isN.or op_isBl, dop_is (W := wd X)⟩, fun b => nomark b⟩
theorem c_isnot : CmpR .IsNot isNotD := ⟨fun X _ => ⟨_, op_notN.or op_notBl, dop_isNot (W := wd X)⟩, fun b => nomark b⟩
theorem sb_cmp (I : In Θ N sc s0 k X) {op : CmpOp} {f : D → D → Option Bool} (c : CmpR op f) (ha : PR X a FA) (hb : PR X b FB) : PB X (.Compare a [op] [b] pos) (binB f FA FB) := by
  obtain ⟨r, h1, h2⟩ := c.ex X I.hu
  exact pb_cmp h1 h2 ha hb (c.nm b)
theorem sd_cmp (I : In Θ N sc s0 k X) {op : CmpOp} {f : D → D → Option Bool} (c : CmpR op f) (ha : PR X a FA) (hb : PR X b FB) : PD X (.Compare a [op] [b] pos) (boolF (binB f FA FB)) := by
  obtain ⟨r, h1, h2⟩ := c.ex X I.hu
  exact pd_cmp h1 h2 ha hb (c.nm b)
theorem sb_in (I : In Θ N sc s0 k X) (ha : PR X a FA) (hb : PR X b FB) (hm : behindInMarks .In b = false) : PB X (.Compare a [.In] [b] pos) (binB inD FA FB) := pb_in I.hu ha hb hm
theorem sb_nin (I : In Θ N sc s0 k X) (ha : PR X a FA) (hb : PR X b FB) (hm : behindInMarks .NotIn b = false) : PB X (.Compare a [.NotIn] [b] pos) (binB ninD FA FB) := pb_nin I.hu ha hb hm
theorem sd_in (I : In Θ N sc s0 k X) (ha : PR X a FA) (hb : PR X b FB) (hm : behindInMarks .In b = false) : PD X (.Compare a [.In] [b] pos) (boolF (binB inD FA FB)) := pd_in I.hu ha hb hm
theorem sd_nin (I : In Θ N sc s0 k X) (ha : PR X a FA) (hb : PR X b FB) (hm : behindInMarks .NotIn b = false) : PD X (.Compare a [.NotIn] [b] pos) (boolF (binB ninD FA FB)) := pd_nin I.hu ha hb hm
theorem s_ix (I : In Θ N sc s0 k X) (ha : PR X a FA) (hb : PR X b FB) (hp : plainIx b = true) : PX X (.Subscript a b pos) (binF ixD FA FB) := px_ix (hu_of I.q.room) ha hb hp
end
end
end Ev
/-! text Ev22 -/
set_option Elab.async false
set_option linter.all false
set_option maxRecDepth 100000
set_option maxHeartbeats 4000000
namespace Ev
open PySem L2
theorem MtM.toR {X : Cx} {id : String} {r : V → List V → Hp → VK → Prop} (h : MtM X id r) : MtR X id r := h
section
variable {Θ : Th} {N : List Str} {sc s0 : Scope} {k : Nat} {X : Cx} {a b c e o : Expr} {es : List Expr} {FA FB FC : Fr} {FAs : Fa} {p pos : Pos}
theorem sb_chain (I : In Θ N sc s0 k X) {op op' : CmpOp} {f g : D → D → Option Bool} (c1 : CmpR op f) (c2 : CmpR op' g) (ha : PR X a FA) (hb : PR X b FB) (hc : PR X c FC) (hm : lastMarks [op, op'] [b, c] = false) : PB X (.Compare a [op, op'] [b, c] pos) (chainB f g FA FB FC) := by
  obtain ⟨r, h1, h2⟩ := c1.ex X I.hu
  obtain ⟨r', h3, h4⟩ := c2.ex X I.hu
  exact pb_chain h1 h3 h2 h4 ha hb hc hm
theorem sd_chain (I : In Θ N sc s0 k X) {op op' : CmpOp} {f g : D → D → Option Bool} (c1 : CmpR op f) (c2 : CmpR op' g) (ha : PR X a FA) (hb : PR X b FB) (hc : PR X c FC) (hm : lastMarks [op, op'] [b, c] = false) : PD X (.Compare a [op, op'] [b, c] pos) (boolF (chainB f g FA FB FC)) := by
  obtain ⟨r, h1, h2⟩ := c1.ex X I.hu
  obtain ⟨r', h3, h4⟩ := c2.ex X I.hu
  exact pd_chain h1 h3 h2 h4 ha hb hc hm
/-! the tests' arms -/
theorem sb_and {F G : Ft} {rest : List Expr} (ha : PB X a F) (hb : PW X (.BoolOp .And (b :: rest) pos) (tT (wd X) G)) : PW X (.BoolOp .And (a :: b :: rest) pos) (tT (wd X) (andB F G)) := pb_and ha hb
/-- a test that is a BoolOp -/
theorem sb_w {F : Ft} (h : PW X e (tT (wd X) F)) : PB X e F := h.pt

/-! calls of built-ins -/
structure BltR (x : Str) (f : List D → Option Rv) : Prop where
  ex : ∀ (X : Cx) (k : Nat), Cq X k → (∃ id r, CallR X (.builtin id) r ∧ DCall (wd X) r f ∧ bootBuiltins x = some (.builtin id)) ∨ ∃ T r, CallR X (.type T) r ∧ DCall (wd X) r f ∧ bootBuiltins x = some (.type T)
  nn : x ≠ "__name__"
  nd : (x == ("__debug__" : Str)) = false
theorem s_blt (I : In Θ N sc s0 k X) {x : Str} {f : List D → Option Rv} (B : BltR x f) (hg : glB sc x = true) (hm : Θ.mg x = none) (ha : PAs X (e :: es) FAs) (hs : (e :: es).all noStar = true) : PX X (.Call (.Name x p) (e :: es) [] pos) (callF f FAs) := by
  rcases B.ex X k I.q with ⟨id, r, h1, h2, h3⟩ | ⟨T, r, h1, h2, h3⟩
  · exact px_callB h1 h2 (I.gl hg) (I.m0 hm) h3 ha hs B.nn B.nd
  · exact px_callTy h1 h2 (I.gl hg) (I.m0 hm) h3 ha hs B.nn B.nd
theorem b_len : BltR "len" lenD := ⟨fun X k q => .inl ⟨_, _, call_len, dc_len (W := wd X), by rfl⟩, by decide, by decide⟩
theorem b_abs : BltR "abs" absD := ⟨fun X k q => .inl ⟨_, _, call_abs, dc_abs (W := wd X), by rfl⟩, by decide, by decide⟩
theorem b_max : BltR "max" maxD := ⟨fun X k q => .inl ⟨_, _, (call_max2 q.calm).or (cr_max q.calm), dc_max (W := wd X), by rfl⟩, by decide, by decide⟩
theorem b_min : BltR "min" minD := ⟨fun X k q => .inl ⟨_, _, (call_min2 q.calm).or (cr_min q.calm), dc_min (W := wd X), by rfl⟩, by decide, by decide⟩
theorem b_int : BltR "int" intD := ⟨fun X k q => .inr ⟨_, _, call_int1, dc_int (W := wd X), by rfl⟩, by decide, by decide⟩
theorem b_bool : BltR "bool" boolD := ⟨fun X k q => .inr ⟨_, _, call_bool1, dc_bool (W := wd X), by rfl⟩, by decide, by decide⟩
theorem b_str : BltR "str" strD := ⟨fun X k q => .inr ⟨_, _, call_str_int, dc_str (W := wd X), by rfl⟩, by decide, by decide⟩
theorem b_list : BltR "list" listD := ⟨fun X k q => .inr ⟨_, _, call_list_of, dc_list (W := wd X), by rfl⟩, by decide, by decide⟩
theorem b_tuple : BltR "tuple" tupleD := ⟨fun X k q => .inr ⟨_, _, cr_tupF, dc_tuple (W := wd X), by rfl⟩, by decide, by decide⟩
theorem b_sum : BltR "sum" sumD := ⟨fun X k q => .inl ⟨_, _, cr_sum q.calm, dc_sum (W := wd X), by rfl⟩, by decide, by decide⟩
theorem b_any : BltR "any" anyLD := ⟨fun X k q => .inl ⟨_, _, cr_any q.calm, dc_any (W := wd X), by rfl⟩, by decide, by decide⟩
theorem b_all : BltR "all" allLD := ⟨fun X k q => .inl ⟨_, _, cr_all q.calm, dc_all (W := wd X), by rfl⟩, by decide, by decide⟩
theorem b_sorted : BltR "sorted" sortedD := ⟨fun X k q => .inl ⟨_, _, cr_sortedI, dc_sorted (W := wd X), by rfl⟩, by decide, by decide⟩
theorem b_repr : BltR "repr" reprD := ⟨fun X k q => .inl ⟨_, _, call_reprD q, dc_repr (W := wd X), by rfl⟩, by decide, by decide⟩
/-! own forms -/
theorem s_isi (I : In Θ N sc s0 k X) {n : String} {tn : Str} {pt : Pos} (hg : glB sc "isinstance" = true) (hm : Θ.mg "isinstance" = none) (hgt : glB sc tn = true) (hmt : Θ.mg tn = none) (hvt : bootBuiltins tn = some (.type n)) (ha : PR X a FA) (hs : noStar a = true)
    (hn2 : tn ≠ "__name__") (hd2 : (tn == ("__debug__" : Str)) = false) : PD X (.Call (.Name "isinstance" p) [a, .Name tn pt] [] pos) (isiF n FA) := px_isi (I.gl hg) (I.m0 hm) rfl (I.gl hgt) (I.m0 hmt) hvt ha hs hn2 hd2
theorem s_isis (I : In Θ N sc s0 k X) {ns : List String} {kt : Nat} {pt : Pos} (hg : glB sc "isinstance" = true) (hm : Θ.mg "isinstance" = none) (ht : Tys X es ns) (ha : PR X a FA) (hs : noStar a = true) (hl : ns.length ≤ 9) :
    PD X (.Call (.Name "isinstance" p) [a, .Tuple es kt pt] [] pos) (isisF ns FA) := px_isis (I.gl hg) (I.m0 hm) rfl ht ha hs hl
theorem s_tys (I : In Θ N sc s0 k X) {n : String} {tn : Str} {pt : Pos} {ns : List String} (hgt : glB sc tn = true) (hmt : Θ.mg tn = none) (hvt : bootBuiltins tn = some (.type n)) (hn2 : tn ≠ "__name__") (hd2 : (tn == ("__debug__" : Str)) = false) (t : Tys X es ns) : Tys X (.Name tn pt :: es) (n :: ns) :=
  .cons (I.gl hgt) (I.m0 hmt) hvt hn2 hd2 t
theorem s_lstRg (I : In Θ N sc s0 k X) {F : Fd} {p2 pos2 : Pos} (hg : glB sc "list" = true) (hm : Θ.mg "list" = none) (hg2 : glB sc "range" = true) (hm2 : Θ.mg "range" = none) (ha : PD X a F) (hs : noStar a = true) :
    PX X (.Call (.Name "list" p) [.Call (.Name "range" p2) [a] [] pos2] [] pos) (lstRg1 F) := px_lstRg1 I.q.calm (I.gl hg) (I.m0 hm) (I.gl hg2) (I.m0 hm2) ha hs
theorem s_tupRg (I : In Θ N sc s0 k X) {F : Fd} {p2 pos2 : Pos} (hg : glB sc "tuple" = true) (hm : Θ.mg "tuple" = none) (hg2 : glB sc "range" = true) (hm2 : Θ.mg "range" = none) (ha : PD X a F) (hs : noStar a = true) :
    PX X (.Call (.Name "tuple" p) [.Call (.Name "range" p2) [a] [] pos2] [] pos) (tupRg1 F) := px_tupRg1 I.q.calm (I.gl hg) (I.m0 hm) (I.gl hg2) (I.m0 hm2) ha hs
theorem s_rg1 (I : In Θ N sc s0 k X) {tg : Expr} (hg : glB sc "range" = true) (hm : Θ.mg "range" = none) (ha : PAs X [a] FAs) (hs : noStar a = true) : PIt X tg (.Call (.Name "range" p) [a] [] pos) (rngF rng1 FAs) := pit_rng1 (I.gl hg) (I.m0 hm) ha hs
theorem s_rg2 (I : In Θ N sc s0 k X) {tg : Expr} (hg : glB sc "range" = true) (hm : Θ.mg "range" = none) (ha : PAs X [a, b] FAs) (hs : noStar a = true) (hs2 : noStar b = true) : PIt X tg (.Call (.Name "range" p) [a, b] [] pos) (rngF rng2 FAs) := pit_rng2 (I.gl hg) (I.m0 hm) ha hs hs2
theorem s_rg3 (I : In Θ N sc s0 k X) {tg : Expr} (hg : glB sc "range" = true) (hm : Θ.mg "range" = none) (ha : PAs X [a, b, c] FAs) (hs : noStar a = true) (hs2 : noStar b = true) (hs3 : noStar c = true) : PIt X tg (.Call (.Name "range" p) [a, b, c] [] pos) (rngF rng3 FAs) := pit_rng3 (I.gl hg) (I.m0 hm) ha hs hs2 hs3
theorem s_enum (I : In Θ N sc s0 k X) {FL : Fl} {tpos : Pos} {elts : List Expr} {kk : Nat} (hg : glB sc "enumerate" = true) (hm : Θ.mg "enumerate" = none) (ha : PLs X [e] FL) (hs : noStar e = true) :
    PIt X (.Tuple elts kk tpos) (.Call (.Name "enumerate" p) [e] [] pos) (enumF FL) := pit_enum (I.gl hg) (I.m0 hm) ha hs
/-! methods -/
theorem s_append {FL : Fl} {apos : Pos} (ho : PR X o FA) (ha : PLs X [e] FL) (hr : plainRecv o = true) (hs : ([e] : List Expr).all noStar = true) (hl : (apos.endLine == pos.line) = true) : PX X (.Call (.Attribute o "append" apos) [e] [] pos) (mutF appendG FA FL) :=
  px_mut PySem.F.slot_list_append PySem.F.type_list_append (MtM.toR mt_append) (dm_append (W := wd X)) ho ha hr hs (by simp) hl
theorem s_extend {FL : Fl} {apos : Pos} (ho : PR X o FA) (ha : PLs X [e] FL) (hr : plainRecv o = true) (hs : ([e] : List Expr).all noStar = true) (hl : (apos.endLine == pos.line) = true) : PX X (.Call (.Attribute o "extend" apos) [e] [] pos) (mutF extendG FA FL) :=
  px_mut PySem.F.slot_list_extend PySem.F.type_list_extend (MtM.toR mt_extend) (dm_extend (W := wd X)) ho ha hr hs (by simp) hl
theorem s_popAt {FL : Fl} {apos : Pos} (ho : PR X o FA) (ha : PLs X [e] FL) (hr : plainRecv o = true) (hs : ([e] : List Expr).all noStar = true) (hl : (apos.endLine == pos.line) = true) : PX X (.Call (.Attribute o "pop" apos) [e] [] pos) (mutF popAtG FA FL) :=
  px_mut PySem.F.slot_list_pop PySem.F.type_list_pop (MtM.toR mt_popAt) (dm_popAt (W := wd X)) ho ha hr hs (by simp) hl
theorem s_pop {apos : Pos} (ho : PR X o FA) (hr : plainRecv o = true) (hl : (apos.endLine == pos.line) = true) : PX X (.Call (.Attribute o "pop" apos) [] [] pos) (mut0F popG FA) :=
  px_mut0 PySem.F.slot_list_pop PySem.F.type_list_pop (MtM.toR mt_pop) (dm_pop (W := wd X)) ho hr hl
theorem s_reverse {apos : Pos} (ho : PR X o FA) (hr : plainRecv o = true) (hl : (apos.endLine == pos.line) = true) : PX X (.Call (.Attribute o "reverse" apos) [] [] pos) (mut0F reverseG FA) :=
  px_mut0 PySem.F.slot_list_reverse PySem.F.type_list_reverse (MtM.toR mt_reverse) (dm_reverse (W := wd X)) ho hr hl
theorem s_clear {apos : Pos} (ho : PR X o FA) (hr : plainRecv o = true) (hl : (apos.endLine == pos.line) = true) : PX X (.Call (.Attribute o "clear" apos) [] [] pos) (mut0F clearG FA) :=
  px_mut0 PySem.F.slot_list_clear PySem.F.type_list_clear (MtM.toR mt_clear) (dm_clear (W := wd X)) ho hr hl
theorem s_insert {FL : Fl} {apos : Pos} (ho : PR X o FA) (ha : PLs X [e, a] FL) (hr : plainRecv o = true) (hs : ([e, a] : List Expr).all noStar = true) (hl : (apos.endLine == pos.line) = true) : PX X (.Call (.Attribute o "insert" apos) [e, a] [] pos) (mutF insertG FA FL) :=
  px_mut PySem.F.slot_list_insert PySem.F.type_list_insert mt_insert (dm_insert (W := wd X)) ho ha hr hs (by simp) hl
theorem s_index (I : In Θ N sc s0 k X) {apos : Pos} (ho : PR X o FA) (ha : PR X a FB) (hr : plainRecv o = true) (hs : noStar a = true) (hl : (apos.endLine == pos.line) = true) : PD X (.Call (.Attribute o "index" apos) [a] [] pos) (idxF FA FB) := px_idx I.q ho ha hr hs hl
end
end Ev
/-! text Ev23 -/
set_option Elab.async false
set_option linter.all false
set_option maxRecDepth 100000
set_option maxHeartbeats 4000000
namespace Ev
open PySem L2

/-! ### defs of the text -/
structure FnAt (Θ : Th) (x : Str) (n : Nat) (ks : List Str) (k : Nat) (F : Fn) : Prop where
  ex : ∃ f, Θ.mg x = some (.ref f) ∧ PySem.W.keepIn Θ.K (.ref f) = true ∧ CallOk Θ.P Θ.w Θ.K Θ.mg Θ.base k f n ks (spF Θ.W F)
theorem FnAt.mono {Θ : Th} {x : Str} {n : Nat} {ks : List Str} {j k : Nat} {F : Fn} (c : FnAt Θ x n ks j F) (h : j ≤ k) : FnAt Θ x n ks k F :=
  let ⟨f, h1, h2, h3⟩ := c.ex
  ⟨f, h1, h2, h3.mono h⟩
/-- the def st stands there under the name x -/
structure DefB (Θ : Th) (x qual : Str) (st : Stmt) (N ps : List Str) (n : Nat) (ks : List Str) (gV : List V → List V) (gA : List Ar → List Ar) : Prop where
  ex : ∃ f, Θ.mg x = some (.ref f) ∧ PySem.W.keepIn Θ.K (.ref f) = true ∧ DefAt Θ.K f qual st N ps n ks gV
  g : GOk gV gA
theorem mkFn {Θ : Th} {x qual : Str} {st : Stmt} {N ps : List Str} {n k : Nat} {ks : List Str} {gV : List V → List V} {gA : List Ar → List Ar} {B : Fs} (D : DefB Θ x qual st N ps n ks gV gA)
    (hb : ∀ X, In Θ N (defScope st) (defScope st) k X → PSts X (defBody st) B) : FnAt Θ x n ks (k + 1) (fun as => bodyF N.length ps.length B (gA as)) := by
  obtain ⟨f, h1, h2, d⟩ := D.ex
  exact ⟨f, h1, h2, def_ok d D.g fun X a b c d e f g q hf => hb X (.body a b c d e f g q hf)⟩

section
variable {Θ : Th} {N : List Str} {sc s0 : Scope} {k : Nat} {X : Cx} {a b c e o : Expr} {es : List Expr} {FA FB FC : Fr} {FAs : Fa} {p pos : Pos}
theorem In.call (I : In Θ N sc s0 k X) {x : Str} {n j : Nat} {ks : List Str} {F : Fn} (c : FnAt Θ x n ks j F) (hj : j ≤ k) : ∃ f, X.mg x = some (.ref f) ∧ PySem.W.keepIn X.K (.ref f) = true ∧ CallOk X.prog X.w X.K X.mg X.base k f n ks (spF (wd X) F) := by
  obtain ⟨f, h1, h2, h3⟩ := c.ex
  have e : wd X = Θ.W := by
    show (⟨X.K, X.mg⟩ : Wd) = ⟨Θ.K, Θ.mg⟩
    rw [I.K, I.mg]
  refine ⟨f, by rw [I.mg]; exact h1, by rw [I.K]; exact h2, ?_⟩
  rw [e, I.prog, I.w, I.K, I.mg, I.base]
  exact h3.mono hj
theorem s_call (I : In Θ N sc s0 k X) {x : Str} {j : Nat} {F : Fn} (c : FnAt Θ x (e :: es).length [] j F) (hj : j ≤ k) (hg : glB sc x = true) (ha : PAs X (e :: es) FAs) (hs : (e :: es).all noStar = true) (hdb : (x == ("__debug__" : Str)) = false) :
    PX X (.Call (.Name x p) (e :: es) [] pos) (userF (e :: es).length F FAs) := by
  obtain ⟨f, h1, h2, h3⟩ := I.call c hj
  exact px_call I.q (I.gl hg) h1 h2 h3 ha hs hdb
theorem s_call0 (I : In Θ N sc s0 k X) {x : Str} {j : Nat} {F : Fn} (c : FnAt Θ x 0 [] j F) (hj : j ≤ k) (hg : glB sc x = true) (hdb : (x == ("__debug__" : Str)) = false) :
    PX X (.Call (.Name x p) [] [] pos) (userF 0 F nilA) := by
  obtain ⟨f, h1, h2, h3⟩ := I.call c hj
  exact px_call0 I.q (I.gl hg) h1 h2 h3 hdb
theorem s_callK (I : In Θ N sc s0 k X) {x : Str} {j : Nat} {F : Fn} {kws : List Keyword} {ks : List Str} {FBs : Fa} (c : FnAt Θ x (e :: es).length ks j F) (hj : j ≤ k) (hg : glB sc x = true) (ha : PAs X (e :: es) FAs) (hb : PKs X kws FBs) (hs : (e :: es).all noStar = true)
    (hks : kws.map (·.arg) = ks.map some) (hdb : (x == ("__debug__" : Str)) = false) :
    PX X (.Call (.Name x p) (e :: es) kws pos) (userF ((e :: es).length + ks.length) F (appA (chkA (e :: es).length FAs) (chkA ks.length FBs))) := by
  obtain ⟨f, h1, h2, h3⟩ := I.call c hj
  exact px_callK I.q (I.gl hg) h1 h2 h3 ha hb hs hks hdb

/-! statements -/
theorem s_set (I : In Θ N sc s0 k X) {i : Nat} {x : Str} {F : Fe} {pos' : Pos} (h : stB N s0 i x = true) (he : PX X e F) (hs : swapsWith e (some (.Name x pos')) pos.line X.env = pure false) : PSt X (.Assign [.Name x pos'] e pos) (setS i F) := by
  obtain ⟨h1, h2, h3⟩ := I.st2 h
  exact pst_set I.q h1 h2 h3 he hs
theorem s_nm (I : In Θ N sc s0 k X) {i : Nat} {x : Str} (h : stB N s0 i x = true) : PG X (.Name x p) (tG (wd X) (.nm i)) := by
  obtain ⟨h1, h2, h3⟩ := I.st2 h
  exact pgt_name (pg_name I.q.nd h1 h2 h3)
theorem noStarT_cons {es : List Expr} {env : PySem.Env} (h : noStar e = true) : (assignEach (e :: es) env).map (·.2) = assign e env :: (assignEach es env).map (·.2) := by
  cases e <;> first | rfl | cases h
theorem s_tcons {ts : List Tg} {t : Tg} (h1 : PG X e (tG (wd X) t)) (h2 : PGs X es (tGs (wd X) ts)) (hs : noStar e = true) : PGs X (e :: es) (tGs (wd X) (t :: ts)) := pgt_cons h1 h2 (noStarT_cons hs)
theorem assignEach_len {env : PySem.Env} : ∀ {es : List Expr}, (assignEach es env).length = es.length
  | [] => rfl
  | e :: es => by
    have ih := @assignEach_len env es
    cases e <;> exact congrArg (· + 1) ih
theorem assignEach_plain {env : PySem.Env} : ∀ {es : List Expr}, es.all noStar = true → (assignEach es env).findIdx? (·.1) = none
  | [], _ => rfl
  | e :: es, h => by
    rw [List.all_cons, Bool.and_eq_true] at h
    have ih := @assignEach_plain env es h.2
    have : ∃ u, assignEach (e :: es) env = (false, u) :: assignEach es env := by
      obtain ⟨h1, _⟩ := h
      cases e <;> first | exact ⟨_, rfl⟩ | cases h1
    obtain ⟨u, hu⟩ := this
    rw [hu, List.findIdx?_cons]
    simp [ih]
theorem s_ttup (I : In Θ N sc s0 k X) {ts : List Tg} {kt : Nat} (h : PGs X es (tGs (wd X) ts)) (hs : es.all noStar = true) (hl : es.length = ts.length) : PG X (.Tuple es kt p) (tG (wd X) (.tp ts)) :=
  pgt_tup I.q.calm h (assignEach_len.trans hl) (assignEach_plain hs)
theorem s_for (I : In Θ N sc s0 k X) {tg : Expr} {t : Tg} {FI : Fi} {B : Fs} {body : List Stmt} (hi : PIt X tg e FI) (hg : PG X tg (tG (wd X) t)) (hb : PSts X body B) (hs : ∀ x, foldedSetIterable e X.env x = pure x) : PSt X (.For tg e body [] pos) (forS t FI B) :=
  pst_for I.q.own I.q.calm hi hg hb hs
theorem s_while (I : In Θ N sc s0 k X) (n : Nat) {T : Ft} {B : Fs} {body : List Stmt} (hc : PB X c T) (hb : PSts X body B) : PSt X (.While c body [] pos) (whileF T B n) := pst_while I.q.own hc hb
theorem s_comp (I : In Θ N sc s0 k X) {tg iter elt : Expr} {t : Tg} {FI : Fi} {T : Ft} {FE : Fd} {ifs : List Expr} {scope : Scope} {own : List (Str × Nat)} (hi : PIt X tg iter FI) (ok : blkC N sc scope own = true)
    (hb : ∀ Y, In Θ N (relS scope sc) scope k Y → PG Y tg (tG (wd Y) t) ∧ PTs Y ifs (tT (wd Y) T) ∧ PD Y elt FE) (hs : ∀ x, foldedSetIterable iter X.env x = pure x) : PX X (.ListComp elt [⟨tg, iter, ifs, 0⟩] scope pos) (compF t FI T FE (own.map (·.2))) :=
  px_comp I.q hi (by rw [I.N, I.sc]; exact ok) (fun s H C cl fp => hb _ (I.blk scope s H C cl fp)) hs
theorem s_setComp (I : In Θ N sc s0 k X) {i : Nat} {y : Str} {py spos : Pos} {tg iter elt : Expr} {t : Tg} {FI : Fi} {T : Ft} {FE : Fd} {ifs : List Expr} {scope : Scope} {own : List (Str × Nat)} (hy : locB N sc i y = true) (hkd : sc.kind = .function) (hli : (py.line == pos.line) = true)
    (hni : (scope.names.any fun (n, k) => n == y && (k == .local || k == .cell)) = false) (hi : PIt X tg iter FI) (ok : blkC N sc scope own = true)
    (hb : ∀ Y, In Θ N (relS scope sc) scope k Y → PG Y tg (tG (wd Y) t) ∧ PTs Y ifs (tT (wd Y) T) ∧ PD Y elt FE) (hs : ∀ x, foldedSetIterable iter X.env x = pure x) :
    PSt X (.Assign [.Name y py] (.ListComp elt [⟨tg, iter, ifs, 0⟩] scope pos) spos) (setS i (compF t FI T FE (own.map (·.2)))) := by
  obtain ⟨h1, h2⟩ := I.loc2 hy
  exact pst_setComp I.q h1 h2 (sw_true (by rw [I.sc]; exact hkd) h2 hli hni) hi (by rw [I.N, I.sc]; exact ok) (fun s H C cl fp => hb _ (I.blk scope s H C cl fp)) hs
theorem s_yes {Y : Cx} : PTs Y [] (tT (wd Y) yesT) := by
  refine ⟨fun pins s σ H Q I h => ?_⟩
  obtain ⟨ρ, loc, Hf, r, ρ', s, hF, kk⟩ := h
  cases hF
  exact pts_nil.run pins _ σ H Q I (kk H Hf .refl s)
theorem s_par2 (I : In Θ N sc s0 k X) {i j : Nat} {x y : Str} {F : Fxs} {px py pt : Pos} {kt k2 pt2} (hi : locB N sc i x = true) (hj : locB N sc j y = true) (hij : i ≠ j) (ha : PXs X [a, b] F)
    (hw : swappedStores [.Tuple [.Name x px, .Name y py] kt pt] (.Tuple [a, b] k2 pt2) X.env = pure (some [x, y])) (hs : swapsWithSole [.Tuple [.Name x px, .Name y py] kt pt] (.Tuple [a, b] k2 pt2) pos.line X.env = pure false) :
    PSt X (.Assign [.Tuple [.Name x px, .Name y py] kt pt] (.Tuple [a, b] k2 pt2) pos) (parS [i, j] F) := by
  obtain ⟨h1, h2⟩ := I.loc2 hi
  obtain ⟨h3, h4⟩ := I.loc2 hj
  exact pst_par2 I.q h1 h3 hij h2 h4 ha hw hs
theorem s_par3 (I : In Θ N sc s0 k X) {i j l : Nat} {x y z : Str} {F : Fxs} {px py pz pt : Pos} {kt k2 pt2} (hi : locB N sc i x = true) (hj : locB N sc j y = true) (hl : locB N sc l z = true) (hij : i ≠ j) (hil : i ≠ l) (hjl : j ≠ l) (ha : PXs X [a, b, c] F)
    (hw : swappedStores [.Tuple [.Name x px, .Name y py, .Name z pz] kt pt] (.Tuple [a, b, c] k2 pt2) X.env = pure (some [x, y, z])) (hs : swapsWithSole [.Tuple [.Name x px, .Name y py, .Name z pz] kt pt] (.Tuple [a, b, c] k2 pt2) pos.line X.env = pure false) :
    PSt X (.Assign [.Tuple [.Name x px, .Name y py, .Name z pz] kt pt] (.Tuple [a, b, c] k2 pt2) pos) (parS [i, j, l] F) := by
  obtain ⟨h1, h2⟩ := I.loc2 hi
  obtain ⟨h3, h4⟩ := I.loc2 hj
  obtain ⟨h5, h6⟩ := I.loc2 hl
  exact pst_par3 I.q h1 h3 h5 hij hil hjl h2 h4 h6 ha hw hs
theorem s_ncons (I : In Θ N sc s0 k X) {i : Nat} {x : Str} {is : List Nat} (h : stB N s0 i x = true) (t : PGs X es (tNm is)) : PGs X (.Name x p :: es) (tNm (i :: is)) := by
  obtain ⟨h1, h2, h3⟩ := I.st2 h
  exact pgn_cons I.q h1 h2 h3 t rfl
theorem s_parG (I : In Θ N sc s0 k X) {is : List Nat} {ns : List Expr} {F : Fxs} {pt : Pos} {kt k2 pt2} (hn : PGs X ns (tNm is)) (ha : PXs X es F) (hz : is.length ≤ 100) (hns : ns.all noStar = true) (hl : ns.length = is.length)
    (hw : swappedStores [.Tuple ns kt pt] (.Tuple es k2 pt2) X.env = pure none) : PSt X (.Assign [.Tuple ns kt pt] (.Tuple es k2 pt2) pos) (parS is F) :=
  pst_parG I.q hn ha hz (assignEach_plain hns) (assignEach_len.trans hl) rfl hw rfl
/-- target = value, as data, the value no tuple display -/
theorem s_asg {tg : Expr} {t : Tg} {F : Fd} (he : PD X e F) (hg : PG X tg (tG (wd X) t)) (hs : swapsWithSole [tg] e pos.line X.env = pure false) (hw : swappedStores [tg] e X.env = pure none) (hn : noStar tg = true) : PSt X (.Assign [tg] e pos) (asgS t F) :=
  pst_asg he hg hs hw (noStarT_cons hn)
theorem s_dput (I : In Θ N sc s0 k X) {FV FK : Fd} {FR : Fr} {i value : Expr} {pos' : Pos} (ho : PR X o FR) (hi : PD X i FK) (hv : PD X value FV) (hs : swapsWith value (some (.Subscript o i pos')) pos.line X.env = pure false) : PSt X (.Assign [.Subscript o i pos'] value pos) (dputS FV FR FK) := pst_dput I.q ho hi hv hs
end
end Ev
/-! text Ev24 -/
set_option Elab.async false
set_option linter.all false
set_option maxRecDepth 100000
set_option maxHeartbeats 4000000
namespace Ev
open PySem L2
theorem psts_one {X : Cx} {st : Stmt} {F : Fs} (h : PSt X st F) : PSts X [st] F := pss_one h
/-- further values that are not written: data -/
theorem arOk_imm {W : Wd} {loc : Loc} {H Hf : Hp} : ∀ {cv : List V} {cd : List D} (n : Nat), RpL W Hf cv cd → ArOk W loc H Hf n cv (cd.map Ar.imm)
  | _, _, _, .nil => trivial
  | _, _, n, .cons r t => ⟨r, arOk_imm (n + 1) t⟩
theorem arOk_app {W : Wd} {loc : Loc} {H Hf : Hp} {cv : List V} {cd : List D} (hc : RpL W Hf cv cd) : ∀ {vs : List V} {as : List Ar} (n : Nat), ArOk W loc H Hf n vs as → ArOk W loc H Hf n (vs ++ cv) (as ++ cd.map Ar.imm)
  | [], [], n, _ => arOk_imm n hc
  | v :: vs, .imm d :: as, n, h => ⟨h.1, arOk_app hc (n + 1) h.2⟩
  | v :: vs, .own c :: as, n, h => ⟨h.1, arOk_app hc (n + 1) h.2⟩
  | [], _ :: _, _, h => h.elim
  | _ :: _, [], _, h => h.elim
theorem isOwn_app {as : List Ar} {cd : List D} {i : Nat} (h : isOwnAr (as ++ cd.map Ar.imm) i = true) : isOwnAr as i = true := by
  unfold isOwnAr at h ⊢
  by_cases hi : i < as.length
  · rw [List.getElem?_append_left hi] at h; exact h
  · rw [List.getElem?_append_right (by omega), List.getElem?_map] at h
    cases e : cd[i - as.length]? with
    | none => rw [e] at h; cases h
    | some d => rw [e] at h; cases h
theorem csOk_app {W : Wd} {loc : Loc} {H Hf : Hp} {cd : List D} : ∀ {as : List Ar} {cs : List C} (n : Nat), CsOk W loc H Hf n (as ++ cd.map Ar.imm) cs → CsOk W loc H Hf n as cs
  | [], cs, n, h => by
    have h' : CsOk W loc H Hf n (cd.map Ar.imm) cs := h
    clear h
    induction cd generalizing n with
    | nil => exact h'
    | cons d cd ih =>
      have := ih (n + 1) h'
      cases cs with
      | nil => trivial
      | cons c cs => exact this.elim
  | .imm _ :: as, cs, n, h => csOk_app (n + 1) h
  | .own _ :: as, [], n, h => h.elim
  | .own _ :: as, c :: cs, n, h => ⟨h.1, csOk_app (n + 1) h.2⟩
theorem gOk_app {cv : List V} {cd : List D} (hc : ∀ W H, RpL W H cv cd) : GOk (fun vs => vs ++ cv) (fun as => as ++ cd.map Ar.imm) := fun W loc H Hf vs as _ h a =>
  ⟨loc, arOk_app (hc W Hf) 0 h, fun i j h1 h2 e => a i j (isOwn_app h1) (isOwn_app h2) e, fun x ⟨i, h1, h2⟩ => ⟨i, isOwn_app h1, h2⟩, fun _ _ _ h => csOk_app 0 h⟩
end Ev
namespace Ev
open PySem L2
def envOf (sc : Scope) : PySem.Env := { scope := sc, locals := 0, globals := 0, cells := [], qual := "", func := none, code := .none, frame := none, builtins := 0 }
theorem sw_of {t v : Expr} {env : PySem.Env} {sc : Scope} {r : Sem (Option (List Str))} (h : env.scope = sc) (e : swappedStores [t] v (envOf sc) = r) : swappedStores [t] v env = r := by
  rw [← e]
  subst h
  rfl
end Ev
/-! text Ev25 -/
set_option Elab.async false
set_option linter.all false
set_option maxRecDepth 100000
set_option maxHeartbeats 4000000
namespace Ev
open PySem PySem.Spec PyProof.Rows L2

/-! ### the law's end -/
theorem law_callD {P : Program} {w : World} {K : PySem.W.Frag} {mg mb : Str → Option Value} {k : Nat} {fa a : Addr} {s₁ : Shared} {vs : List Value} {ns : List Int} {F : Fn}
    (KX : K.In s₁.heap) (hns : s₁.heap.Ns mainGlobals mg) (hb : s₁.heap.Ns builtinsNs mb) (hbb : ∀ x : Str, x ≠ "__name__" → mb x = bootBuiltins x) (hlim : s₁.heap.NoLimit) (hg : s₁.gens = #[])
    (ha : s₁.heap.get? a = some { cls := .type "list", data := .seq vs.toArray }) (hi : IntsAre vs ns) (hl : ns.length ≤ sizeLine) (hr : Room k callerA)
    (C : ∀ base : Heap, K.In base → base.Ns mainGlobals mg → CallOk P w K mg base k fa 1 [] (spF ⟨K, mg⟩ F)) (hF : F [.imm (.scr ns)] = some (.imm (.bl true), [])) :
    codeAny (model P w) callerA (.call (.ref fa) ⟨[.ref a], []⟩) (fun r s' => r = .ok (.ret (.bool true)) ∧ OldK s₁.heap s'.heap ∧ s'.os = s₁.os ∧ AllBare s'.gens) s₁ := by
  have rv := vals_ints hi
  have lenV := hi.length
  have core : ∀ H : Hp, Only H → SqL K H a (ns.map V.int) → HOk P w H s₁.heap → (∀ b, H b ≠ none → b = a) → (H a ≠ none → K.lookup a = none) →
      codeAny (model P w) callerA (.call (.ref fa) ⟨[.ref a], []⟩) (fun r s' => r = .ok (.ret (.bool true)) ∧ OldK s₁.heap s'.heap ∧ s'.os = s₁.os ∧ AllBare s'.gens) s₁ := by
    intro H hO hS hok hA hK
    have atA : ∀ {b : Addr} {u : HO}, H b = some u → b = a := fun {b u} q => hA b (by rw [q]; simp)
    have base_of : ∀ {b : Addr} {o : Obj}, s₁.heap.get? b = some o → H b = none → (hidT s₁.heap H).get? b = some o := fun e n => hidT_get e n
    have noA : ∀ {b : Addr} {o : Obj} {es : Array DictEntry} {ep : Nat}, s₁.heap.get? b = some o → o.data = .dict es ep → H b = none := fun {b o es ep} e d => by
      cases q : H b with
      | none => rfl
      | some u =>
        have e' := atA q
        subst e'
        rw [ha] at e; cases e
        cases (show Data.seq vs.toArray _ = Data.dict es ep from d)
    have nsK : ∀ {b : Addr} {m : Str → Option Value}, s₁.heap.Ns b m → (hidT s₁.heap H).Ns b m := fun {b m} ⟨o, es, ep, e, d, r⟩ => ⟨o, es, ep, base_of e (noA e d), d, r⟩
    have hKb : K.In (hidT s₁.heap H) := fun b o e => base_of (KX b o e) (by
      cases q : H b with
      | none => rfl
      | some u =>
        have e' := atA q
        subst e'
        rw [hK (by rw [q]; simp)] at e; cases e)
    have hM : Mod K mg (hidT s₁.heap H) := ⟨hKb, nsK hns, ⟨mb, nsK hb, hbb⟩, let ⟨mc, h1, h2⟩ := hlim; ⟨mc, nsK h1, h2⟩⟩
    have e0 : Env0 P w K mg (hidT s₁.heap H) callerA [] s₁ H := ⟨rfl, hM, fun b o e => of_hidT e, Nat.le_of_eq (hidT_size _ _), trivial, fun b hb => absurd (show b ∈ ([] : List Addr) from hb) (by simp), hok, .of_eq hg⟩
    have hsp : spF ⟨K, mg⟩ F [.ref a] H (fun v _ => v = .bl true) E0 := ⟨H, fun _ => 0, [.imm (.scr ns)], .imm (.bl true), [], fun _ _ q => q, ⟨.scr hS, trivial⟩, fun i j h1 _ _ => by
        cases i with
        | zero => cases h1
        | succ i => simp [isOwnAr] at h1, hF, fun v H' Hf' _ _ o => by cases o; rfl⟩
    refine codeAny_mono ((C _ hKb (nsK hns)).run callerA [] s₁ H [.ref a] [] [.ref a] [] _ hr rfl e0 rfl rfl (.cons rfl .nil) .nil hsp) fun r s' h => ?_
    cases r with
    | error e => exact False.elim h
    | ok fl =>
      cases fl with
      | next => exact False.elim h
      | brk => exact False.elim h
      | cont => exact False.elim h
      | ret u =>
        obtain ⟨v, H', os, bare, un, hok', r', q⟩ := h
        have q' : v = .bl true := q
        subst q'
        obtain rfl : u = Value.bool true := r'
        refine ⟨rfl, OldK.of_keep fun b o e => ?_, os, bare⟩
        cases q : H b with
        | none => exact un.keep b o e q (by intro z; exact absurd (show b ∈ ([] : List Addr) from z) (by simp)) (by simp)
        | some u =>
          rcases hO b with z | ⟨ob, xs, z⟩
          · rw [q] at z; cases z
          · have z2 := un.frzs b ob _ z
            obtain ⟨e1, _⟩ := hok b _ z
            obtain ⟨e2, _⟩ := hok' b _ z2
            rw [e] at e1; cases e1
            exact e2
  cases hk : K.lookup a with
  | some o =>
    have e := KX a o hk
    rw [ha] at e
    cases e
    refine core (fun _ => none) (fun _ => .inl rfl) (.inr ⟨_, vs.toArray, _, hk, rfl, rfl, rfl, by rw [List.size_toArray, lenV]; exact hl, by simpa using rv⟩) (fun b u z => by cases (show (none : Option HO) = some u from z)) (fun b z => absurd rfl z) fun z => absurd rfl z
  | none =>
    refine core (fun b => if b = a then some (.frz { cls := .type "list", data := .seq vs.toArray } (.lst (ns.map V.int))) else none) (fun b => ?_) (.inl (.inr ⟨{ cls := .type "list", data := .seq vs.toArray }, if_pos rfl⟩)) (fun b u z => ?_) (fun b z => ?_) fun _ => hk
    · by_cases hb : b = a
      · exact .inr ⟨_, _, if_pos hb⟩
      · exact .inl (if_neg hb)
    · by_cases hb : b = a
      · have z' := (if_pos hb).symm.trans z
        cases z'
        subst hb
        exact ⟨ha, by rw [List.length_map]; exact hl, vs, _, rv, ha⟩
      · cases (if_neg hb).symm.trans z
    · by_cases hb : b = a
      · exact hb
      · exact absurd (if_neg hb) z
theorem walkD {l : PySem.W.OpenLaw} {n k : Nat} {q : Program} {loose : List Str} {XP : (Str → Option Value) → Heap → Prop} {YP : World → Heap → Prop} {d : DefRec} {K : Params → PySem.W.Frag} {F : Fn}
    (hn : l.most = some n) (hn2 : n ≤ sizeLine) (hdf : d.params.defaults = []) (hr : Room k callerA) (hY : ∀ (w : World) (h : Heap), YP w h → (K w.params).In h)
    (FF : ∀ (w : World) (mg : Str → Option Value) (h base : Heap), (K w.params).In h → h.Ns mainGlobals mg → FnAt ⟨l.prog, w, K w.params, mg, base⟩ d.name 1 [] k F) (hF : ∀ ns : List Int, ns.length ≤ n → F [.imm (.scr ns)] = some (.imm (.bl true), [])) :
    PySem.W.WalkO q loose XP YP l.row.toRowW d [] (fun f vs => PySem.call f vs) := by
  refine Att.attach_call hn hdf fun w s₀ s₁ mg mb fa o pm cd doc a vs ns G Y ho hd hcd hmg hobj hints hlen hg => ?_
  have KX := hY w _ Y
  refine law_callD KX G.T.g G.T.b G.T.builtins G.T.nolimit hg hobj hints (Nat.le_trans hlen hn2) hr (fun base hb hn => ?_) (hF ns hlen)
  obtain ⟨f, h1, h2, h3⟩ := (FF w mg s₁.heap base KX G.T.g).ex
  have e : some (Value.ref fa) = some (Value.ref f) := hmg.symm.trans h1
  cases e
  exact h3

/-! ### what the top has written -/
/-- by its facts, a def that is called with all its values, in order -/
theorem defB {Θ : Th} {h : Heap} {x : Str} {st : Stmt} {N ps ks : List Str} {n : Nat} {f : Addr} (X : Θ.K.In h) (G : h.Ns mainGlobals Θ.mg) {od an : Option Addr} {sl : Array (Option Value)} {oc kV dc pm cd ct : Value}
    (a : PySem.W.nsIn Θ.K mainGlobals x = some (some (.ref f))) (l : Θ.K.lookup f = some ⟨oc, od, .func (PySem.W.fnOf x x (defArgs st) (defBody st) (defScope st) .none kV dc pm an cd ct), sl⟩) (c : PySem.W.codeIn Θ.K cd x = true) (kp : PySem.W.keepIn Θ.K (.ref f) = true)
    (sc : FnScope N ps (defScope st)) (hn : n + ks.length = ps.length)
    (hb : ∀ (us ws : List Value), us.length = n → ws.length = ks.length → bindArgs (PySem.W.fnOf x x (defArgs st) (defBody st) (defScope st) .none kV dc pm an cd ct) ⟨us, ks.zip ws⟩ = pure (ps.zip (us ++ ws))) : DefB Θ x x st N ps n ks id id :=
  ⟨⟨f, PySem.W.mg_of X G a, kp, ⟨x, oc, od, .none, kV, dc, pm, an, cd, ct, sl, l, c, fun s us ws _ l1 l2 => ⟨us ++ ws, .of_eq (hb us ws l1 l2), by rw [List.length_append, l1, l2, hn], fun vs zs r1 r2 => r1.append r2⟩⟩, sc⟩, gOk_id⟩
end Ev
namespace Ev
open PySem PySem.Spec PyProof.Rows L2
/-- .. with n values written and its defaults (behind the first j) -/
theorem defBd {Θ : Th} {h : Heap} {x : Str} {st : Stmt} {N ps : List Str} {n j : Nat} {f T : Addr} {dvs cv : List V} {cd : List D} (X : Θ.K.In h) (G : h.Ns mainGlobals Θ.mg) {od an odT : Option Addr} {sl slT : Array (Option Value)} {oc ocT kV dc pm ct cdv : Value} {its : Array Value} {m : Nat}
    (a : PySem.W.nsIn Θ.K mainGlobals x = some (some (.ref f))) (l : Θ.K.lookup f = some ⟨oc, od, .func (PySem.W.fnOf x x (defArgs st) (defBody st) (defScope st) (.ref T) kV dc pm an cdv ct), sl⟩) (c : PySem.W.codeIn Θ.K cdv x = true) (kp : PySem.W.keepIn Θ.K (.ref f) = true)
    (lT : Θ.K.lookup T = some ⟨ocT, odT, .seq its m, slT⟩) (rT : Vals dvs its.toList) (sc : FnScope N ps (defScope st)) (hn : n + (dvs.length - j) = ps.length) (hcv : dvs.drop j = cv) (hc : ∀ W H, RpL W H cv cd)
    (hb : ∀ (us vs : List Value), us.length = n → vs.length = dvs.length → ∃ k, bindArgs (PySem.W.fnOf x x (defArgs st) (defBody st) (defScope st) (.ref T) kV dc pm an cdv ct) ⟨us, []⟩ = seqItems? (.ref T) >>= k ∧ k (some vs.toArray) = pure (ps.zip (us ++ vs.drop j))) :
    DefB Θ x x st N ps n [] (fun vs => vs ++ cv) (fun as => as ++ cd.map Ar.imm) :=
  ⟨⟨f, PySem.W.mg_of X G a, kp, ⟨x, oc, od, .ref T, kV, dc, pm, an, cdv, ct, sl, l, c, fun s us ws X2 l1 l2 => by
    have e : ws = [] := List.length_eq_zero_iff.mp l2
    subst e
    have hl : its.toList.length = dvs.length := rT.length.symm
    refine ⟨us ++ its.toList.drop j, BindsTo.of_looks fun M => ?_, by rw [List.length_append, List.length_drop, hl, l1, hn], fun vs zs r1 r2 => ?_⟩
    · obtain ⟨k, e1, e2⟩ := hb us its.toList l1 hl
      show PySem.W.Looks M s.heap (bindArgs _ ⟨us, []⟩) _
      rw [e1]
      have hd : (⟨ocT, odT, .seq its m, slT⟩ : Obj).data = .seq its.toList.toArray m := by
        show Data.seq its m = _
        rw [Array.toArray_toList]
      exact looks_items X2 lT hd (.of_pure e2)
    · cases r2
      rw [List.append_nil, ← hcv]
      exact r1.append (rT.drop j)⟩, sc⟩, gOk_app hc⟩
end Ev
/-! text Ev26 -/
set_option Elab.async false
set_option linter.all false
set_option maxRecDepth 100000
set_option maxHeartbeats 4000000
namespace Ev
open PySem L2

/-! ### reading the mirrors: plain Lean from here on -/
/-- keeps simp out of what follows -/
inductive Dm {α : Type} (Φ : α → Prop) : Type
  | mk
def Ok {α : Type} (o : Option α) (Φ : α → Prop) (_d : Dm Φ := .mk) : Prop := ∃ x, o = some x ∧ Φ x
@[simp] theorem Ok_some {α : Type} {x : α} {Φ : α → Prop} : Ok (some x) Φ ↔ Φ x := ⟨fun ⟨_, e, h⟩ => by cases e; exact h, fun h => ⟨x, rfl, h⟩⟩
@[simp] theorem Ok_none {α : Type} {Φ : α → Prop} : Ok (none : Option α) Φ ↔ False := ⟨fun ⟨_, e, _⟩ => (by cases e), fun h => False.elim h⟩
@[simp ↓] theorem Ok_bind {α β : Type} {o : Option α} {f : α → Option β} {Φ : β → Prop} : Ok (o.bind f) Φ ↔ Ok o fun x => Ok (f x) Φ := by
  cases o with
  | none => simp [Ok_none]
  | some x => simp [Ok_some]
@[simp ↓] theorem Ok_map {α β : Type} {o : Option α} {f : α → β} {Φ : β → Prop} : Ok (o.map f) Φ ↔ Ok o fun x => Φ (f x) := by
  cases o with
  | none => simp [Ok_none]
  | some x => simp [Ok_some]
theorem Ok_if {α : Type} {c : Prop} [Decidable c] {a b : Option α} {Φ : α → Prop} : Ok (if c then a else b) Φ ↔ (c → Ok a Φ) ∧ (¬ c → Ok b Φ) := by
  by_cases h : c <;> simp [h]
theorem Ok_iff {α : Type} {c : Prop} [Decidable c] {a : Option α} {Φ : α → Prop} : Ok (if c then a else none) Φ ↔ c ∧ Ok a Φ := by
  by_cases h : c <;> simp [h, Ok_none]
theorem Ok.imp {α : Type} {o : Option α} {Φ Ψ : α → Prop} (h : Ok o Φ) (k : ∀ x, Φ x → Ψ x) : Ok o Ψ := let ⟨x, e, q⟩ := h; ⟨x, e, k x q⟩
theorem Ok.eq {α : Type} {o : Option α} {x : α} (h : o = some x) {Φ : α → Prop} (k : Φ x) : Ok o Φ := ⟨x, h, k⟩
theorem Ok.get {α : Type} {o : Option α} {Φ : α → Prop} (h : Ok o Φ) : ∃ x, o = some x ∧ Φ x := h
theorem ok_eq {α : Type} {o : Option α} {x : α} (h : Ok o (· = x)) : o = some x := by
  obtain ⟨y, e, q⟩ := h
  exact q ▸ e

theorem Ok_ext {α : Type} {o : Option α} {Φ Ψ : α → Prop} (h : ∀ x, Φ x ↔ Ψ x) : Ok o Φ ↔ Ok o Ψ := ⟨fun q => q.imp fun x => (h x).mp, fun q => q.imp fun x => (h x).mpr⟩

/-! loops -/
theorem loopF_rel {t : Tg} {B : Fs} (P : List D → Env → Prop) (Q : Fw → Env → Prop) (step : ∀ d ds ρ, P (d :: ds) ρ → Ok (asg t d ρ) fun ρ1 => Ok (B ρ1) fun y => match y.1 with
    | .nx => P ds y.2
    | .ct => P ds y.2
    | .bk => Q .nx y.2
    | .rt r => Q (.rt r) y.2) (fin : ∀ ρ, P [] ρ → Q .nx ρ) : ∀ (ds : List D) (ρ : Env), P ds ρ → Ok (loopF t B ds ρ) fun y => Q y.1 y.2
  | [], ρ, h => Ok_some.mpr (fin ρ h)
  | d :: ds, ρ, h => by
    unfold loopF
    rw [Ok_bind]
    refine (step d ds ρ h).imp fun ρ1 h1 => ?_
    rw [Ok_bind]
    refine h1.imp fun y h2 => ?_
    obtain ⟨fl, ρ2⟩ := y
    cases fl with
    | nx => exact loopF_rel P Q step fin ds ρ2 h2
    | ct => exact loopF_rel P Q step fin ds ρ2 h2
    | bk => exact Ok_some.mpr h2
    | rt r => exact Ok_some.mpr h2
theorem whileF_rel {T : Ft} {B : Fs} (P : Nat → Env → Prop) (Q : Fw → Env → Prop) (step : ∀ m ρ, P m ρ → Ok (T ρ) fun x => if x.1 = true then Ok (B x.2) fun y => match y.1 with
    | .nx => ∃ m', m' < m ∧ P m' y.2
    | .ct => ∃ m', m' < m ∧ P m' y.2
    | .bk => Q .nx y.2
    | .rt r => Q (.rt r) y.2 else Q .nx x.2) : ∀ (n m : Nat) (ρ : Env), m < n → P m ρ → Ok (whileF T B n ρ) fun y => Q y.1 y.2
  | 0, m, ρ, hm, _ => absurd hm (Nat.not_lt_zero m)
  | n + 1, m, ρ, hm, h => by
    unfold whileF
    rw [Ok_bind]
    refine (step m ρ h).imp fun x h1 => ?_
    obtain ⟨z, ρ1⟩ := x
    cases z with
    | false => exact Ok_some.mpr h1
    | true =>
      simp only [if_true] at h1 ⊢
      rw [Ok_bind]
      refine h1.imp fun y h2 => ?_
      obtain ⟨fl, ρ2⟩ := y
      cases fl with
      | nx => obtain ⟨m', h3, h4⟩ := h2; exact whileF_rel P Q step n m' ρ2 (by omega) h4
      | ct => obtain ⟨m', h3, h4⟩ := h2; exact whileF_rel P Q step n m' ρ2 (by omega) h4
      | bk => exact Ok_some.mpr h2
      | rt r => exact Ok_some.mpr h2
/-- a comprehension without a test: what each turn makes; ρ stands wiped at each turn's begin -/
theorem lcF_rel {t : Tg} {FE : Fd} {vs : List Nat} (P : List D → List D → Env → Prop) (step : ∀ d ds acc ρ, P (d :: ds) acc ρ → Ok (asg t d ρ) fun ρ1 => Ok (FE ρ1) fun y => P ds (acc ++ [y.1]) (wipeE y.2 vs)) :
    ∀ (ds acc : List D) (ρ : Env), P ds acc ρ → Ok (lcF t yesT FE vs ds ρ) fun z => P [] (acc ++ z.1) z.2
  | [], acc, ρ, h => Ok_some.mpr (by rw [List.append_nil]; exact h)
  | d :: ds, acc, ρ, h => by
    unfold lcF
    rw [Ok_bind]
    refine (step d ds acc ρ h).imp fun ρ1 h1 => ?_
    rw [Ok_bind]
    refine Ok_some.mpr ?_
    simp only [if_true]
    rw [Ok_bind]
    refine h1.imp fun y h2 => ?_
    rw [Ok_map]
    refine (lcF_rel P step ds _ _ h2).imp fun z h3 => ?_
    rw [List.append_assoc] at h3
    exact h3
/-- .. with a test -/
theorem lcT_rel {t : Tg} {T : Ft} {FE : Fd} {vs : List Nat} (P : List D → List D → Env → Prop) (step : ∀ d ds acc ρ, P (d :: ds) acc ρ → Ok (asg t d ρ) fun ρ1 => Ok (T ρ1) fun x => if x.1 = true then Ok (FE x.2) fun y => P ds (acc ++ [y.1]) (wipeE y.2 vs) else P ds acc (wipeE x.2 vs)) :
    ∀ (ds acc : List D) (ρ : Env), P ds acc ρ → Ok (lcF t T FE vs ds ρ) fun z => P [] (acc ++ z.1) z.2
  | [], acc, ρ, h => Ok_some.mpr (by rw [List.append_nil]; exact h)
  | d :: ds, acc, ρ, h => by
    unfold lcF
    rw [Ok_bind]
    refine (step d ds acc ρ h).imp fun ρ1 h1 => ?_
    rw [Ok_bind]
    refine h1.imp fun x h1 => ?_
    obtain ⟨b, ρ2⟩ := x
    cases b with
    | true =>
      simp only [if_true] at h1 ⊢
      rw [Ok_bind]
      refine h1.imp fun y h2 => ?_
      rw [Ok_map]
      refine (lcT_rel P step ds _ _ h2).imp fun z h3 => ?_
      rw [List.append_assoc] at h3
      exact h3
    | false =>
      simp only [Bool.false_eq_true, if_false] at h1 ⊢
      exact lcT_rel P step ds acc _ h1
end Ev
/-! text Ev27 -/
set_option Elab.async false
set_option linter.all false
set_option maxRecDepth 100000
set_option maxHeartbeats 4000000
namespace Ev
open PySem L2

/-! ### the pen of the laws -/
def penK (cells : List Int) (s m : Int) : List (D × D) := [(.str "cells", .lst (cells.map D.int)), (.str "spot", .int s), (.str "more", .int m)]
abbrev pen (cells : List Int) (s m : Int) : C := .dct false (penK cells s m)
@[simp] theorem pen_cells {cells : List Int} {s m : Int} : ixD (.dct false (penK cells s m)) (.str "cells") = some (.imm (.lst (cells.map D.int))) := by rfl
@[simp] theorem pen_spot {cells : List Int} {s m : Int} : ixD (.dct false (penK cells s m)) (.str "spot") = some (.imm (.int s)) := by rfl
@[simp] theorem pen_more {cells : List Int} {s m : Int} : ixD (.dct false (penK cells s m)) (.str "more") = some (.imm (.int m)) := by rfl
@[simp] theorem put_spot {cells : List Int} {s m z : Int} : putDK (penK cells s m) (.str "spot") (.int z) = some (penK cells z m) := by rfl
@[simp] theorem put_more' {cells : List Int} {s m z : Int} : putDK (penK cells s m) (.str "more") (.int z) = some (penK cells s z) := by rfl
end Ev
/-! text Ev28 -/
set_option Elab.async false
set_option linter.all false
set_option maxRecDepth 100000
set_option maxHeartbeats 4000000
namespace Ev
open PySem L2

/-! ### the mirrors, applied: rules for simp -/
section
variable {ρ : Env} {i j : Nat} {F G : Fs} {T T2 : Ft} {FE FX FY : Fe} {FD FK : Fd} {FA FB FC : Fr} {FI : Fi} {AA AB : Fa} {LL : Fl} {d e : D}
@[simp ↓] theorem ap_skip {Φ : _ → Prop} : Ok (skipS ρ) Φ ↔ Ok (some (.nx, ρ)) Φ := Iff.rfl
@[simp ↓] theorem ap_seq {Φ : _ → Prop} : Ok (seqS F G ρ) Φ ↔ Ok ((F ρ).bind fun x => match x.1 with
    | .nx => G x.2
    | fl => some (fl, x.2)) Φ := Iff.rfl
@[simp ↓] theorem ap_if {Φ : _ → Prop} : Ok (ifS T F G ρ) Φ ↔ Ok ((T ρ).bind fun x => if x.1 = true then F x.2 else G x.2) Φ := Iff.rfl
@[simp ↓] theorem ap_set {Φ : _ → Prop} : Ok (setS i FE ρ) Φ ↔ Ok ((FE ρ).bind fun x => (putV i x.1 x.2).map fun ρ' => (.nx, ρ')) Φ := Iff.rfl
@[simp ↓] theorem ap_asg {t : Tg} {Φ : _ → Prop} : Ok (asgS t FD ρ) Φ ↔ Ok ((FD ρ).bind fun x => (asg t x.1 x.2).map fun ρ' => (.nx, ρ')) Φ := Iff.rfl
@[simp ↓] theorem ap_ret {Φ : _ → Prop} : Ok (retS FE ρ) Φ ↔ Ok ((FE ρ).map fun x => (.rt x.1, x.2)) Φ := Iff.rfl
@[simp ↓] theorem ap_retN {Φ : _ → Prop} : Ok (retNone ρ) Φ ↔ Ok (some (.rt (.imm .non), ρ)) Φ := Iff.rfl
@[simp ↓] theorem ap_drop {Φ : _ → Prop} : Ok (dropS FE ρ) Φ ↔ Ok ((FE ρ).map fun x => (.nx, x.2)) Φ := Iff.rfl
@[simp ↓] theorem ap_flow {fl : Fw} {Φ : _ → Prop} : Ok (flowS fl ρ) Φ ↔ Ok (some (fl, ρ)) Φ := Iff.rfl
@[simp ↓] theorem ap_for {t : Tg} {Φ : _ → Prop} : Ok (forS t FI F ρ) Φ ↔ Ok ((FI ρ).bind fun x => loopF t F x.1 x.2) Φ := Iff.rfl
@[simp ↓] theorem ap_dput {Φ : _ → Prop} : Ok (dputS FD FA FK ρ) Φ ↔ Ok ((FD ρ).bind fun x => (FA x.2).bind fun y => (rfOf y.1).bind fun i => (FK y.2).bind fun z => (dctAt z.2 i).bind fun c => if c.1 = false then (putDK c.2 z.1 x.1).map fun kvs => (.nx, setC z.2 i (.dct false kvs)) else none) Φ := Iff.rfl
@[simp ↓] theorem ap_par {is : List Nat} {X : Fxs} {Φ : _ → Prop} : Ok (parS is X ρ) Φ ↔ Ok ((X ρ).bind fun x => (putVs is x.1 x.2).map fun ρ' => (.nx, ρ')) Φ := Iff.rfl
@[simp ↓] theorem ap_imm {Φ : _ → Prop} : Ok (immF FD ρ) Φ ↔ Ok ((FD ρ).map fun x => (.imm x.1, x.2)) Φ := Iff.rfl
@[simp ↓] theorem ap_fix {Φ : _ → Prop} : Ok (fixF FE ρ) Φ ↔ Ok ((FE ρ).map fun x => (x.1.toD, x.2)) Φ := Iff.rfl
@[simp ↓] theorem ap_val {Φ : _ → Prop} : Ok (valF FD ρ) Φ ↔ Ok ((FD ρ).map fun x => (.val x.1, x.2)) Φ := Iff.rfl
@[simp ↓] theorem ap_const {Φ : _ → Prop} : Ok (constF d ρ) Φ ↔ Ok (some (d, ρ)) Φ := Iff.rfl
@[simp ↓] theorem ap_bin {f : D → D → Option Rv} {Φ : _ → Prop} : Ok (binF f FA FB ρ) Φ ↔ Ok ((FA ρ).bind fun x => (FB x.2).bind fun y => (deref y.2 x.1).bind fun d => (deref y.2 y.1).bind fun e => (f d e).map fun z => (z, y.2)) Φ := Iff.rfl
@[simp ↓] theorem ap_binB {f : D → D → Option Bool} {Φ : _ → Prop} : Ok (binB f FA FB ρ) Φ ↔ Ok ((FA ρ).bind fun x => (FB x.2).bind fun y => (deref y.2 x.1).bind fun d => (deref y.2 y.1).bind fun e => (f d e).map fun z => (z, y.2)) Φ := Iff.rfl
@[simp ↓] theorem ap_bool {Φ : _ → Prop} : Ok (boolF T ρ) Φ ↔ Ok ((T ρ).map fun x => (.bl x.1, x.2)) Φ := Iff.rfl
@[simp ↓] theorem ap_chain {f g : D → D → Option Bool} {Φ : _ → Prop} : Ok (chainB f g FA FB FC ρ) Φ ↔ Ok ((FA ρ).bind fun x => (FB x.2).bind fun y => (deref y.2 x.1).bind fun d => (deref y.2 y.1).bind fun e => (f d e).bind fun z =>
  if z = true then (FC y.2).bind fun w => (deref w.2 y.1).bind fun e2 => (deref w.2 w.1).bind fun d2 => (g e2 d2).map fun z2 => (z2, w.2) else some (false, y.2)) Φ := Iff.rfl
@[simp ↓] theorem ap_ite {Φ : _ → Prop} : Ok (iteF T FX FY ρ) Φ ↔ Ok ((T ρ).bind fun x => if x.1 = true then FX x.2 else FY x.2) Φ := Iff.rfl
@[simp ↓] theorem ap_and {Φ : _ → Prop} : Ok (andB T T2 ρ) Φ ↔ Ok ((T ρ).bind fun x => if x.1 = true then T2 x.2 else some (false, x.2)) Φ := Iff.rfl
@[simp ↓] theorem ap_or {Φ : _ → Prop} : Ok (orB T T2 ρ) Φ ↔ Ok ((T ρ).bind fun x => if x.1 = true then some (true, x.2) else T2 x.2) Φ := Iff.rfl
@[simp ↓] theorem ap_not {Φ : _ → Prop} : Ok (notB T ρ) Φ ↔ Ok ((T ρ).map fun x => (!x.1, x.2)) Φ := Iff.rfl
@[simp ↓] theorem ap_tru {Φ : _ → Prop} : Ok (truF FA ρ) Φ ↔ Ok ((FA ρ).bind fun x => (deref x.2 x.1).bind fun d => (truD d).map fun z => (z, x.2)) Φ := Iff.rfl
@[simp ↓] theorem ap_nilA {Φ : _ → Prop} : Ok (nilA ρ) Φ ↔ Ok (some ([], ρ)) Φ := Iff.rfl
@[simp ↓] theorem ap_consA {Φ : _ → Prop} : Ok (consA FA AA ρ) Φ ↔ Ok ((FA ρ).bind fun x => (AA x.2).map fun y => (x.1 :: y.1, y.2)) Φ := Iff.rfl
@[simp ↓] theorem ap_nilL {Φ : _ → Prop} : Ok (nilL ρ) Φ ↔ Ok (some ([], ρ)) Φ := Iff.rfl
@[simp ↓] theorem ap_consL {Φ : _ → Prop} : Ok (consL FD LL ρ) Φ ↔ Ok ((FD ρ).bind fun x => (LL x.2).map fun y => (x.1 :: y.1, y.2)) Φ := Iff.rfl
@[simp ↓] theorem ap_nilX {Φ : _ → Prop} : Ok (nilX ρ) Φ ↔ Ok (some ([], ρ)) Φ := Iff.rfl
@[simp ↓] theorem ap_consX {X : Fxs} {Φ : _ → Prop} : Ok (consX FE X ρ) Φ ↔ Ok ((FE ρ).bind fun x => (X x.2).map fun y => (x.1 :: y.1, y.2)) Φ := Iff.rfl
@[simp ↓] theorem ap_tup {Φ : _ → Prop} : Ok (tupF LL ρ) Φ ↔ Ok (LL ρ) fun y => y.1.length ≤ sizeLine ∧ Φ (.imm (.tup y.1), y.2) := by
  unfold tupF
  rw [Ok_bind]
  exact Ok_ext fun y => Iff.trans Ok_iff (and_congr_right fun _ => Ok_some)
@[simp ↓] theorem ap_lst {Φ : _ → Prop} : Ok (lstF LL ρ) Φ ↔ Ok (LL ρ) fun y => y.1.length ≤ sizeLine ∧ Φ (.own (.lst y.1), y.2) := by
  unfold lstF
  rw [Ok_bind]
  exact Ok_ext fun y => Iff.trans Ok_iff (and_congr_right fun _ => Ok_some)
@[simp ↓] theorem ap_call {f : List D → Option Rv} {Φ : _ → Prop} : Ok (callF f AA ρ) Φ ↔ Ok ((AA ρ).bind fun x => (derefs x.2 x.1).bind fun ds => (f ds).map fun z => (z, x.2)) Φ := Iff.rfl
@[simp ↓] theorem ap_user {n : Nat} {f : Fn} {Φ : _ → Prop} : Ok (userF n f AA ρ) Φ ↔ Ok (AA ρ) fun x => x.1.length = n ∧ Ok (applyU f x.1 x.2) Φ := by
  unfold userF
  rw [Ok_bind]
  exact Ok_ext fun y => Ok_iff
@[simp ↓] theorem ap_app {Φ : _ → Prop} : Ok (appA AA AB ρ) Φ ↔ Ok ((AA ρ).bind fun x => (AB x.2).map fun y => (x.1 ++ y.1, y.2)) Φ := Iff.rfl
@[simp ↓] theorem ap_chk {n : Nat} {Φ : _ → Prop} : Ok (chkA n AA ρ) Φ ↔ Ok (AA ρ) fun x => x.1.length = n ∧ Φ x := by
  unfold chkA
  rw [Ok_bind]
  exact Ok_ext fun y => Iff.trans Ok_iff (and_congr_right fun _ => Ok_some)
@[simp ↓] theorem ap_seqI {Φ : _ → Prop} : Ok (seqF FD ρ) Φ ↔ Ok ((FD ρ).bind fun x => (seqI x.1).map fun ds => (ds, x.2)) Φ := Iff.rfl
@[simp ↓] theorem ap_rng {f : List D → Option (List D)} {Φ : _ → Prop} : Ok (rngF f AA ρ) Φ ↔ Ok ((AA ρ).bind fun x => (derefs x.2 x.1).bind fun ds => (f ds).map fun z => (z, x.2)) Φ := Iff.rfl
@[simp ↓] theorem ap_enum {Φ : _ → Prop} : Ok (enumF LL ρ) Φ ↔ Ok ((LL ρ).bind fun x => (enI x.1).map fun ds => (ds, x.2)) Φ := Iff.rfl
@[simp ↓] theorem ap_noneO {Φ : _ → Prop} : Ok (noneO ρ) Φ ↔ Ok (some (none, ρ)) Φ := Iff.rfl
@[simp ↓] theorem ap_sl {FL FH : Fo} {Φ : _ → Prop} : Ok (slF FA FL FH ρ) Φ ↔ Ok ((FA ρ).bind fun x => (FL x.2).bind fun l => (FH l.2).bind fun h => (deref h.2 x.1).bind fun d => (slD d l.1 h.1).map fun z => (z, h.2)) Φ := Iff.rfl
@[simp ↓] theorem ap_rv {Φ : _ → Prop} : Ok (rvF FA ρ) Φ ↔ Ok ((FA ρ).bind fun x => (deref x.2 x.1).bind fun d => (revD d).map fun z => (z, x.2)) Φ := Iff.rfl
@[simp ↓] theorem ap_mut {g : Gm} {Φ : _ → Prop} : Ok (mutF g FA LL ρ) Φ ↔ Ok ((FA ρ).bind fun x => (rfOf x.1).bind fun i => (lstAt x.2 i).bind fun _ => (LL x.2).bind fun y => (lstAt y.2 i).bind fun xs => (g xs y.1).map fun z => (.imm z.1, setC y.2 i (.lst z.2))) Φ := Iff.rfl
@[simp ↓] theorem ap_mut0 {g : Gm} {Φ : _ → Prop} : Ok (mut0F g FA ρ) Φ ↔ Ok ((FA ρ).bind fun x => (rfOf x.1).bind fun i => (lstAt x.2 i).bind fun xs => (g xs []).map fun z => (.imm z.1, setC x.2 i (.lst z.2))) Φ := Iff.rfl
@[simp ↓] theorem ap_isi {n : String} {Φ : _ → Prop} : Ok (isiF n FA ρ) Φ ↔ Ok ((FA ρ).bind fun x => (deref x.2 x.1).bind fun d => (tyD d).bind fun m => (kitB m n).map fun b => (.bl b, x.2)) Φ := Iff.rfl
@[simp ↓] theorem ap_isis {ns : List String} {Φ : _ → Prop} : Ok (isisF ns FA ρ) Φ ↔ Ok ((FA ρ).bind fun x => (deref x.2 x.1).bind fun d => (tyD d).bind fun m => (anyTy m ns).map fun b => (.bl b, x.2)) Φ := Iff.rfl
@[simp ↓] theorem ap_idx {Φ : _ → Prop} : Ok (idxF FA FB ρ) Φ ↔ Ok (FA ρ) fun x => Ok (deref x.2 x.1) fun d0 => Ok (FB x.2) fun y => Ok (deref y.2 x.1) fun d => Ok (deref y.2 y.1) fun e => (isLst d0 = isLst d ∧ isTup d0 = isTup d) ∧ Ok (idxD d e) fun j => Φ (.int j, y.2) := by
  unfold idxF
  rw [Ok_bind]
  refine Ok_ext fun x => ?_
  rw [Ok_bind]
  refine Ok_ext fun x => ?_
  rw [Ok_bind]
  refine Ok_ext fun x => ?_
  rw [Ok_bind]
  refine Ok_ext fun x => ?_
  rw [Ok_bind]
  exact Ok_ext fun e => Iff.trans Ok_iff (and_congr_right fun _ => Ok_map)
@[simp ↓] theorem ap_disp {l : List (Str × Fd)} {Φ : _ → Prop} : Ok (dispF l ρ) Φ ↔ ((l.map (·.1)).Nodup ∧ l.length ≤ 15) ∧ Ok (dispL l ρ) fun z => Φ (.own (.dct false z.1), z.2) := by
  unfold dispF
  exact Iff.trans Ok_iff (and_congr_right fun _ => Ok_map)
@[simp ↓] theorem ap_displ0 {Φ : _ → Prop} : Ok (dispL [] ρ) Φ ↔ Φ ([], ρ) := Ok_some
@[simp ↓] theorem ap_displ {x : Str} {l : List (Str × Fd)} {Φ : _ → Prop} : Ok (dispL ((x, FD) :: l) ρ) Φ ↔ Ok (FD ρ) fun y => Ok (dispL l y.2) fun z => Φ ((.str x, y.1) :: z.1, z.2) := by
  rw [dispL, Ok_bind]
  exact Ok_ext fun y => Ok_map
@[simp] theorem tv_nm : tvs (.nm i) = [i] := rfl
@[simp] theorem tv_tp {ts : List Tg} : tvs (.tp ts) = tvsL ts := rfl
@[simp] theorem tv_nil : tvsL [] = [] := rfl
@[simp] theorem tv_cons {t : Tg} {ts : List Tg} : tvsL (t :: ts) = tvs t ++ tvsL ts := rfl
@[simp] theorem size_line : sizeLine = 16777216 := sizeLine_eq
@[simp ↓] theorem ap_comp {t : Tg} {vs : List Nat} {Φ : _ → Prop} : Ok (compF t FI T FD vs ρ) Φ ↔ (tvs t).all (fun i => decide (i ∈ vs)) = true ∧ Ok (FI ρ) fun x => x.1.length ≤ sizeLine ∧ Ok (lcF t T FD vs x.1 (wipeE x.2 vs)) fun y => Φ (.own (.lst y.1), backE x.2 y.2 vs) := by
  unfold compF
  refine Iff.trans Ok_iff (and_congr_right fun _ => ?_)
  rw [Ok_bind]
  refine Ok_ext fun x => Iff.trans Ok_iff (and_congr_right fun _ => Ok_map)
@[simp] theorem ap_wipe0 : wipeE ρ [] = ρ := rfl
@[simp] theorem ap_wipe1 {v : Nat} {vs : List Nat} : wipeE ρ (v :: vs) = (wipeE ρ vs).set v .un := rfl
@[simp ↓] theorem ap_varR {Φ : _ → Prop} : Ok (varR i ρ) Φ ↔ Ok (match ρ[i]? with
  | some (.imm d) => some (AR.val d, ρ)
  | some (.own _) => some (AR.rf i, ρ)
  | some (.par _) => some (AR.rf i, ρ)
  | _ => none) Φ := Iff.rfl
@[simp ↓] theorem ap_varD {Φ : _ → Prop} : Ok (varD i ρ) Φ ↔ Ok (match ρ[i]? with
  | some (.imm d) => some (d, ρ)
  | some (.own c) => some (c.toD, ρ.set i (.imm c.toD))
  | _ => none) Φ := Iff.rfl
@[simp ↓] theorem ap_retVar {Φ : _ → Prop} : Ok (retVar i ρ) Φ ↔ Ok (match ρ[i]? with
  | some (.imm d) => some (Fw.rt (.imm d), ρ)
  | some (.own c) => some (Fw.rt (.own c), ρ)
  | _ => none) Φ := Iff.rfl
@[simp ↓] theorem ap_applyU {f : Fn} {as : List AR} {Φ : _ → Prop} : Ok (applyU f as ρ) Φ ↔ nodupB (refsOf as) = true ∧ Ok (arsOf ρ as) fun bs => Ok (f bs) fun y => Ok (setCs ρ (refsOf as) y.2) fun ρ' => Φ (y.1, ρ') := by
  unfold applyU
  by_cases h : nodupB (refsOf as) = true
  · rw [if_pos h, Ok_bind]
    refine Iff.trans (Ok_ext fun x => ?_) (Iff.symm (and_iff_right h))
    rw [Ok_bind]
    exact Ok_ext fun y => Ok_map
  · rw [if_neg h]
    exact Iff.trans Ok_none (Iff.symm ⟨fun z => absurd z.1 h, False.elim⟩)
@[simp ↓] theorem ap_body {n m : Nat} {B : Fs} {as : List Ar} {Φ : _ → Prop} : Ok (bodyF n m B as) Φ ↔ as.length = m ∧ Ok (B (slots n as)) fun x => match x.1 with
  | .nx => Ok (csOf 0 as x.2) fun cs => Φ (.imm .non, cs)
  | .rt r => Ok (csOf 0 as x.2) fun cs => Φ (r, cs)
  | _ => False := by
  unfold bodyF
  by_cases h : as.length = m
  · rw [if_pos h, Ok_bind]
    refine Iff.trans (Ok_ext fun x => ?_) (Iff.symm (and_iff_right h))
    obtain ⟨fl, ρ'⟩ := x
    cases fl with
    | nx => exact Ok_map
    | rt r => exact Ok_map
    | bk => exact Ok_none
    | ct => exact Ok_none
  · rw [if_neg h]
    exact Iff.trans Ok_none (Iff.symm ⟨fun z => absurd z.1 h, False.elim⟩)
@[simp ↓] theorem ap_loop0 {t : Tg} {Φ : _ → Prop} : Ok (loopF t F [] ρ) Φ ↔ Φ (.nx, ρ) := Ok_some
@[simp ↓] theorem ap_loop {t : Tg} {ds : List D} {Φ : _ → Prop} : Ok (loopF t F (d :: ds) ρ) Φ ↔ Ok (asg t d ρ) fun ρ1 => Ok (F ρ1) fun y => match y.1 with
    | .nx => Ok (loopF t F ds y.2) Φ
    | .ct => Ok (loopF t F ds y.2) Φ
    | .bk => Φ (.nx, y.2)
    | .rt r => Φ (.rt r, y.2) := by
  rw [loopF, Ok_bind]
  refine Ok_ext fun ρ1 => ?_
  rw [Ok_bind]
  refine Ok_ext fun y => ?_
  obtain ⟨fl, ρ2⟩ := y
  cases fl <;> first | exact Iff.rfl | exact Ok_some
/-! reading a slot, by what stands there -/
@[simp] theorem dr_val : deref ρ (.val d) = some d := rfl
@[simp] theorem dr_rf : deref ρ (.rf i) = (contAt ρ i).map C.toD := rfl
@[simp] theorem drs_nil : derefs ρ [] = some [] := rfl
@[simp] theorem drs_cons {a : AR} {as : List AR} : derefs ρ (a :: as) = (deref ρ a).bind fun d => (derefs ρ as).map (d :: ·) := by
  cases h : deref ρ a <;> cases h2 : derefs ρ as <;> simp [derefs, h, h2]
@[simp] theorem rf_rf : rfOf (.rf i) = some i := rfl
@[simp] theorem co_lst {xs : List D} : C.toD (.lst xs) = .lst xs := rfl
@[simp] theorem co_dct {t : Bool} {xs : List (D × D)} : C.toD (.dct t xs) = .dct t xs := rfl
@[simp] theorem rv_imm : (Rv.imm d).toD = d := rfl
@[simp] theorem rv_own {c : C} : (Rv.own c).toD = c.toD := rfl
@[simp] theorem sl_par {c : C} : (Sl.par c).cont = some c := rfl
@[simp] theorem sl_own {c : C} : (Sl.own c).cont = some c := rfl
@[simp] theorem pt_par {c c' : C} : (Sl.par c).put c' = .par c' := rfl
@[simp] theorem pt_own {c c' : C} : (Sl.own c).put c' = .own c' := rfl
@[simp] theorem ar_imm : Ar.sl (.imm d) = .imm d := rfl
@[simp] theorem ar_own {c : C} : Ar.sl (.own c) = .par c := rfl
@[simp] theorem arsOf_nil : arsOf ρ [] = some [] := rfl
@[simp] theorem arsOf_val {as : List AR} : arsOf ρ (.val d :: as) = (arsOf ρ as).map (Ar.imm d :: ·) := rfl
@[simp] theorem arsOf_rf {as : List AR} : arsOf ρ (.rf i :: as) = (contAt ρ i).bind fun c => (arsOf ρ as).map (Ar.own c :: ·) := rfl
@[simp] theorem refs_nil : refsOf [] = [] := rfl
@[simp] theorem refs_val {as : List AR} : refsOf (.val d :: as) = refsOf as := rfl
@[simp] theorem refs_rf {as : List AR} : refsOf (.rf i :: as) = i :: refsOf as := rfl
@[simp] theorem nodupB_nil : nodupB [] = true := rfl
@[simp] theorem nodupB_one : nodupB [i] = true := by simp [nodupB]
@[simp] theorem setCs_nil : setCs ρ [] [] = some ρ := rfl
@[simp] theorem setCs_cons {is : List Nat} {c : C} {cs : List C} : setCs ρ (i :: is) (c :: cs) = setCs (setC ρ i c) is cs := rfl
end
section
variable {ρ : Env} {i n : Nat} {d : D} {c : C} {as : List Ar}
@[simp] theorem contAt_ap : contAt ρ i = (ρ[i]?).bind Sl.cont := rfl
@[simp] theorem csOf_nil : csOf n [] ρ = some [] := rfl
@[simp] theorem csOf_imm : csOf n (.imm d :: as) ρ = csOf (n + 1) as ρ := rfl
@[simp] theorem csOf_own : csOf n (.own c :: as) ρ = match ρ[n]? with
    | some (.par c) => (csOf (n + 1) as ρ).map (c :: ·)
    | _ => none := rfl
@[simp ↓] theorem ap_putI {Φ : _ → Prop} : Ok (putV i (.imm d) ρ) Φ ↔ (i < ρ.length ∧ isPar ρ[i]? = false) ∧ Φ (ρ.set i (.imm d)) := by
  unfold putV
  exact Iff.trans Ok_iff (and_congr_right fun _ => Ok_some)
@[simp ↓] theorem ap_putO {Φ : _ → Prop} : Ok (putV i (.own c) ρ) Φ ↔ (i < ρ.length ∧ isPar ρ[i]? = false) ∧ Φ (ρ.set i (.own c)) := by
  unfold putV
  exact Iff.trans Ok_iff (and_congr_right fun _ => Ok_some)
@[simp] theorem isPar_imm : isPar (some (.imm d)) = false := rfl
@[simp] theorem isPar_own : isPar (some (.own c)) = false := rfl
@[simp] theorem isPar_un : isPar (some .un) = false := rfl
@[simp] theorem setC_ap : setC ρ i c = match ρ[i]? with
  | some s => ρ.set i (s.put c)
  | none => ρ := rfl
@[simp] theorem dctAt_ap : dctAt ρ i = match (ρ[i]?).bind Sl.cont with
  | some (.dct t kvs) => some (t, kvs)
  | _ => none := rfl
@[simp] theorem lstAt_ap : lstAt ρ i = match (ρ[i]?).bind Sl.cont with
  | some (.lst xs) => some xs
  | _ => none := rfl
@[simp ↓] theorem ap_asgN {Φ : _ → Prop} : Ok (asg (.nm i) d ρ) Φ ↔ Ok (putV i (.imm d) ρ) Φ := by unfold asg; exact Iff.rfl
@[simp ↓] theorem ap_asgT {ts : List Tg} {xs : List D} {Φ : _ → Prop} : Ok (asg (.tp ts) (.tup xs) ρ) Φ ↔ Ok (asgL ts xs ρ) Φ := by unfold asg; exact Iff.rfl
@[simp ↓] theorem ap_asgL {ts : List Tg} {xs : List D} {Φ : _ → Prop} : Ok (asg (.tp ts) (.lst xs) ρ) Φ ↔ Ok (asgL ts xs ρ) Φ := by unfold asg; exact Iff.rfl
@[simp ↓] theorem ap_asg0 {Φ : _ → Prop} : Ok (asgL [] [] ρ) Φ ↔ Φ ρ := by unfold asgL; exact Ok_some
@[simp ↓] theorem ap_asgC {t : Tg} {ts : List Tg} {xs : List D} {Φ : _ → Prop} : Ok (asgL (t :: ts) (d :: xs) ρ) Φ ↔ Ok (asg t d ρ) fun ρ1 => Ok (asgL ts xs ρ1) Φ := by rw [asgL]; exact Ok_bind
@[simp ↓] theorem ap_putV0 {Φ : _ → Prop} : Ok (putVs [] [] ρ) Φ ↔ Φ ρ := Ok_some
@[simp ↓] theorem ap_putVC {r : Rv} {is : List Nat} {rs : List Rv} {Φ : _ → Prop} : Ok (putVs (i :: is) (r :: rs) ρ) Φ ↔ Ok (putV i r ρ) fun ρ1 => Ok (putVs is rs ρ1) Φ := by rw [putVs]; exact Ok_bind
end
section
variable {ρ : Env} {F G : Fd} {b : Bool}
@[simp ↓] theorem ap_andD {Φ : _ → Prop} : Ok (andD F G ρ) Φ ↔ Ok (F ρ) fun x => Ok (match x.1 with
    | .bl true => G x.2
    | .bl false => some (.bl false, x.2)
    | _ => none) Φ := by
  unfold andD
  refine Iff.trans Ok_bind ?_
  refine Ok_ext fun x => ?_
  obtain ⟨d, ρ'⟩ := x
  cases d <;> first | exact Iff.rfl | (rename_i b; cases b <;> exact Iff.rfl)
@[simp ↓] theorem ap_notD {Φ : _ → Prop} : Ok (notD F ρ) Φ ↔ Ok (F ρ) fun x => Ok (match x.1 with
    | .bl c => some (.bl (!c), x.2)
    | _ => none) Φ := by
  unfold notD
  refine Iff.trans Ok_bind ?_
  refine Ok_ext fun x => ?_
  obtain ⟨d, ρ'⟩ := x
  cases d <;> exact Iff.rfl
@[simp] theorem tru_bl : truD (.bl b) = some b := rfl
end
section
variable {ρ : Env} {F : Fd}
@[simp ↓] theorem ap_tupRg {Φ : _ → Prop} : Ok (tupRg1 F ρ) Φ ↔ Ok (F ρ) fun x => match x.1 with
    | .int n => rgOk 0 n = true ∧ Φ (.imm (.tup (rgI 0 n)), x.2)
    | _ => False := by
  unfold tupRg1
  rw [Ok_bind]
  refine Ok_ext fun x => ?_
  obtain ⟨d, ρ'⟩ := x
  cases d <;> first | exact Ok_none | exact Iff.trans Ok_iff (and_congr_right fun _ => Ok_some)
@[simp ↓] theorem ap_lstRg {Φ : _ → Prop} : Ok (lstRg1 F ρ) Φ ↔ Ok (F ρ) fun x => match x.1 with
    | .int n => rgOk 0 n = true ∧ Φ (.own (.lst (rgI 0 n)), x.2)
    | _ => False := by
  unfold lstRg1
  rw [Ok_bind]
  refine Ok_ext fun x => ?_
  obtain ⟨d, ρ'⟩ := x
  cases d <;> first | exact Ok_none | exact Iff.trans Ok_iff (and_congr_right fun _ => Ok_some)
end
/-! operators -/
section
variable {i j : Int} {b c : Bool} {x y : Str} {xs ys : List D} {d e : D}
@[simp] theorem op_ii : addD (.int i) (.int j) = some (.imm (.int (i + j))) := rfl
theorem op_tt : addD (.tup xs) (.tup ys) = if xs.length + ys.length ≤ sizeLine then some (.imm (.tup (xs ++ ys))) else none := rfl
theorem op_ll : addD (.lst xs) (.lst ys) = if xs.length + ys.length ≤ sizeLine then some (.own (.lst (xs ++ ys))) else none := rfl
@[simp ↓] theorem ok_tt {Φ : _ → Prop} : Ok (addD (.tup xs) (.tup ys)) Φ ↔ xs.length + ys.length ≤ sizeLine ∧ Φ (.imm (.tup (xs ++ ys))) := by
  rw [op_tt]
  exact Iff.trans Ok_iff (and_congr_right fun _ => Ok_some)
@[simp ↓] theorem ok_ll {Φ : _ → Prop} : Ok (addD (.lst xs) (.lst ys)) Φ ↔ xs.length + ys.length ≤ sizeLine ∧ Φ (.own (.lst (xs ++ ys))) := by
  rw [op_ll]
  exact Iff.trans Ok_iff (and_congr_right fun _ => Ok_some)
@[simp] theorem op_sub' : intOp subI (.int i) (.int j) = some (.imm (.int (i - j))) := rfl
@[simp] theorem op_mod' : intOp modI (.int i) (.int j) = (modI i j).map fun z => .imm (.int z) := rfl
@[simp] theorem op_fdiv' : intOp fdivI (.int i) (.int j) = (fdivI i j).map fun z => .imm (.int z) := rfl
@[simp] theorem op_pow' : intOp powI (.int i) (.int j) = (powI i j).map fun z => .imm (.int z) := rfl
@[simp] theorem op_mul' : mulD' (.int i) (.int j) = (mulI i j).map fun z => .imm (.int z) := rfl
@[simp] theorem op_cmp' {f : Int → Int → Bool} : cmpI f (.int i) (.int j) = some (f i j) := rfl
@[simp] theorem mod_pos {i j : Int} (h : 0 < j) : modI i j = some (i % j) := by
  unfold modI
  rw [if_pos (by omega)]
  congr 1
  exact Int.fmod_eq_emod_of_nonneg _ (by omega)
@[simp] theorem len_lst : lenD [.lst xs] = some (.imm (.int xs.length)) := rfl
@[simp] theorem len_tup : lenD [.tup xs] = some (.imm (.int xs.length)) := rfl
@[simp] theorem abs_int : absD [.int i] = some (.imm (.int (if i < 0 then -i else i))) := rfl
@[simp] theorem int_int : intD [.int i] = some (.imm (.int i)) := rfl
@[simp] theorem int_bl : intD [.bl b] = some (.imm (.int (if b then 1 else 0))) := rfl
@[simp] theorem list_lst : listD [.lst xs] = some (.own (.lst xs)) := rfl
@[simp] theorem list_tup : listD [.tup xs] = some (.own (.lst xs)) := rfl
@[simp] theorem tup_lst : tupleD [.lst xs] = some (.imm (.tup xs)) := rfl
@[simp] theorem tup_tup : tupleD [.tup xs] = some (.imm (.tup xs)) := rfl
@[simp] theorem seqI_lst : seqI (.lst xs) = some xs := rfl
@[simp] theorem seqI_tup : seqI (.tup xs) = some xs := rfl
@[simp] theorem enI_lst : enI [.lst xs] = some (enD xs) := rfl
@[simp] theorem enI_tup : enI [.tup xs] = some (enD xs) := rfl
@[simp] theorem rev_lst : revD (.lst xs) = some (.own (.lst xs.reverse)) := rfl
@[simp] theorem rev_tup : revD (.tup xs) = some (.imm (.tup xs.reverse)) := rfl
@[simp] theorem sl_lst {lo hi : Option Int} : slD (.lst xs) lo hi = some (.own (.lst (cutD xs lo hi))) := rfl
@[simp] theorem sl_tup' {lo hi : Option Int} : slD (.tup xs) lo hi = some (.imm (.tup (cutD xs lo hi))) := rfl
@[simp] theorem sl_scr {ns : List Int} {lo hi : Option Int} : slD (.scr ns) lo hi = some (.own (.lst ((cutD ns lo hi).map D.int))) := rfl
@[simp] theorem ty_int : tyD (.int i) = some "int" := rfl
@[simp] theorem ty_lst : tyD (.lst xs) = some "list" := rfl
@[simp] theorem ty_tup : tyD (.tup xs) = some "tuple" := rfl
@[simp] theorem ix_lst : ixD (.lst xs) (.int i) = (atI xs i).map .imm := rfl
@[simp] theorem ix_tup' : ixD (.tup xs) (.int i) = (atI xs i).map .imm := rfl
@[simp] theorem kb_ii : kitB "int" "int" = some true := by decide +kernel
@[simp] theorem kb_ib : kitB "int" "bool" = some false := by decide +kernel
@[simp] theorem kb_l : anyTy "list" ["list", "tuple"] = some true := by decide +kernel
@[simp] theorem kb_t : anyTy "tuple" ["list", "tuple"] = some true := by decide +kernel
end
theorem someO_int {F : Fd} {ρ ρ' : Env} {i : Int} (h : F ρ = some (.int i, ρ')) : someO F ρ = some (some i, ρ') := by unfold someO; rw [h]; rfl
@[simp ↓] theorem ap_someO {F : Fd} {ρ : Env} {Φ : _ → Prop} : Ok (someO F ρ) Φ ↔ Ok ((F ρ).bind fun x => match x.1 with
  | .int i => some (some i, x.2)
  | _ => none) Φ := Iff.rfl
end Ev
/-! text Ev29 -/
set_option Elab.async false
set_option linter.all false
set_option maxRecDepth 100000
set_option maxHeartbeats 4000000
namespace Ev
open PySem L2

/-! ### ints in lists and tuples -/
theorem pyL_ints : ∀ ns : List Int, pyL (ns.map D.int) = ns.map PyData.int
  | [] => rfl
  | n :: ns => by rw [List.map_cons, List.map_cons]; show PyData.int n :: pyL (ns.map D.int) = _; rw [pyL_ints ns]
theorem lay_ints : ∀ ns : List Int, PyData.canLayAll0 (ns.map PyData.int) = true
  | [] => by simp [PyData.canLayAll0]
  | n :: ns => by simp [PyData.canLayAll0, PyData.canLay0, lay_ints ns]
theorem depth_ints : ∀ ns : List Int, PyData.depthAll (ns.map PyData.int) = 0
  | [] => by simp [PyData.depthAll]
  | n :: ns => by simp [PyData.depthAll, PyData.depth, depth_ints ns]
theorem eqv_ints : ∀ ns ms : List Int, PyData.eqvAll (ns.map PyData.int) (ms.map PyData.int) = decide (ns = ms)
  | [], [] => by simp [PyData.eqvAll]
  | [], _ :: _ => by simp [PyData.eqvAll]
  | _ :: _, [] => by simp [PyData.eqvAll]
  | n :: ns, m :: ms => by
    simp only [List.map_cons, PyData.eqvAll, PyData.eqv, eqv_ints ns ms, List.cons.injEq, Bool.decide_and]
    rfl
theorem shaped_lst' (ns : List Int) : SeqAt.shaped (py (.lst (ns.map D.int))) = true := by
  show SeqAt.shaped (.list (pyL (ns.map D.int))) = true
  rw [pyL_ints]
  simp [SeqAt.shaped, PyData.canLay0, PyData.depth, lay_ints, depth_ints]
theorem shaped_tup' (ns : List Int) : SeqAt.shaped (py (.tup (ns.map D.int))) = true := by
  show SeqAt.shaped (.tuple (pyL (ns.map D.int))) = true
  rw [pyL_ints]
  simp [SeqAt.shaped, PyData.canLay0, PyData.depth, lay_ints, depth_ints]
@[simp] theorem eq_lst (ns ms : List Int) : eqD (.lst (ns.map D.int)) (.lst (ms.map D.int)) = some (decide (ns = ms)) := by
  show (if SeqAt.shaped (py (.lst (ns.map D.int))) && SeqAt.shaped (py (.lst (ms.map D.int))) then some (PyData.eqv (.list (pyL (ns.map D.int))) (.list (pyL (ms.map D.int)))) else none) = _
  rw [shaped_lst', shaped_lst', pyL_ints, pyL_ints]
  simp only [PyData.eqv, eqv_ints]
  rfl
@[simp] theorem eq_tup (ns ms : List Int) : eqD (.tup (ns.map D.int)) (.tup (ms.map D.int)) = some (decide (ns = ms)) := by
  show (if SeqAt.shaped (py (.tup (ns.map D.int))) && SeqAt.shaped (py (.tup (ms.map D.int))) then some (PyData.eqv (.tuple (pyL (ns.map D.int))) (.tuple (pyL (ms.map D.int)))) else none) = _
  rw [shaped_tup', shaped_tup', pyL_ints, pyL_ints]
  simp only [PyData.eqv, eqv_ints]
  rfl
@[simp] theorem ne_lst (ns ms : List Int) : neD (.lst (ns.map D.int)) (.lst (ms.map D.int)) = some (!decide (ns = ms)) := by unfold neD; rw [eq_lst]; rfl
@[simp] theorem ne_tup (ns ms : List Int) : neD (.tup (ns.map D.int)) (.tup (ms.map D.int)) = some (!decide (ns = ms)) := by unfold neD; rw [eq_tup]; rfl
@[simp] theorem ne_lst0 (ns : List Int) : neD (.lst (ns.map D.int)) (.lst []) = some (!decide (ns = [])) := ne_lst ns []
@[simp] theorem ne_00 : neD (.lst []) (.lst []) = some false := ne_lst [] []
theorem ne_same {d : D} (h : SeqAt.shaped (py d) = true) (hf : flat d = none) : neD d d = some false := by
  unfold neD eqD
  rw [hf]
  simp only [h, Bool.and_self, if_true]
  rw [SeqAt.eqv_refl _ (SeqAt.canLay_of_shaped h)]
  rfl
@[simp] theorem ne_int (i j : Int) : neD (.int i) (.int j) = some (!decide (i = j)) := by
  unfold neD eqD
  simp [flat, scal]
@[simp] theorem eq_int (i j : Int) : eqD (.int i) (.int j) = some (decide (i = j)) := by
  unfold eqD
  simp [flat, scal]
@[simp] theorem ne_str (x : Str) : neD (.str x) (.str x) = some false := by
  unfold neD eqD
  simp [flat, scal]
theorem atI_map {α β : Type} (f : α → β) (xs : List α) (i : Int) : atI (xs.map f) i = (atI xs i).map f := by
  unfold atI
  rw [List.length_map]
  cases ixN xs.length i with
  | none => rfl
  | some j => simp
theorem atI_nat' {α : Type} {xs : List α} {i : Nat} (h : i < xs.length) : atI xs (i : Int) = some xs[i] := by
  unfold atI ixN
  rw [if_pos (by omega), if_pos (by omega)]
  simp [h]
theorem fdiv_pos {i j : Int} (h : 0 < j) (h2 : j < 1073741824) : fdivI i j = some (i / j) := by
  unfold fdivI
  rw [if_pos (by omega)]
  congr 1
  exact Int.fdiv_eq_ediv_of_nonneg _ (by omega)
theorem mulI_l {i j : Int} (h : -(2 ^ 64) < i) (h2 : i < 2 ^ 64) : mulI i j = some (i * j) := by
  unfold mulI
  rw [if_pos]
  unfold small64
  rw [Bool.or_eq_true]
  left
  simp only [Bool.and_eq_true, decide_eq_true_eq]
  exact ⟨h, h2⟩
theorem mulI_r {i j : Int} (h : -(2 ^ 64) < j) (h2 : j < 2 ^ 64) : mulI i j = some (i * j) := by
  unfold mulI
  rw [if_pos]
  unfold small64
  rw [Bool.or_eq_true]
  right
  simp only [Bool.and_eq_true, decide_eq_true_eq]
  exact ⟨h, h2⟩
theorem rng1_nat {n : Nat} (h : n < 2 ^ 24) : rng1 [.int (n : Int)] = some ((List.range n).map fun i => D.int (i : Nat)) := by
  unfold rng1
  dsimp only
  have e : okI (n : Int) = true := by
    unfold okI
    rw [Bool.and_eq_true, decide_eq_true_eq, decide_eq_true_eq]
    omega
  rw [if_pos (by first | exact e | simp [e])]
  unfold rgD
  simp
theorem rgI_nat (n : Nat) : rgI 0 n = (List.range n).map fun i => D.int (i : Nat) := by
  unfold rgI
  simp
theorem rgOk_nat {n : Nat} (h : n ≤ 2 ^ 24) : rgOk 0 n = true := by
  unfold rgOk
  rw [decide_eq_true_eq]
  omega
/-! small numbers in lists and tuples -/
def nts (xs : List Nat) : List D := xs.map fun n => D.int (n : Nat)
theorem nts_eq (xs : List Nat) : nts xs = (xs.map fun n : Nat => (n : Int)).map D.int := by unfold nts; rw [List.map_map]; rfl
@[simp] theorem nts_len (xs : List Nat) : (nts xs).length = xs.length := by unfold nts; rw [List.length_map]
@[simp] theorem nts_nil : nts [] = [] := rfl
theorem nts_cons (x : Nat) (xs : List Nat) : nts (x :: xs) = D.int (x : Nat) :: nts xs := rfl
@[simp] theorem nts_app (xs ys : List Nat) : nts xs ++ nts ys = nts (xs ++ ys) := by unfold nts; rw [List.map_append]
@[simp] theorem nts_rev (xs : List Nat) : (nts xs).reverse = nts xs.reverse := by unfold nts; rw [List.map_reverse]
theorem nts_cut (xs : List Nat) (lo hi : Option Int) : cutD (nts xs) lo hi = nts (cutD xs lo hi) := cutD_map _ xs lo hi
theorem natcast_inj : ∀ xs ys : List Nat, (xs.map (fun n : Nat => (n : Int)) = ys.map fun n : Nat => (n : Int)) ↔ xs = ys
  | [], [] => by simp
  | [], _ :: _ => by simp
  | _ :: _, [] => by simp
  | x :: xs, y :: ys => by
    rw [List.map_cons, List.map_cons, List.cons.injEq, List.cons.injEq, natcast_inj xs ys]
    constructor
    · rintro ⟨h1, h2⟩; exact ⟨by omega, h2⟩
    · rintro ⟨h1, h2⟩; exact ⟨by rw [h1], h2⟩
@[simp] theorem ne_nlst (xs ys : List Nat) : neD (.lst (nts xs)) (.lst (nts ys)) = some (!decide (xs = ys)) := by
  rw [nts_eq, nts_eq, ne_lst]
  simp only [natcast_inj]
@[simp] theorem ne_ntup (xs ys : List Nat) : neD (.tup (nts xs)) (.tup (nts ys)) = some (!decide (xs = ys)) := by
  rw [nts_eq, nts_eq, ne_tup]
  simp only [natcast_inj]
@[simp] theorem ne_nlst0 (xs : List Nat) : neD (.lst (nts xs)) (.lst []) = some (!decide (xs = [])) := ne_nlst xs []
theorem nts_at {xs : List Nat} {i : Nat} (h : i < xs.length) : atI (nts xs) (i : Int) = some (D.int (xs[i] : Nat)) := by
  unfold nts
  rw [atI_map, atI_nat' h]
  rfl
theorem nts_at1 {xs : List Nat} {i : Nat} (h : i + 1 < xs.length) : atI (nts xs) ((i : Int) + 1) = some (D.int (xs[i + 1] : Nat)) := by
  have := nts_at (xs := xs) (i := i + 1) h
  rw [← this]
  congr 1
theorem nts_range (n : Nat) : ((List.range n).map fun i => D.int (i : Nat)) = nts (List.range n) := rfl
theorem rng1_n {n : Nat} (h : n < 2 ^ 24) : rng1 [.int (n : Int)] = some (nts (List.range n)) := rng1_nat h
theorem rgI_n (n : Nat) : rgI 0 n = nts (List.range n) := rgI_nat n
theorem map_erase {α β : Type} (f : α → β) : ∀ (xs : List α) (i : Nat), (xs.map f).eraseIdx i = (xs.eraseIdx i).map f
  | [], _ => rfl
  | x :: xs, 0 => rfl
  | x :: xs, i + 1 => by rw [List.map_cons, List.eraseIdx_cons_succ, List.eraseIdx_cons_succ, List.map_cons, map_erase f xs i]
theorem popAt_n {xs : List Nat} {i : Nat} (h : i < xs.length) (h2 : xs.length < 2 ^ 62) : popAtG (nts xs) [.int (i : Int)] = some (.int (xs[i] : Nat), nts (xs.eraseIdx i)) := by
  unfold popAtG
  dsimp only
  rw [if_pos (by omega), nts_len]
  have e : seqIndex? (i : Int) xs.length = some i := (ixN_seq (n := xs.length) (i := (i : Int)) (j := i) (by unfold ixN; rw [if_pos (by omega), if_pos (by omega)]; simp)).1
  rw [e]
  simp only [Option.bind_some]
  have e2 : (nts xs)[i]? = some (D.int (xs[i] : Nat)) := by unfold nts; simp [h]
  rw [e2]
  unfold nts
  rw [map_erase]
  rfl
end Ev
/-! text M10 -/
set_option Elab.async false
set_option linter.all false
set_option maxRecDepth 100000
set_option maxHeartbeats 4000000
namespace Ev
open PySem L2

/-! ### neighbours that change places: plain lists -/
def exch {α : Type} : List α → Nat → List α
  | a :: b :: r, 0 => b :: a :: r
  | a :: r, p + 1 => a :: exch r p
  | l, _ => l
@[simp] theorem exch_nil {α : Type} (p : Nat) : exch ([] : List α) p = [] := by cases p <;> rfl
theorem exch_s {α : Type} (a : α) (r : List α) (p : Nat) : exch (a :: r) (p + 1) = a :: exch r p := by
  cases r with
  | nil => rfl
  | cons b r => rfl
theorem exch_map {α β : Type} (f : α → β) : ∀ (l : List α) (p : Nat), exch (l.map f) p = (exch l p).map f
  | [], p => by simp
  | [a], 0 => rfl
  | a :: b :: r, 0 => rfl
  | a :: r, p + 1 => by rw [List.map_cons, exch_s, exch_s, List.map_cons, exch_map f r p]
theorem exch_len {α : Type} : ∀ (l : List α) (p : Nat), (exch l p).length = l.length
  | [], p => by simp
  | [a], 0 => rfl
  | a :: b :: r, 0 => rfl
  | a :: r, p + 1 => by rw [exch_s, List.length_cons, List.length_cons, exch_len r p]
theorem exch_perm {α : Type} : ∀ (l : List α) (p : Nat), (exch l p).Perm l
  | [], p => by simp
  | [a], 0 => .refl _
  | a :: b :: r, 0 => .swap a b r
  | a :: r, p + 1 => by rw [exch_s]; exact (exch_perm r p).cons a
theorem exch_two {α : Type} : ∀ (l : List α) (p : Nat), exch (exch l p) p = l
  | [], p => by simp
  | [a], 0 => rfl
  | a :: b :: r, 0 => rfl
  | a :: r, p + 1 => by rw [exch_s, exch_s, exch_two r p]
theorem exch_at {α : Type} (a b : α) (R : List α) : ∀ (L : List α), exch (L ++ a :: b :: R) L.length = L ++ b :: a :: R
  | [] => rfl
  | x :: L => by rw [List.cons_append, List.length_cons, exch_s, exch_at a b R L, List.cons_append]
theorem exch_cut {α : Type} : ∀ (l : List α) (p : Nat) (h : p + 1 < l.length), l.take p ++ [l[p + 1], l[p]] ++ l.drop (p + 2) = exch l p
  | [], p, h => absurd h (Nat.not_lt_zero _)
  | [a], p, h => by simp at h
  | a :: b :: r, 0, h => rfl
  | a :: r, p + 1, h => by
    rw [exch_s, ← exch_cut r p (by simp at h; omega)]
    simp
/-- the runners behind passes -/
def runs {α : Type} (l : List α) (w : List Nat) : List α := w.foldl exch l
theorem runs_app {α : Type} (l : List α) (w v : List Nat) : runs l (w ++ v) = runs (runs l w) v := List.foldl_append
theorem runs_map {α β : Type} (f : α → β) : ∀ (w : List Nat) (l : List α), runs (l.map f) w = (runs l w).map f
  | [], l => rfl
  | p :: w, l => by
    show runs (exch (l.map f) p) w = (runs (exch l p) w).map f
    rw [exch_map, runs_map f w]
theorem runs_len {α : Type} : ∀ (w : List Nat) (l : List α), (runs l w).length = l.length
  | [], l => rfl
  | p :: w, l => (runs_len w (exch l p)).trans (exch_len l p)
theorem runs_perm {α : Type} : ∀ (w : List Nat) (l : List α), (runs l w).Perm l
  | [], l => .refl _
  | p :: w, l => (runs_perm w (exch l p)).trans (exch_perm l p)
theorem runs_back {α : Type} : ∀ (w : List Nat) (l : List α), runs (runs l w) w.reverse = l
  | [], l => rfl
  | p :: w, l => by
    show runs (runs (exch l p) w) (p :: w).reverse = l
    rw [List.reverse_cons, runs_app, runs_back w (exch l p)]
    exact exch_two l p
abbrev stand (n : Nat) (w : List Nat) : List Nat := runs (List.range n) w
theorem stand_lt {n : Nat} {w : List Nat} {x : Nat} (h : x ∈ stand n w) : x < n := List.mem_range.mp ((runs_perm w _).mem_iff.mp h)
theorem stand_len (n : Nat) (w : List Nat) : (stand n w).length = n := (runs_len w _).trans List.length_range
theorem range_get (l : List Nat) : (List.range l.length).map (fun i => l.getD i 0) = l := by
  apply List.ext_getElem
  · simp
  · intro i h1 h2
    simp [h2]
theorem runs_joined (l w : List Nat) : runs l w = (stand l.length w).map (fun i => l.getD i 0) := by
  rw [← runs_map, range_get]
theorem stand_joined (n : Nat) (w v : List Nat) : (stand n v).map (fun i => (stand n w).getD i 0) = stand n (w ++ v) := by
  have := runs_joined (stand n w) v
  rw [stand_len] at this
  rw [← this]
  exact (runs_app _ w v).symm
/-- the place of x -/
def place (x : Nat) (l : List Nat) : Nat := l.findIdx (· == x)
theorem place_of {l : List Nat} (hn : l.Nodup) {i : Nat} (h : i < l.length) : place l[i] l = i := by
  unfold place
  rw [List.findIdx_eq h]
  refine ⟨by simp, fun j hj => ?_⟩
  simp only [beq_eq_false_iff_ne, ne_eq]
  intro e
  have := List.pairwise_iff_getElem.mp hn j i (by omega) h hj
  exact this e
theorem stand_nodup (n : Nat) (w : List Nat) : (stand n w).Nodup := (runs_perm w _).nodup_iff.mpr List.nodup_range
theorem stand_undone (n : Nat) (w : List Nat) : (List.range n).map (fun r => place r (stand n w)) = stand n w.reverse := by
  have h1 : (stand n w.reverse).map (fun i => (stand n w).getD i 0) = List.range n := by
    rw [stand_joined, stand, runs_app]
    exact runs_back w _
  apply List.ext_getElem
  · simp [stand_len]
  · intro r h2 h3
    rw [List.getElem_map, List.getElem_range]
    have hv : (stand n w.reverse)[r] < n := stand_lt (List.getElem_mem h3)
    have hv2 : (stand n w.reverse)[r] < (stand n w).length := by rw [stand_len]; exact hv
    have h4 : (stand n w)[(stand n w.reverse)[r]] = r := by
      have h5 : ((stand n w.reverse).map (fun i => (stand n w).getD i 0))[r]'(by simpa using h3) = r := by
        have : ∀ (l : List Nat) (hl : r < l.length), l = List.range n → l[r] = r := fun l hl e => by subst e; simp
        exact this _ _ h1
      rw [List.getElem_map] at h5
      simpa [List.getD, hv2] using h5
    have := place_of (stand_nodup n w) hv2
    rw [h4] at this
    exact this
/-! the cuts that the programs make -/
theorem cut_to {α : Type} (xs : List α) (p : Nat) : cutD xs none (some (p : Int)) = xs.take p := by
  unfold cutD
  rw [HT.sIx_none, HT.sIx_nat, List.drop_zero, Nat.sub_zero, List.take_eq_take_iff]
  omega
theorem cut_from {α : Type} (xs : List α) (p : Nat) : cutD xs (some (p : Int)) none = xs.drop p := by
  unfold cutD
  rw [HT.sIx_none, HT.sIx_nat]
  by_cases h : p ≤ xs.length
  · rw [Nat.min_eq_left h]
    apply List.take_of_length_le
    rw [List.length_drop]
    exact Nat.le_refl _
  · rw [Nat.min_eq_right (by omega), List.drop_length, List.drop_eq_nil_of_le (by omega)]
    simp
theorem cut_to_n (xs : List Nat) (p : Nat) : cutD (nts xs) none (some (p : Int)) = nts (xs.take p) := by rw [nts_cut, cut_to]
theorem cut_from_n (xs : List Nat) (p : Nat) : cutD (nts xs) (some (p : Int)) none = nts (xs.drop p) := by rw [nts_cut, cut_from]
theorem cut_from2 (xs : List Nat) (p : Nat) : cutD (nts xs) (some ((p : Int) + 2)) none = nts (xs.drop (p + 2)) := cut_from_n xs (p + 2)
theorem exch_nts {l : List Nat} {p : Nat} (h : p + 1 < l.length) : nts (l.take p) ++ ([D.int (l[p + 1] : Nat), D.int (l[p] : Nat)] ++ nts (l.drop (p + 2))) = nts (exch l p) := by
  rw [← exch_cut l p h, ← nts_app, ← nts_app, List.append_assoc]
  rfl
theorem exch_nts' {l : List Nat} {p : Nat} (h : p + 1 < l.length) : nts (l.take p) ++ D.int (l[p + 1] : Nat) :: D.int (l[p] : Nat) :: nts (l.drop (p + 2)) = nts (exch l p) := exch_nts h
theorem erase_perm {α : Type} : ∀ (l : List α) (i : Nat) (h : i < l.length), (l[i] :: l.eraseIdx i).Perm l
  | [], i, h => absurd h (Nat.not_lt_zero _)
  | a :: l, 0, h => .refl _
  | a :: l, i + 1, h => by
    have hl : i < l.length := by simpa using h
    rw [List.getElem_cons_succ, List.eraseIdx_cons_succ]
    exact (List.Perm.swap a l[i] _).trans ((erase_perm l i hl).cons a)
theorem loop_nts {i : Nat} {B : Fs} (P : List Nat → Env → Prop) (step : ∀ p w ρ, P (p :: w) ρ → Ok (asg (.nm i) (.int (p : Nat)) ρ) fun ρ1 => Ok (B ρ1) fun y => y.1 = .nx ∧ P w y.2) {w : List Nat} {ρ : Env} (h : P w ρ) :
    Ok (loopF (.nm i) B (nts w) ρ) fun y => y.1 = .nx ∧ P [] y.2 := by
  refine (loopF_rel (fun ds ρ => ∃ w, ds = nts w ∧ P w ρ) (fun fl ρ => fl = .nx ∧ P [] ρ) ?_ ?_ (nts w) ρ ⟨w, rfl, h⟩)
  · rintro d ds ρ ⟨w, e, hp⟩
    cases w with
    | nil => cases e
    | cons p w =>
      rw [nts_cons] at e
      cases e
      refine (step p w ρ hp).imp fun ρ1 h1 => h1.imp fun y ⟨h2, h3⟩ => ?_
      obtain ⟨fl, ρ2⟩ := y
      dsimp only at h2
      subst h2
      exact ⟨w, rfl, h3⟩
  · rintro ρ ⟨w, e, hp⟩
    cases w with
    | nil => exact ⟨rfl, hp⟩
    | cons p w => cases e
theorem anyF_n (x : Nat) : ∀ l : List Nat, anyF (.int (x : Nat)) (nts l) = some (decide (x ∈ l))
  | [] => rfl
  | y :: l => by
    rw [nts_cons]
    unfold anyF
    rw [anyF_n x l]
    have e : eqF (.int (y : Nat)) (.int (x : Nat)) = some (decide (y = x)) := by
      show some (eqV (V.int (y : Nat)) (V.int (x : Nat))) = _
      have : eqV (V.int (y : Nat)) (V.int (x : Nat)) = decide (((y : Nat) : Int) = (x : Nat)) := by
        first
        | rfl
        | simp [eqV]
      rw [this]
      congr 1
      by_cases h : y = x <;> simp [h]
      omega
    rw [e]
    simp only [Option.bind_some, Option.map_some]
    congr 1
    by_cases h : y = x
    · simp [h]
    · have h' : ¬ x = y := fun z => h z.symm
      simp [h, h']
theorem in_ntup (x : Nat) (l : List Nat) : inD (.int (x : Nat)) (.tup (nts l)) = some (decide (x ∈ l)) := anyF_n x l
theorem in_nlst (x : Nat) (l : List Nat) : inD (.int (x : Nat)) (.lst (nts l)) = some (decide (x ∈ l)) := anyF_n x l
theorem idxP_n (x : Nat) : ∀ l : List Nat, x ∈ l → idxP (.int (x : Nat)) (pyL (nts l)) = some (place x l)
  | [], h => by simp at h
  | y :: l, h => by
    rw [nts_cons]
    show idxP (.int (x : Nat)) (PyData.int (y : Nat) :: pyL (nts l)) = _
    unfold idxP
    by_cases e : y = x
    · subst e
      have : PyData.eqv (.int (y : Nat)) (.int (y : Nat)) = true := by simp [PyData.eqv]
      rw [if_pos this]
      simp [place, List.findIdx_cons]
    · have h2 : ¬ PyData.eqv (.int (y : Nat)) (.int (x : Nat)) = true := by
        simp only [PyData.eqv, beq_iff_eq]
        omega
      have h3 : x ∈ l := by
        rcases List.mem_cons.mp h with q | q
        · exact absurd q.symm e
        · exact q
      rw [if_neg h2, idxP_n x l h3]
      have e5 : (y == x) = false := by simpa using e
      simp [place, List.findIdx_cons, e5]
theorem idx_n {x : Nat} {l : List Nat} (h : x ∈ l) : idxD (.tup (nts l)) (.int (x : Nat)) = some ((place x l : Nat) : Int) := by
  show (if SeqAt.shaped (.tuple (pyL (nts l))) = true ∧ SeqAt.shaped (py (.int (x : Nat))) = true then (idxP (.int (x : Nat)) (pyL (nts l))).map fun j => ((j : Nat) : Int) else none) = _
  rw [if_pos ⟨by have := shaped_tup' (l.map fun n : Nat => (n : Int)); rw [← nts_eq] at this; exact this, by simp [py, SeqAt.shaped, PyData.canLay0, PyData.depth]⟩, idxP_n x l h]
  rfl
/-- enumerate, from k on -/
def enFrom (k : Nat) : List D → List D
  | [] => []
  | d :: ds => .tup [.int (k : Nat), d] :: enFrom (k + 1) ds
theorem enFrom_get : ∀ (ds : List D) (k i : Nat) (h : i < ds.length), (enFrom k ds)[i]? = some (.tup [.int ((k + i : Nat) : Int), ds[i]])
  | d :: ds, k, 0, h => rfl
  | d :: ds, k, i + 1, h => by
    show (enFrom (k + 1) ds)[i]? = _
    rw [enFrom_get ds (k + 1) i (by simpa using h)]
    simp only [List.getElem_cons_succ]
    congr 4
    omega
theorem enFrom_len : ∀ (ds : List D) (k : Nat), (enFrom k ds).length = ds.length
  | [], _ => rfl
  | d :: ds, k => congrArg (· + 1) (enFrom_len ds (k + 1))
theorem enD_from (ds : List D) : enD ds = enFrom 0 ds := by
  apply List.ext_getElem?
  intro i
  by_cases h : i < ds.length
  · rw [enFrom_get ds 0 i h]
    unfold enD
    simp [h]
  · rw [List.getElem?_eq_none (by rw [enD_len]; omega), List.getElem?_eq_none (by rw [enFrom_len]; omega)]
theorem loop_en {i j : Nat} {B : Fs} (P : Nat → List Nat → Env → Prop) (step : ∀ k p w ρ, P k (p :: w) ρ → Ok (asg (.tp [.nm i, .nm j]) (.tup [.int (k : Nat), .int (p : Nat)]) ρ) fun ρ1 => Ok (B ρ1) fun y => y.1 = .nx ∧ P (k + 1) w y.2) {w : List Nat} {ρ : Env} (h : P 0 w ρ) :
    Ok (loopF (.tp [.nm i, .nm j]) B (enD (nts w)) ρ) fun y => y.1 = .nx ∧ P w.length [] y.2 := by
  rw [enD_from]
  refine (loopF_rel (fun ds ρ => ∃ k v, ds = enFrom k (nts v) ∧ k + v.length = w.length ∧ P k v ρ) (fun fl ρ => fl = .nx ∧ P w.length [] ρ) ?_ ?_ _ ρ ⟨0, w, rfl, by omega, h⟩)
  · rintro d ds ρ ⟨k, v, e, hk, hp⟩
    cases v with
    | nil => cases e
    | cons p v =>
      rw [nts_cons] at e
      cases e
      refine (step k p v ρ hp).imp fun ρ1 h1 => h1.imp fun y ⟨h2, h3⟩ => ?_
      obtain ⟨fl, ρ2⟩ := y
      dsimp only at h2
      subst h2
      exact ⟨k + 1, v, rfl, by simp at hk; omega, h3⟩
  · rintro ρ ⟨k, v, e, hk, hp⟩
    cases v with
    | nil =>
      refine ⟨rfl, ?_⟩
      have : k = w.length := by simpa using hk
      rw [← this]
      exact hp
    | cons p v => cases e
theorem lc_nts {FE : Fd} {i : Nat} {vs : List Nat} {ρ : Env} (f : Nat → D) : ∀ {w : List Nat}, (∀ p ∈ w, Ok (asg (.nm i) (.int (p : Nat)) ρ) fun ρ1 => Ok (FE ρ1) fun y => y.1 = f p ∧ wipeE y.2 vs = ρ) → Ok (lcF (.nm i) yesT FE vs (nts w) ρ) fun z => z = (w.map f, ρ) := by
  intro w h
  refine (lcF_rel (fun ds acc ρ' => ∃ v u, ds = nts v ∧ w = u ++ v ∧ acc = u.map f ∧ ρ' = ρ) ?_ (nts w) [] ρ ⟨w, [], rfl, rfl, rfl, rfl⟩).imp ?_
  · rintro d ds acc ρ' ⟨v, u, e, ew, ea, rfl⟩
    cases v with
    | nil => cases e
    | cons p v =>
      rw [nts_cons] at e
      cases e
      refine (h p (by rw [ew]; simp)).imp fun ρ1 h1 => h1.imp fun y ⟨h2, h3⟩ => ?_
      exact ⟨v, u ++ [p], rfl, by rw [ew]; simp, by rw [ea, h2]; simp, h3⟩
  · rintro ⟨l, ρ'⟩ ⟨v, u, e, ew, ea, er⟩
    cases v with
    | nil =>
      rw [List.append_nil] at ew
      subst ew
      dsimp only at ea er
      rw [List.nil_append] at ea
      rw [ea, er]
    | cons p v => cases e
/-- .. with a test -/
theorem lcT_nts {T : Ft} {FE : Fd} {i : Nat} {vs : List Nat} {ρ : Env} (t : Nat → Bool) (f : Nat → D) : ∀ {w : List Nat}, (∀ p ∈ w, Ok (asg (.nm i) (.int (p : Nat)) ρ) fun ρ1 => Ok (T ρ1) fun x => x.1 = t p ∧ (t p = false → wipeE x.2 vs = ρ) ∧ (t p = true → Ok (FE x.2) fun y => y.1 = f p ∧ wipeE y.2 vs = ρ)) →
    Ok (lcF (.nm i) T FE vs (nts w) ρ) fun z => z = ((w.filter t).map f, ρ) := by
  intro w h
  refine (lcT_rel (fun ds acc ρ' => ∃ v u, ds = nts v ∧ w = u ++ v ∧ acc = (u.filter t).map f ∧ ρ' = ρ) ?_ (nts w) [] ρ ⟨w, [], rfl, rfl, rfl, rfl⟩).imp ?_
  · rintro d ds acc ρ' ⟨v, u, e, ew, ea, rfl⟩
    cases v with
    | nil => cases e
    | cons p v =>
      rw [nts_cons] at e
      cases e
      refine (h p (by rw [ew]; simp)).imp fun ρ1 h1 => h1.imp fun x ⟨h2, h3, h4⟩ => ?_
      obtain ⟨b, ρ2⟩ := x
      dsimp only at h2
      subst h2
      cases ht : t p with
      | true =>
        simp only [if_true]
        refine (h4 ht).imp fun y ⟨h5, h6⟩ => ⟨v, u ++ [p], rfl, by rw [ew]; simp, by rw [ea, h5]; simp [List.filter_append, ht], h6⟩
      | false =>
        simp only [Bool.false_eq_true, if_false]
        exact ⟨v, u ++ [p], rfl, by rw [ew]; simp, by rw [ea]; simp [List.filter_append, ht], h3 ht⟩
  · rintro ⟨l, ρ'⟩ ⟨v, u, e, ew, ea, er⟩
    cases v with
    | nil =>
      rw [List.append_nil] at ew
      subst ew
      dsimp only at ea er
      rw [List.nil_append] at ea
      rw [ea, er]
    | cons p v => cases e
/-! the told form: plain lists -/
/-- k passes that lead one to the front, from behind k others on -/
def fall (r k : Nat) : List Nat := (List.range k).map fun j => r - 1 - j
theorem fall_s (r k : Nat) : fall (r + 1) (k + 1) = r :: fall r k := by
  unfold fall
  rw [List.range_succ_eq_map, List.map_cons, List.map_map]
  congr 1
  apply List.map_congr_left
  intro j _
  show r + 1 - 1 - (j + 1) = r - 1 - j
  omega
theorem move {α : Type} (x : α) : ∀ (k : Nat) (X Y Z : List α), Y.length = k → runs (X ++ Y ++ x :: Z) (fall (X.length + k) k) = X ++ x :: Y ++ Z
  | 0, X, Y, Z, h => by
    have : Y = [] := List.length_eq_zero_iff.mp h
    subst this
    simp [fall, runs]
  | k + 1, X, Y, Z, h => by
    obtain ⟨Y', y, rfl⟩ : ∃ Y' y, Y = Y' ++ [y] := ⟨Y.dropLast, Y.getLast (by intro e; rw [e] at h; simp at h), (List.dropLast_concat_getLast _).symm⟩
    have hY : Y'.length = k := by simpa using h
    rw [← Nat.add_assoc, fall_s]
    show runs (exch (X ++ (Y' ++ [y]) ++ x :: Z) (X.length + k)) (fall (X.length + k) k) = _
    have e : exch (X ++ (Y' ++ [y]) ++ x :: Z) (X.length + k) = X ++ Y' ++ x :: (y :: Z) := by
      have := exch_at y x Z (X ++ Y')
      rw [List.length_append, hY] at this
      rw [← this]
      congr 1
      simp
    rw [e, move x k X Y' (y :: Z) hY]
    simp
def small (r : Nat) (l : List Nat) : List Nat := l.filter fun x => decide (x < r)
theorem small_range (r : Nat) : ∀ n, r ≤ n → small r (List.range n) = List.range r := by
  intro n h
  obtain ⟨m, rfl⟩ := Nat.exists_eq_add_of_le h
  unfold small
  rw [List.range_add, List.filter_append]
  have h1 : (List.range r).filter (fun x => decide (x < r)) = List.range r := List.filter_eq_self.mpr fun x hx => decide_eq_true (List.mem_range.mp hx)
  have h2 : ((List.range m).map fun x => r + x).filter (fun x => decide (x < r)) = [] := by
    rw [List.filter_eq_nil_iff]
    intro x hx
    obtain ⟨y, _, rfl⟩ := List.mem_map.mp hx
    simp
  rw [h1, h2, List.append_nil]
theorem small_len {n r : Nat} {l : List Nat} (hl : l.Perm (List.range n)) (h : r ≤ n) : (small r l).length = r := by
  have := (hl.filter fun x => decide (x < r)).length_eq
  have e := small_range r n h
  unfold small at e ⊢
  rw [this, e, List.length_range]
def back (l : List Nat) (r : Nat) : Nat := (small r (l.drop (place r l))).length
theorem split_at {l : List Nat} {r : Nat} (h : r ∈ l) : ∃ A B, l = A ++ r :: B ∧ r ∉ A := by
  induction l with
  | nil => simp at h
  | cons x l ih =>
    by_cases e : x = r
    · exact ⟨[], l, by rw [e]; rfl, by simp⟩
    · obtain ⟨A, B, h1, h2⟩ := ih (by rcases List.mem_cons.mp h with q | q; exact absurd q.symm e; exact q)
      exact ⟨x :: A, B, by rw [h1]; rfl, by simp [h2]; exact fun z => e z.symm⟩
theorem place_split {A B : List Nat} {r : Nat} (h : r ∉ A) : place r (A ++ r :: B) = A.length := by
  induction A with
  | nil => simp [place, List.findIdx_cons]
  | cons x A ih =>
    simp only [List.mem_cons, not_or] at h
    have e : (x == r) = false := by simpa using fun z : x = r => h.1 z.symm
    have := ih h.2
    unfold place at this ⊢
    simp [List.findIdx_cons, e, this]
theorem small_same {r : Nat} {A : List Nat} (h : r ∉ A) : small (r + 1) A = small r A := by
  unfold small
  apply List.filter_congr
  intro x hx
  have : x ≠ r := fun e => h (e ▸ hx)
  congr 1
  simp only [eq_iff_iff]
  omega
theorem form_step {n r : Nat} {l T : List Nat} (hl : l.Perm (List.range n)) (h : r < n) : runs (small r l ++ r :: T) (fall r (back l r)) = small (r + 1) l ++ T := by
  have hm : r ∈ l := hl.mem_iff.mpr (List.mem_range.mpr h)
  obtain ⟨A, B, e, hA⟩ := split_at hm
  have hnd : l.Nodup := hl.nodup_iff.mpr List.nodup_range
  have hB : r ∉ B := fun z => by
    rw [e, List.nodup_append] at hnd
    exact (List.nodup_cons.mp hnd.2.1).1 z
  have hlen := small_len hl (Nat.le_of_lt h)
  have e1 : small r l = small r A ++ small r B := by
    rw [e]
    unfold small
    rw [List.filter_append, List.filter_cons, if_neg (by simp)]
  have e2 : small (r + 1) l = small r A ++ r :: small r B := by
    rw [← small_same hA, ← small_same hB, e]
    unfold small
    rw [List.filter_append, List.filter_cons, if_pos (by simp)]
  have e3 : back l r = (small r B).length := by
    unfold back
    rw [e, place_split hA, List.drop_left]
    unfold small
    rw [List.filter_cons, if_neg (by simp)]
  have hr : (small r A).length + (small r B).length = r := by rw [← List.length_append, ← e1]; exact hlen
  have := move r (small r B).length (small r A) (small r B) T rfl
  rw [hr] at this
  rw [e1, e2, e3, this]
theorem back_le {n r : Nat} {l : List Nat} (hl : l.Perm (List.range n)) (h : r ≤ n) : back l r ≤ r := by
  have h1 := small_len hl h
  have h2 : (small r (l.drop (place r l))).length ≤ (small r l).length := by
    unfold small
    exact ((List.drop_sublist _ _).filter _).length_le
  unfold back
  omega
def formTo (l : List Nat) (m : Nat) : List Nat := ((List.range' 1 m).map fun r => fall r (back l r)).flatten
theorem formTo_s (l : List Nat) (m : Nat) : formTo l (m + 1) = formTo l m ++ fall (m + 1) (back l (m + 1)) := by
  unfold formTo
  rw [List.range'_concat]
  simp [Nat.add_comm]
theorem form_to {n : Nat} {l : List Nat} (hl : l.Perm (List.range n)) : ∀ m, m + 1 ≤ n → stand n (formTo l m) = small (m + 1) l ++ List.range' (m + 1) (n - (m + 1))
  | 0, h => by
    have h1 : (small 1 l).Perm (small 1 (List.range n)) := hl.filter _
    rw [small_range 1 n h] at h1
    have h2 : small 1 l = [0] := List.perm_singleton.mp h1
    show List.range n = small 1 l ++ _
    rw [h2, List.range_eq_range']
    obtain ⟨k, rfl⟩ := Nat.exists_eq_add_of_le h
    rw [Nat.add_sub_cancel_left, Nat.add_comm 1 k]
    rfl
  | m + 1, h => by
    rw [formTo_s, stand, runs_app]
    have ih := form_to hl m (by omega)
    unfold stand at ih
    rw [ih]
    have e : List.range' (m + 1) (n - (m + 1)) = (m + 1) :: List.range' (m + 2) (n - (m + 2)) := by
      obtain ⟨k, hk⟩ := Nat.exists_eq_add_of_le h
      have e1 : n - (m + 1) = k + 1 := by omega
      have e2 : n - (m + 2) = k := by omega
      rw [e1, e2]
      rfl
    rw [e]
    exact form_step hl (by omega)
theorem form_makes {n : Nat} {l : List Nat} (hl : l.Perm (List.range n)) (h : 1 ≤ n) : stand n (formTo l (n - 1)) = l := by
  rw [form_to hl (n - 1) (by omega)]
  have e : n - 1 + 1 = n := by omega
  rw [e, Nat.sub_self]
  have : small n l = l := List.filter_eq_self.mpr fun x hx => decide_eq_true (List.mem_range.mp (hl.mem_iff.mp hx))
  rw [this]
  simp
theorem form_word {n : Nat} {l : List Nat} (hl : l.Perm (List.range n)) (m : Nat) (h : m + 1 ≤ n) : ∀ p ∈ formTo l m, p + 1 < n := by
  intro p hp
  unfold formTo at hp
  obtain ⟨w, hw, hpw⟩ := List.mem_flatten.mp hp
  obtain ⟨r, hr, rfl⟩ := List.mem_map.mp hw
  rw [List.mem_range'_1] at hr
  unfold fall at hpw
  obtain ⟨j, hj, rfl⟩ := List.mem_map.mp hpw
  omega
theorem form_len {n : Nat} {l : List Nat} (hl : l.Perm (List.range n)) : ∀ m, m + 1 ≤ n → 2 * (formTo l m).length ≤ m * (m + 1)
  | 0, _ => by simp [formTo]
  | m + 1, h => by
    rw [formTo_s, List.length_append]
    have h1 := form_len hl m (by omega)
    have h2 := back_le hl (r := m + 1) (by omega)
    have h3 : (fall (m + 1) (back l (m + 1))).length = back l (m + 1) := by unfold fall; simp
    have h4 : (m + 1) * (m + 1 + 1) = m * (m + 1) + (m + 1) + (m + 1) := by rw [Nat.mul_add (m + 1) (m + 1) 1, Nat.mul_one, Nat.add_mul m 1 (m+1), Nat.one_mul]
    rw [h4, h3]
    omega
theorem rng2_n {n : Nat} (h : n < 2 ^ 24) : rng2 [.int 1, .int (n : Nat)] = some (nts (List.range' 1 (n - 1))) := by
  unfold rng2
  dsimp only
  have e : (okI 1 && okI (n : Int)) = true := by
    unfold okI
    simp only [Bool.and_eq_true, decide_eq_true_eq]
    omega
  rw [if_pos e]
  unfold rgD nts
  refine congrArg some ?_
  have e2 : ((n : Int) - 1).toNat = n - 1 := by omega
  rw [e2, List.range'_eq_map_range, List.map_map]
  apply List.map_congr_left
  intro i _
  show D.int (1 + (i : Nat) * 1) = D.int ((1 + i : Nat) : Int)
  refine congrArg D.int ?_
  omega
theorem fall_nts {r k : Nat} (h : k ≤ r) : (List.range k).map (fun j => D.int ((r : Int) - 1 - (j : Nat))) = nts (fall r k) := by
  unfold fall nts
  rw [List.map_map]
  apply List.map_congr_left
  intro j hj
  have := List.mem_range.mp hj
  show D.int ((r : Int) - 1 - (j : Nat)) = D.int ((r - 1 - j : Nat) : Int)
  refine congrArg D.int ?_
  omega
/-! repr of small numbers -/
theorem showable_n : ∀ l : List Nat, (∀ x ∈ l, x < 1000000) → PyData.showableAll (pyL (nts l)) = true
  | [], _ => by simp [pyL, PyData.showableAll]
  | x :: l, h => by
    rw [nts_cons]
    show PyData.showableAll (PyData.int (x : Nat) :: pyL (nts l)) = true
    have h1 : (Int.natAbs (x : Nat)).log2 < 1920 := by
      have h2 := h x List.mem_cons_self
      have h3 : Int.natAbs (x : Nat) = x := by omega
      rw [h3]
      by_cases hx : x = 0
      · subst hx; decide
      · exact (Nat.log2_lt hx).mpr (Nat.lt_of_lt_of_le h2 (by decide +kernel))
    simp [PyData.showableAll, PyData.showable, showable_n l fun y hy => h y (List.mem_cons_of_mem _ hy)]
    exact h1
theorem lay_n : ∀ l : List Nat, PyData.canLayAll0 (pyL (nts l)) = true
  | [] => by simp [pyL, PyData.canLayAll0]
  | x :: l => by
    rw [nts_cons]
    show PyData.canLayAll0 (PyData.int (x : Nat) :: pyL (nts l)) = true
    simp [PyData.canLayAll0, PyData.canLay0, lay_n l]
theorem short_n : ∀ l : List Nat, (∀ x ∈ l, x < 1000000) → PyData.intsShortAll 13 (pyL (nts l)) = true
  | [], _ => by simp [pyL, PyData.intsShortAll]
  | x :: l, h => by
    rw [nts_cons]
    show PyData.intsShortAll 13 (PyData.int (x : Nat) :: pyL (nts l)) = true
    have h1 := h x List.mem_cons_self
    have h2 := PyData.shown_int_le (i := (x : Nat)) (by
      have : Int.natAbs (x : Nat) = x := by omega
      rw [this]; exact Nat.lt_of_lt_of_le h1 (by decide))
    simp [PyData.intsShortAll, PyData.intsShort, short_n l fun y hy => h y (List.mem_cons_of_mem _ hy), h2]
theorem depth_n : ∀ l : List Nat, PyData.depthAll (pyL (nts l)) = 0
  | [] => by simp [pyL, PyData.depthAll]
  | x :: l => by
    rw [nts_cons]
    show PyData.depthAll (PyData.int (x : Nat) :: pyL (nts l)) = 0
    simp [PyData.depthAll, PyData.depth, depth_n l]
theorem weight_n : ∀ l : List Nat, (∀ x ∈ l, x < 1000000) → PyData.weightAll (pyL (nts l)) ≤ 22 * l.length
  | [], _ => by simp [pyL, PyData.weightAll]
  | x :: l, h => by
    rw [nts_cons]
    show PyData.weightAll (PyData.int (x : Nat) :: pyL (nts l)) ≤ 22 * (l.length + 1)
    have h1 := h x List.mem_cons_self
    have ih := weight_n l fun y hy => h y (List.mem_cons_of_mem _ hy)
    have h3 : Int.natAbs (x : Nat) = x := by omega
    have h4 : PyData.weight (.int (x : Nat)) ≤ 21 := by
      simp only [PyData.weight, h3]
      split
      · omega
      · rename_i hx
        have : x ≠ 0 := fun z => hx (by subst z; rfl)
        have : x.log2 < 20 := (Nat.log2_lt this).mpr (Nat.lt_of_lt_of_le h1 (by decide))
        omega
    simp only [PyData.weightAll]
    omega
theorem repr_n {l : List Nat} (hl : l.length ≤ 1000) (h : ∀ x ∈ l, x < 1000000) : ∃ s : Str, reprD [D.tup (nts l)] = some (Rv.imm (.str s)) := by
  have c : (PyData.tuple (pyL (nts l))).canLay0 = true := by simp only [PyData.canLay0]; exact lay_n l
  have e2 : (2 : Nat) ^ 20 = 1048576 := by decide
  have o : reprOk (.tup (nts l)) = true := by
    unfold reprOk
    show ((PyData.tuple (pyL (nts l))).canLay0 && (PyData.tuple (pyL (nts l))).showable && decide ((PyData.tuple (pyL (nts l))).depth ≤ 100) && decide ((PyData.tuple (pyL (nts l))).shown.length ≤ sizeLine)) = true
    have w := weight_n l h
    have s1 : (PyData.tuple (pyL (nts l))).showable = true := by simp only [PyData.showable]; exact showable_n l h
    have s2 : (PyData.tuple (pyL (nts l))).depth ≤ 100 := by simp only [PyData.depth, depth_n]; decide
    have s3 := PyData.shown_fits (B := 13) (by decide) (by decide) (PyData.leavesShort_of_canLay0 13 (.tuple (pyL (nts l))) c (by simp only [PyData.intsShort]; exact short_n l h)) (by simp only [PyData.weight]; omega)
    rw [c, s1, decide_eq_true s2, decide_eq_true s3]; rfl
  refine ⟨(PyData.tuple (pyL (nts l))).shown, ?_⟩
  show (if isRef (.tup (nts l)) = true ∧ reprOk (.tup (nts l)) = true then some (Rv.imm (.str (py (.tup (nts l))).shown)) else none) = _
  rw [if_pos ⟨rfl, o⟩]
  rfl
end Ev
/-! text M11 -/
set_option Elab.async false
set_option linter.all false
set_option maxRecDepth 100000
set_option maxHeartbeats 4000000
namespace Ev
open PySem L2
/-- words that places have -/
def WordOk (n : Nat) (w : List Nat) : Prop := ∀ p ∈ w, p + 1 < n
theorem perm_lt {n : Nat} {l : List Nat} (h : l.Perm (List.range n)) {x : Nat} (hx : x ∈ l) : x < n := List.mem_range.mp (h.mem_iff.mp hx)
theorem perm_len {n : Nat} {l : List Nat} (h : l.Perm (List.range n)) : l.length = n := h.length_eq.trans List.length_range
theorem perm_nodup {n : Nat} {l : List Nat} (h : l.Perm (List.range n)) : l.Nodup := h.nodup_iff.mpr List.nodup_range
end Ev
/-! text Ev30 -/
set_option Elab.async false
set_option linter.all false
set_option maxRecDepth 100000
set_option maxHeartbeats 4000000
/-! ### zip of two lists or tuples, mixed -/
namespace Ev
open PySem
open Sem (wp)
/-- t: a tuple, else a list -/
def SSq (t : Bool) (h : Heap) (l : Addr) (xs : Array Value) : Prop := if t = true then h.IsTuple l xs else h.IsList l xs
def SIt (t : Bool) (h : Heap) (i l : Addr) (k : Nat) : Prop := if t = true then h.IsTupleIter i l k else h.IsListIter i l k
theorem SSq.bt {t : Bool} {h h' : Heap} {c l : Addr} {xs : Array Value} (q : SSq t h l xs) (e : Heap.ExtBut c h h') (n : l ≠ c) : SSq t h' l xs := by
  cases t
  · exact Heap.IsList.extBut (show h.IsList l xs from q) e n
  · exact Heap.IsTuple.extBut (show h.IsTuple l xs from q) e n
theorem SIt.bt {t : Bool} {h h' : Heap} {c i l : Addr} {k : Nat} (q : SIt t h i l k) (e : Heap.ExtBut c h h') (n : i ≠ c) : SIt t h' i l k := by
  cases t
  · exact Heap.IsListIter.extBut (show h.IsListIter i l k from q) e n
  · exact Heap.IsTupleIter.extBut (show h.IsTupleIter i l k from q) e n
theorem SIt.ob {t : Bool} {h : Heap} {i l : Addr} {k : Nat} (q : SIt t h i l k) : ∃ o, h.get? i = some o ∧ ∀ v, o.data ≠ .cell v := by
  cases t
  · obtain ⟨o, a, _, d⟩ := (show h.IsListIter i l k from q)
    exact ⟨o, a, fun v z => by rw [d] at z; cases z⟩
  · obtain ⟨o, a, _, d⟩ := (show h.IsTupleIter i l k from q)
    exact ⟨o, a, fun v z => by rw [d] at z; cases z⟩
theorem SIt.to {t : Bool} {h h' : Heap} {i l : Addr} {k : Nat} (q : SIt t h i l k) (e : ∀ o, h.get? i = some o → h'.get? i = some o) : SIt t h' i l k := by
  cases t
  · exact Heap.IsListIter.at (show h.IsListIter i l k from q) e
  · exact Heap.IsTupleIter.at (show h.IsTupleIter i l k from q) e
section
variable {prog : Program} {w : World} {A : Around} {E : Value → Shared → Prop} {s : Shared}
theorem sit_item {t : Bool} {i l : Addr} {k : Nat} {xs : Array Value} {x : Value} {Q : Value → Shared → Prop} (a : SIt t s.heap i l k) (b : SSq t s.heap l xs) (e : xs[k]? = some x)
    (q : ∀ g, SIt t g i l (k + 1) → Heap.SameBut i s.heap g → Q x { s with heap := g }) : wpAny (model prog w) A (Builtin.SmallTypes.nextOf (.ref i)) Q E s := by
  cases t
  · exact wpAny_nextOf_list_item (show s.heap.IsListIter i l k from a) (show s.heap.IsList l xs from b) e q
  · exact RZ.nextOf_tuple_item (show s.heap.IsTupleIter i l k from a) (show s.heap.IsTuple l xs from b) e q
theorem sit_end {t : Bool} {i l : Addr} {k : Nat} {xs : Array Value} {Q : Value → Shared → Prop} (hh : A.handled = none) (a : SIt t s.heap i l k) (b : SSq t s.heap l xs) (e : xs[k]? = none)
    (q : ∀ g z, Heap.ExtBut i s.heap g → (∃ o, g.get? z = some o ∧ o.cls = .type "StopIteration") → E (.ref z) { s with heap := g }) : wpAny (model prog w) A (Builtin.SmallTypes.nextOf (.ref i)) Q E s := by
  cases t
  · exact wpAny_nextOf_list_end hh (show s.heap.IsListIter i l k from a) (show s.heap.IsList l xs from b) e q
  · exact RZ.nextOf_tuple_end hh (show s.heap.IsTupleIter i l k from a) (show s.heap.IsTuple l xs from b) e q
theorem zipX_item {t u : Bool} {z P O i j l m : Addr} {k n : Nat} {xs ys : Array Value} {x y a b : Value} {Q : Value → Shared → Prop} (D : ZipApart z P O i j l m)
    (gz : IsZip s.heap z P O .none) (gP : IsPair s.heap P (.ref i) (.ref j)) (gO : IsPair s.heap O a b)
    (gi : SIt t s.heap i l k) (gj : SIt u s.heap j m n) (gl : SSq t s.heap l xs) (gm : SSq u s.heap m ys) (ex : xs[k]? = some x) (ey : ys[n]? = some y)
    (hQ : ∀ g, IsZip g z P O (rawInt s.heap.objs.size) → IsPair g O x y → SIt t g i l (k + 1) → SIt u g j m (n + 1) → IsPair g s.heap.objs.size x y → g.objs.size = s.heap.objs.size + 1 →
      (∀ c o, c ≠ z → c ≠ O → c ≠ i → c ≠ j → s.heap.get? c = some o → g.get? c = some o) → Q (.ref s.heap.objs.size) { s with heap := g }) :
    wpAny (model prog w) A (Builtin.«zip.__next__» ⟨[.ref z], []⟩) (fun fin s' => ∃ v, fin = .done (.ret v) ∧ Q v s') E s := by
  show wpAny _ _ (field (.ref z) 2 >>= _) _ _ _
  refine wpAny_bind (wpAny_field gz rfl (x := .bool false) rfl ?_); show wpAny _ _ (field (.ref z) 3 >>= _) _ _ _
  refine wpAny_bind (wpAny_field gz rfl (x := .ref P) rfl (wpAny_bind (wpAny_seqItems gP rfl ?_)))
  show wpAny _ _ (Builtin.SmallTypes.ownedTupleIsFree (.ref z) >>= _) _ _ _; refine wpAny_bind ?_; unfold Builtin.SmallTypes.ownedTupleIsFree
  refine wpAny_bind (wpAny_field gz rfl (x := .none) rfl (wpAny_pure ?_)); simp only [if_true]
  refine wpAny_bind (wpAny_rule (wpAny_bind (wpAny_field gz rfl (x := .ref O) rfl (wpAny_bind (wpAny_setField_rec gz (by simp) fun g1 z1 s1 => ?_)))))
  replace z1 : IsZip g1 z P O .ellipsis := z1
  refine wpAny_bind ?_; simp only [List.zipIdx_cons, List.zipIdx_nil, List.forIn_cons, List.forIn_nil]
  refine wpAny_bind (wpAny_bind (wpAny_onRaise ?_)); show wpAny _ _ (Builtin.SmallTypes.nextOf (.ref i) >>= _) _ _ _
  refine wpAny_bind (sit_item (gi.bt s1.extBut D.i1z) (gl.bt s1.extBut D.l1z) ex fun g2 i2 s2 => wpAny_pure ?_)
  have O2 : IsPair g2 O a b := s2.extBut _ _ D.TOi1 (s1.extBut _ _ D.TOz gO)
  refine wpAny_bind (wpAny_seqItems O2 rfl (wpAny_bind (wpAny_updateSeq_pair O2 fun g3 O3 s3 => ?_))); replace O3 : IsPair g3 O x b := O3
  refine wpAny_bind (wpAny_letGo (wpAny_pure ?_)); refine wpAny_bind (wpAny_bind (wpAny_onRaise ?_)); show wpAny _ _ (Builtin.SmallTypes.nextOf (.ref j) >>= _) _ _ _
  refine wpAny_bind (sit_item (((gj.bt s1.extBut D.i2z).bt s2.extBut D.i12.symm).bt s3.extBut D.TOi2.symm) (((gm.bt s1.extBut D.l2z).bt s2.extBut D.l2i1).bt s3.extBut D.l2TO) ey fun g4 j4 s4 => wpAny_pure ?_)
  have O4 : IsPair g4 O x b := s4.extBut _ _ D.TOi2 O3
  refine wpAny_bind (wpAny_seqItems O4 rfl (wpAny_bind (wpAny_updateSeq_pair O4 fun g5 O5 s5 => ?_))); replace O5 : IsPair g5 O x y := O5
  refine wpAny_bind (wpAny_letGo (wpAny_pure (wpAny_pure (wpAny_bind (wpAny_seqItems O5 rfl (wpAny_bind (wpAny_newTuple ?_)))))))
  have sz : g5.objs.size = s.heap.objs.size := by rw [s5.1, s4.1, s3.1, s2.1, s1.1]
  have z5 : IsZip g5 z P O .ellipsis := s5.extBut _ _ D.TOz.symm (s4.extBut _ _ D.i2z.symm (s3.extBut _ _ D.TOz.symm (s2.extBut _ _ D.i1z.symm z1)))
  have k5 : ∀ c o, c ≠ z → c ≠ O → c ≠ i → c ≠ j → s.heap.get? c = some o → g5.get? c = some o := fun c o a1 a2 a3 a4 e =>
    s5.extBut _ _ a2 (s4.extBut _ _ a4 (s3.extBut _ _ a2 (s2.extBut _ _ a3 (s1.extBut _ _ a1 e))))
  have i5 : SIt t g5 i l (k + 1) := ((i2.bt s3.extBut D.TOi1.symm).bt s4.extBut D.i12).bt s5.extBut D.TOi1.symm
  have j5 : SIt u g5 j m (n + 1) := j4.bt s5.extBut D.TOi2.symm
  have lz : z < g5.objs.size := Heap.lt_size z5
  show wpAny _ _ (Builtin.SmallTypes.ownedTupleHandOut (.ref z) (.ref g5.objs.size) >>= _) _ _ _; refine wpAny_bind ?_; unfold Builtin.SmallTypes.ownedTupleHandOut
  have z6 : IsZip (g5.push { cls := .type "tuple", data := .seq #[x, y] }) z P O .ellipsis := Heap.get?_push_of_some _ z5
  refine wpAny_bind (wpAny_setField_rec z6 (by simp) fun g7 z7 s7 => ?_); replace z7 : IsZip g7 z P O (rawInt g5.objs.size) := z7
  refine wpAny_setField_rec z7 (by simp) fun g8 z8 s8 => ?_; replace z8 : IsZip g8 z P O (rawInt g5.objs.size) := z8
  have up : ∀ c o, c ≠ z → g5.get? c = some o → g8.get? c = some o := fun c o a1 e => s8.extBut _ _ a1 (s7.extBut _ _ a1 (Heap.get?_push_of_some _ e))
  have T8 : IsPair g8 g5.objs.size x y := s8.extBut _ _ (Nat.ne_of_gt lz) (s7.extBut _ _ (Nat.ne_of_gt lz) (Heap.get?_push_size _ rfl))
  have sz8 : g8.objs.size = g5.objs.size + 1 := by rw [s8.1, s7.1, Heap.size_push]
  rw [sz] at z8 T8 sz8
  refine wpAny_pure ⟨_, rfl, ?_⟩; show Q (.ref g5.objs.size) _; rw [sz]
  exact hQ g8 z8 (up _ _ D.TOz O5) (i5.to fun o e => up _ o D.i1z e) (j5.to fun o e => up _ o D.i2z e) T8 sz8 fun c o a1 a2 a3 a4 e => up c o a1 (k5 c o a1 a2 a3 a4 e)
theorem zipX_end {t u : Bool} {z P O i j l m : Addr} {k n : Nat} {xs ys : Array Value} {a b : Value} {Q : Fin → Shared → Prop} (hh : A.handled = none) (D : ZipApart z P O i j l m)
    (gz : IsZip s.heap z P O .none) (gP : IsPair s.heap P (.ref i) (.ref j)) (gO : IsPair s.heap O a b)
    (gi : SIt t s.heap i l k) (gj : SIt u s.heap j m n) (gl : SSq t s.heap l xs) (gm : SSq u s.heap m ys) (he : xs[k]? = none ∨ ys[n]? = none)
    (hE : ∀ g e, (∀ c o, c ≠ z → c ≠ O → c ≠ i → c ≠ j → s.heap.get? c = some o → g.get? c = some o) → (∃ o, g.get? e = some o ∧ o.cls = .type "StopIteration") → E (.ref e) { s with heap := g }) :
    wpAny (model prog w) A (Builtin.«zip.__next__» ⟨[.ref z], []⟩) Q E s := by
  show wpAny _ _ (field (.ref z) 2 >>= _) _ _ _
  refine wpAny_bind (wpAny_field gz rfl (x := .bool false) rfl ?_); show wpAny _ _ (field (.ref z) 3 >>= _) _ _ _
  refine wpAny_bind (wpAny_field gz rfl (x := .ref P) rfl (wpAny_bind (wpAny_seqItems gP rfl ?_)))
  show wpAny _ _ (Builtin.SmallTypes.ownedTupleIsFree (.ref z) >>= _) _ _ _; refine wpAny_bind ?_; unfold Builtin.SmallTypes.ownedTupleIsFree
  refine wpAny_bind (wpAny_field gz rfl (x := .none) rfl (wpAny_pure ?_)); simp only [if_true]
  refine wpAny_bind (wpAny_rule (wpAny_bind (wpAny_field gz rfl (x := .ref O) rfl (wpAny_bind (wpAny_setField_rec gz (by simp) fun g1 z1 s1 => ?_)))))
  replace z1 : IsZip g1 z P O .ellipsis := z1
  refine wpAny_bind ?_; simp only [List.zipIdx_cons, List.zipIdx_nil, List.forIn_cons, List.forIn_nil]
  refine wpAny_bind (wpAny_bind (wpAny_onRaise ?_)); show wpAny _ _ (Builtin.SmallTypes.nextOf (.ref i) >>= _) _ _ _
  cases ex : xs[k]? with
  | none =>
    refine wpAny_bind (sit_end hh (gi.bt s1.extBut D.i1z) (gl.bt s1.extBut D.l1z) ex fun g2 e s2 r => ?_)
    obtain ⟨oe, q1, q2⟩ := r
    have z2 : IsZip g2 z P O .ellipsis := s2 _ _ D.i1z.symm z1
    have ne : e ≠ z := fun q => by subst q; rw [z2] at q1; cases q1; simp at q2
    exact wpAny_setField_rec z2 (by simp) fun g3 _ s3 => hE g3 e (fun c o a1 _ a3 _ q => s3.extBut _ _ a1 (s2 _ _ a3 (s1.extBut _ _ a1 q))) ⟨oe, s3.extBut _ _ ne q1, q2⟩
  | some x =>
    have ey : ys[n]? = none := he.elim (fun q => by rw [ex] at q; cases q) id
    refine wpAny_bind (sit_item (gi.bt s1.extBut D.i1z) (gl.bt s1.extBut D.l1z) ex fun g2 i2 s2 => wpAny_pure ?_)
    have O2 : IsPair g2 O a b := s2.extBut _ _ D.TOi1 (s1.extBut _ _ D.TOz gO)
    refine wpAny_bind (wpAny_seqItems O2 rfl (wpAny_bind (wpAny_updateSeq_pair O2 fun g3 O3 s3 => ?_)))
    refine wpAny_bind (wpAny_letGo (wpAny_pure ?_)); refine wpAny_bind (wpAny_bind (wpAny_onRaise ?_)); show wpAny _ _ (Builtin.SmallTypes.nextOf (.ref j) >>= _) _ _ _
    refine wpAny_bind (sit_end hh (((gj.bt s1.extBut D.i2z).bt s2.extBut D.i12.symm).bt s3.extBut D.TOi2.symm) (((gm.bt s1.extBut D.l2z).bt s2.extBut D.l2i1).bt s3.extBut D.l2TO) ey fun g4 e s4 r => ?_)
    obtain ⟨oe, q1, q2⟩ := r
    have z4 : IsZip g4 z P O .ellipsis := s4 _ _ D.i2z.symm (s3.extBut _ _ D.TOz.symm (s2.extBut _ _ D.i1z.symm z1))
    have ne : e ≠ z := fun q => by subst q; rw [z4] at q1; cases q1; simp at q2
    exact wpAny_setField_rec z4 (by simp) fun g5 _ s5 => hE g5 e (fun c o a1 a2 a3 a4 q => s5.extBut _ _ a1 (s4 _ _ a4 (s3.extBut _ _ a2 (s2.extBut _ _ a3 (s1.extBut _ _ a1 q))))) ⟨oe, s5.extBut _ _ ne q1, q2⟩
theorem nextX_item {t u : Bool} {z P O i j l m : Addr} {k n : Nat} {xs ys : Array Value} {x y a b : Value} {Q : Option Value → Shared → Prop} (D : ZipApart z P O i j l m)
    (gz : IsZip s.heap z P O .none) (gP : IsPair s.heap P (.ref i) (.ref j)) (gO : IsPair s.heap O a b)
    (gi : SIt t s.heap i l k) (gj : SIt u s.heap j m n) (gl : SSq t s.heap l xs) (gm : SSq u s.heap m ys) (ex : xs[k]? = some x) (ey : ys[n]? = some y)
    (hQ : ∀ g, IsZip g z P O (rawInt s.heap.objs.size) → IsPair g O x y → SIt t g i l (k + 1) → SIt u g j m (n + 1) → IsPair g s.heap.objs.size x y → g.objs.size = s.heap.objs.size + 1 →
      (∀ c o, c ≠ z → c ≠ O → c ≠ i → c ≠ j → s.heap.get? c = some o → g.get? c = some o) → Q (some (.ref s.heap.objs.size)) { s with heap := g }) :
    wpAny (model prog w) A (pyNext (.ref z)) Q E s := by
  have ty : s.TypeIs (.ref z) "zip" := ⟨_, gz, rfl⟩
  unfold pyNext
  exact wpAny_bind (wpAny_attempt (wpAny_callSpecial?_slot (name := Str.ofString "__next__") ty F.slot_zip_next (wpAny_call_entry F.slot_zip_next ty F.entry_zip_next
    (zipX_item D gz gP gO gi gj gl gm ex ey fun g a1 a2 a3 a4 a5 a6 a7 => wpAny_pure (hQ g a1 a2 a3 a4 a5 a6 a7)) (F.args_zip_next_1 _))))
theorem nextX_end {t u : Bool} {z P O i j l m : Addr} {k n : Nat} {xs ys : Array Value} {a b : Value} {Q : Option Value → Shared → Prop} (hh : A.handled = none) (D : ZipApart z P O i j l m)
    (gz : IsZip s.heap z P O .none) (gP : IsPair s.heap P (.ref i) (.ref j)) (gO : IsPair s.heap O a b)
    (gi : SIt t s.heap i l k) (gj : SIt u s.heap j m n) (gl : SSq t s.heap l xs) (gm : SSq u s.heap m ys) (he : xs[k]? = none ∨ ys[n]? = none)
    (hQ : ∀ g, (∀ c o, c ≠ z → c ≠ O → c ≠ i → c ≠ j → s.heap.get? c = some o → g.get? c = some o) → Q none { s with heap := g }) : wpAny (model prog w) A (pyNext (.ref z)) Q E s := by
  have ty : s.TypeIs (.ref z) "zip" := ⟨_, gz, rfl⟩
  unfold pyNext
  refine wpAny_bind (wpAny_attempt (wpAny_callSpecial?_slot (name := Str.ofString "__next__") ty F.slot_zip_next
    (wpAny_call_entry F.slot_zip_next ty F.entry_zip_next (zipX_end hh D gz gP gO gi gj gl gm he fun g e kk r => ?_) (F.args_zip_next_1 _))))
  obtain ⟨o, q1, q2⟩ := r
  exact wpAny_bind (wpAny_isInstance (T := "StopIteration") (b := true) ⟨o, q1, q2⟩ isSubtype_stop (wpAny_pure (hQ _ kk)))
end
end Ev
/-! text Ev31 -/
set_option Elab.async false
set_option linter.all false
set_option maxRecDepth 100000
set_option maxHeartbeats 4000000
namespace Ev
open PySem PySem.Spec PyProof.Rows
open Sem (wp)
def itN : Bool → String
  | true => "tuple_iterator"
  | false => "list_iterator"
abbrev zx1 (t : Bool) (h : Heap) (l : Addr) : Heap := h.push { cls := .type (itN t), data := .fields #[.ref l, .int 0 0] }
abbrev zx2 (t u : Bool) (h : Heap) (l m : Addr) : Heap := zx1 u (zx1 t h l) m
abbrev zx3 (t u : Bool) (h : Heap) (l m : Addr) : Heap := (zx2 t u h l m).push { cls := .type "tuple", data := .seq #[.ref h.objs.size, .ref (zx1 t h l).objs.size] }
abbrev zx4 (t u : Bool) (h : Heap) (l m : Addr) : Heap := (zx3 t u h l m).push { cls := .type "tuple", data := .seq #[.none, .none] }
abbrev zx5 (t u : Bool) (h : Heap) (l m : Addr) : Heap := (zx4 t u h l m).push { cls := .type "zip", data := .fields #[.none, .bool false, .bool false, .ref (zx2 t u h l m).objs.size, .ref (zx3 t u h l m).objs.size] }
theorem zipX_new (t u : Bool) (l m : Addr) (xs ys : Array Value) : Meets (Builtin.«zip.__new__» ⟨[.type "zip", .ref l, .ref m], []⟩) (fun _ R s => SSq t s.heap l xs ∧ SSq u s.heap m ys ∧
      R (.ok (.ret (.ref (zx4 t u s.heap l m).objs.size))) { s with heap := zx5 t u s.heap l m }) :=
  .of_wp fun prog w A R s h => by
    obtain ⟨hp, g, d, tk, os⟩ := s; obtain ⟨a, b, h⟩ := h
    have hsub := sub_zip
    cases t <;> cases u
    · have A1 : Heap.IsList (Shared.heap ⟨hp, g, d, tk, os⟩) l xs := a
      have A2 : Heap.IsList (Shared.heap ⟨hp.push { cls := .type "list_iterator", data := .fields #[.ref l, .int 0 0] }, g, d, tk, os⟩) m ys := Heap.IsList.push (show hp.IsList m ys from b) _
      wp_walk using wpAny_pyIter_list A1, wpAny_pyIter_list A2
      exact ⟨_, rfl, h⟩
    · have A1 : Heap.IsList (Shared.heap ⟨hp, g, d, tk, os⟩) l xs := a
      have A2 : Heap.IsTuple (Shared.heap ⟨hp.push { cls := .type "list_iterator", data := .fields #[.ref l, .int 0 0] }, g, d, tk, os⟩) m ys := Heap.IsTuple.push (show hp.IsTuple m ys from b) _
      wp_walk using wpAny_pyIter_list A1, wpAny_pyIter_tuple A2
      exact ⟨_, rfl, h⟩
    · have A1 : Heap.IsTuple (Shared.heap ⟨hp, g, d, tk, os⟩) l xs := a
      have A2 : Heap.IsList (Shared.heap ⟨hp.push { cls := .type "tuple_iterator", data := .fields #[.ref l, .int 0 0] }, g, d, tk, os⟩) m ys := Heap.IsList.push (show hp.IsList m ys from b) _
      wp_walk using wpAny_pyIter_tuple A1, wpAny_pyIter_list A2
      exact ⟨_, rfl, h⟩
    · have A1 : Heap.IsTuple (Shared.heap ⟨hp, g, d, tk, os⟩) l xs := a
      have A2 : Heap.IsTuple (Shared.heap ⟨hp.push { cls := .type "tuple_iterator", data := .fields #[.ref l, .int 0 0] }, g, d, tk, os⟩) m ys := Heap.IsTuple.push (show hp.IsTuple m ys from b) _
      wp_walk using wpAny_pyIter_tuple A1, wpAny_pyIter_tuple A2
      exact ⟨_, rfl, h⟩
theorem SIt.new {t : Bool} {h : Heap} {i l : Addr} (e : h.get? i = some { cls := .type (itN t), data := .fields #[.ref l, .int 0 0] }) : SIt t h i l 0 := by
  cases t
  · exact (show h.IsListIter i l 0 from ⟨_, e, rfl, rfl⟩)
  · exact (show h.IsTupleIter i l 0 from ⟨_, e, rfl, rfl⟩)
section
variable {prog : Program} {w : World} {A : Around} {E : Value → Shared → Prop} {s : Shared}
theorem call_zipX {t u : Bool} {l m : Addr} {xs ys : Array Value} {Q : Value → Shared → Prop} (a : SSq t s.heap l xs) (b : SSq u s.heap m ys)
    (h : ∀ g, IsZip g (s.heap.objs.size + 4) (s.heap.objs.size + 2) (s.heap.objs.size + 3) .none → IsPair g (s.heap.objs.size + 2) (.ref s.heap.objs.size) (.ref (s.heap.objs.size + 1)) →
      IsPair g (s.heap.objs.size + 3) .none .none → SIt t g s.heap.objs.size l 0 → SIt u g (s.heap.objs.size + 1) m 0 → (∀ c o, s.heap.get? c = some o → g.get? c = some o) → Q (.ref (s.heap.objs.size + 4)) { s with heap := g }) :
    wpAny (model prog w) A (call (.type "zip") [.ref l, .ref m]) Q E s := by
  refine callType_new F.called_zip (by decide) (F.typeCall_zip_2 _ _) (F.newCall_zip_2 _ _) (fun obj => F.args_object_init_3 obj _ _) F.entry_zip_new (zipX_new t u l m xs ys) ⟨a, b, ?_⟩
  have e1 : (zx1 t s.heap l).objs.size = s.heap.objs.size + 1 := Heap.size_push ..
  have e2 : (zx2 t u s.heap l m).objs.size = s.heap.objs.size + 2 := by rw [Heap.size_push, e1]
  have e3 : (zx3 t u s.heap l m).objs.size = s.heap.objs.size + 3 := by rw [Heap.size_push, e2]
  have e4 : (zx4 t u s.heap l m).objs.size = s.heap.objs.size + 4 := by rw [Heap.size_push, e3]
  have up : ∀ {g : Heap} (o : Obj) {c : Addr} {p : Obj}, g.get? c = some p → (g.push o).get? c = some p := fun o => Heap.get?_push_of_some _
  have q5 : (zx5 t u s.heap l m).get? (zx4 t u s.heap l m).objs.size = some _ := Heap.get?_push_size _ rfl
  have q4 : (zx5 t u s.heap l m).get? (zx3 t u s.heap l m).objs.size = some _ := up _ (Heap.get?_push_size _ rfl)
  have q3 : (zx5 t u s.heap l m).get? (zx2 t u s.heap l m).objs.size = some _ := up _ (up _ (Heap.get?_push_size _ rfl))
  have q2 : (zx5 t u s.heap l m).get? (zx1 t s.heap l).objs.size = some _ := up _ (up _ (up _ (Heap.get?_push_size _ rfl)))
  have q1 : (zx5 t u s.heap l m).get? s.heap.objs.size = some _ := up _ (up _ (up _ (up _ (Heap.get?_push_size _ rfl))))
  show _ ∧ _
  rw [e2, e3, e4] at q5; rw [e1, e2] at q3; rw [e3] at q4; rw [e1] at q2; rw [e4]
  exact ⟨⟨_, q5, rfl⟩, h _ q5 q3 q4 (.new q1) (.new q2) fun c o x => up _ (up _ (up _ (up _ (up _ x))))⟩
end
end Ev
namespace Ev
open PySem L2
/-- items of both as they stand at each turn, in a new pair -/
def ItZ (S S2 : Hp → List V → Prop) : It :=
  ⟨fun i H => ∃ (xs ys : List V) (x y : V), S H xs ∧ S2 H ys ∧ xs[i]? = some x ∧ ys[i]? = some y,
    fun i H v H' => ∃ T ob x y, v = .ref T ∧ ob.dict = none ∧ H T = none ∧ H' = upd H T (.frz ob (.tup [x, y])) ∧ (∀ xs, S H xs → xs[i]? = some x) ∧ ∀ ys, S2 H ys → ys[i]? = some y,
    fun i H => ∃ xs ys : List V, S H xs ∧ S2 H ys ∧ (xs.length ≤ i ∨ ys.length ≤ i)⟩
/-- a tracked list or tuple -/
def Sq (K : PySem.W.Frag) (t : Bool) (a : Addr) (H : Hp) (xs : List V) : Prop := if t = true then SqT K H a xs else SqL K H a xs
theorem Sq.in_ {X : Cx} {pins : List (Addr × Obj)} {σ : St} {H : Hp} {s : Shared} {t : Bool} {a : Addr} {xs : List V} (I : Inv X pins σ H s) (q : Sq X.K t a H xs) :
    ∃ its : List Value, Vals xs its ∧ SSq t s.heap a its.toArray ∧ a < s.heap.objs.size := by
  cases t
  · obtain ⟨its, rv, p, _⟩ := I.list (show SqL X.K H a xs from q)
    exact ⟨its, rv, p.isList, p.lt⟩
  · obtain ⟨its, rv, p, _⟩ := I.tuple (show SqT X.K H a xs from q)
    have p' : s.heap.IsTuple a its.toArray := p
    obtain ⟨o, ho, _⟩ := id p'
    exact ⟨its, rv, p', Heap.lt_size ho⟩
theorem Sq.inj {X : Cx} {pins : List (Addr × Obj)} {σ : St} {H : Hp} {s : Shared} {t : Bool} {a : Addr} {xs ys : List V} (I : Inv X pins σ H s) (q : Sq X.K t a H xs) (r : Sq X.K t a H ys) : xs = ys := by
  cases t
  · exact I.list_inj (show SqL X.K H a xs from q) r
  · exact I.tuple_inj (show SqT X.K H a xs from q) r
theorem turn_zipX {P : Program} {w : World} {K : PySem.W.Frag} {elts : List Expr} {kk : Nat} {tpos : Pos} {t u : Bool} {a b z TI TO i j : Addr} (D : ZipApart z TI TO i j a b) :
    Turn P w K (.Tuple elts kk tpos) (ItZ (Sq K t a) (Sq K u b)) [z, TI, TO, i, j] z (fun n h => IsZip h z TI TO .none ∧ IsPair h TI (.ref i) (.ref j) ∧ (∃ x y, IsPair h TO x y) ∧ SIt t h i a n ∧ SIt u h j b n) where
  mem := by simp
  obj := fun n h st c hc => by
    obtain ⟨hz, hI, ⟨x, y, hO⟩, h1, h2⟩ := st
    obtain ⟨o1, e1, d1⟩ := h1.ob
    obtain ⟨o2, e2, d2⟩ := h2.ob
    rcases (show c = z ∨ c = TI ∨ c = TO ∨ c = i ∨ c = j by simpa using hc) with q | q | q | q | q <;> subst q
    · exact ⟨_, hz, fun v q => nomatch q⟩
    · exact ⟨_, hI, fun v q => nomatch q⟩
    · exact ⟨_, hO, fun v q => nomatch q⟩
    · exact ⟨o1, e1, d1⟩
    · exact ⟨o2, e2, d2⟩
  keep := fun n h h' st k => by
    obtain ⟨hz, hI, ⟨x, y, hO⟩, h1, h2⟩ := st
    exact ⟨k z (by simp) _ hz, k TI (by simp) _ hI, ⟨x, y, k TO (by simp) _ hO⟩, h1.to fun o q => k i (by simp) o q, h2.to fun o q => k j (by simp) o q⟩
  item := by
    intro X hP hw hK hc n pins s σ H E I hf st hg
    subst hP hw hK
    obtain ⟨hz, hI, ⟨x0, y0, hO⟩, h1, h2⟩ := st
    obtain ⟨xs, ys, x, y, qx, qy, hx, hy⟩ := hg
    obtain ⟨its, rv, p, _⟩ := qx.in_ I
    obtain ⟨its2, rv2, p2, _⟩ := qy.in_ I
    obtain ⟨v, hv, r⟩ := rv.get hx
    obtain ⟨v2, hv2, r2⟩ := rv2.get hy
    have zl : z < s.heap.objs.size := Heap.lt_size hz
    refine nextX_item D hz hI hO h1 h2 p p2 (x := v) (y := v2) (by simpa using hv) (by simpa using hv2) fun g z' O' i' j' hT hsz hk => ?_
    refine ⟨_, rfl, wpAny_letOwnedTupleGo_zip (s := { s with heap := g }) z' fun g2 z2 sb => ?_⟩
    have T2 : g2.get? s.heap.objs.size = some { cls := .type "tuple", data := .seq #[v, v2] } := (sb.2 _ (Nat.ne_of_gt zl)).trans hT
    have new : ObjOk X.prog X.w (upd H s.heap.objs.size (.frz { cls := .type "tuple", data := .seq #[v, v2] } (.tup [x, y]))) g2 s.heap.objs.size (.frz { cls := .type "tuple", data := .seq #[v, v2] } (.tup [x, y])) :=
      ⟨T2, by show 2 ≤ sizeLine; decide, [v, v2], .cons r (.cons r2 .nil), ⟨_, T2, rfl, _, rfl⟩⟩
    have I1 : Inv X pins σ (upd H s.heap.objs.size (.frz { cls := .type "tuple", data := .seq #[v, v2] } (.tup [x, y]))) { s with heap := g2 } :=
      I.turnedNew (t' := s.toks) (ch := [z, TI, TO, i, j]) (fun c o hb q => (sb.2 c (fun e => hb (by simp [e]))).trans (hk c o (fun e => hb (by simp [e])) (fun e => hb (by simp [e])) (fun e => hb (by simp [e])) (fun e => hb (by simp [e])) q)) hf (Nat.le_refl _) new
    refine ⟨.ref s.heap.objs.size, _, I1, rfl, ⟨_, _, x, y, rfl, rfl, I.hok.fresh (Nat.le_refl _), rfl, fun l hl => by rw [hl.inj I qx]; exact hx, fun l hl => by rw [hl.inj I qy]; exact hy⟩, ⟨z2, ?_, ⟨v, v2, ?_⟩, ?_, ?_⟩, fun c hcm => ?_⟩
    · exact (sb.2 _ D.TIz).trans (hk _ _ D.TIz D.TITO D.TIi1 D.TIi2 hI)
    · exact (sb.2 _ D.TOz).trans O'
    · exact i'.to fun o q => (sb.2 _ D.i1z).trans q
    · exact j'.to fun o q => (sb.2 _ D.i2z).trans q
    · have hlt : c < s.heap.objs.size := by
        rcases (show c = z ∨ c = TI ∨ c = TO ∨ c = i ∨ c = j by simpa using hcm) with q | q | q | q | q <;> subst q
        · exact zl
        · exact Heap.lt_size hI
        · exact Heap.lt_size hO
        · obtain ⟨_, e1, _⟩ := h1.ob; exact Heap.lt_size e1
        · obtain ⟨_, e1, _⟩ := h2.ob; exact Heap.lt_size e1
      rw [upd_ne (Nat.ne_of_lt hlt)]
      exact (hf c hcm).1
  done := by
    intro X hP hw hK hc n pins s σ H E I hf st hg
    subst hP hw hK
    obtain ⟨hz, hI, ⟨x0, y0, hO⟩, h1, h2⟩ := st
    obtain ⟨xs, ys, qx, qy, hend⟩ := hg
    obtain ⟨its, rv, p, _⟩ := qx.in_ I
    obtain ⟨its2, rv2, p2, _⟩ := qy.in_ I
    have l1 := rv.length
    have l2 := rv2.length
    refine nextX_end (I.ok.hd hc) D hz hI hO h1 h2 p p2 (hend.elim (fun q => .inl (by simp; omega)) fun q => .inr (by simp; omega)) fun g hk => ⟨rfl, I.turnedL (t' := s.toks) (ch := [z, TI, TO, i, j]) (fun c o hb q =>
      hk c o (fun e => hb (by simp [e])) (fun e => hb (by simp [e])) (fun e => hb (by simp [e])) (fun e => hb (by simp [e])) q) hf⟩
  self := fun A i s Q E st h => wpAny_pyIter_zip st.1 h
def iZipX (K : PySem.W.Frag) (t u : Bool) (ta : TA) : TI := fun σ H R => ta σ H fun vs H1 => ∃ a b xs ys, vs = [.ref a, .ref b] ∧ Sq K t a H1 xs ∧ Sq K u b H1 ys ∧ R (ItZ (Sq K t a) (Sq K u b)) H1
theorem pi_zipX {X : Cx} {t u : Bool} {e e2 : Expr} {ta : TA} {p pos tpos : Pos} {elts : List Expr} {kk : Nat} (hg : Gl X "zip") (hm : X.mg "zip" = none) (ha : PA X [e, e2] ta)
    (hs : starEach [e, e2] X.env = (false, eval e X.env) :: starEach [e2] X.env) (hpl : (backTo pos (starEach [e2] X.env)).any (·.1) = false) :
    PI X (.Tuple elts kk tpos) (.Call (.Name "zip" p) [e, e2] [] pos) (iZipX X.K t u ta) := by
  refine ⟨fun pins s σ H R I h => ?_⟩
  refine PyProof.Rows.Call_ (ld_blt I hg hm PyProof.Rows.boot_zip (PyProof.Rows.callWith_type1 (thn (ha.run pos pins s σ H _ I h) fun us s1 ⟨vs, H1, I1, r1, q1⟩ => ?_) hs hpl))
  obtain ⟨a, b, xs, ys, ex, qx, qy, q⟩ := q1
  subst ex
  obtain ⟨v1, v2, rfl, r, r'⟩ : ∃ v1 v2, us = [v1, v2] ∧ RelV (.ref a) v1 ∧ RelV (.ref b) v2 := by
    cases r1 with
    | cons r rr =>
      cases rr with
      | cons r' rr => cases rr; exact ⟨_, _, rfl, r, r'⟩
  cases r
  cases r'
  obtain ⟨its, rv, p1, la⟩ := qx.in_ I1
  obtain ⟨its2, rv2, p2, lb⟩ := qy.in_ I1
  refine call_zipX p1 p2 fun g hz hI hO h1 h2 hk => wpAny_pyIter_zip hz ?_
  have I2 : Inv X pins σ H1 { s1 with heap := g } := I1.kept (t' := s1.toks) hk
  refine ⟨s1.heap.objs.size + 4, [s1.heap.objs.size + 4, s1.heap.objs.size + 2, s1.heap.objs.size + 3, s1.heap.objs.size, s1.heap.objs.size + 1], _, _, H1, rfl, I2, turn_zipX (PySem.W.ktu_apart s1.heap.objs.size a b la lb), ⟨hz, hI, ⟨_, _, hO⟩, h1, h2⟩, fun c hcm => ?_, q⟩
  have hle : s1.heap.objs.size ≤ c := by
    rcases (show c = s1.heap.objs.size + 4 ∨ c = s1.heap.objs.size + 2 ∨ c = s1.heap.objs.size + 3 ∨ c = s1.heap.objs.size ∨ c = s1.heap.objs.size + 1 by simpa using hcm) with z | z | z | z | z <;> (rw [z]; first | exact Nat.le_refl _ | exact Nat.le_add_right _ _)
  exact I1.fpOk hle (I1.hok.fresh hle)

/-! zip, as data -/
def zipD : List D → List D → List D
  | x :: xs, y :: ys => .tup [x, y] :: zipD xs ys
  | _, _ => []
theorem zipD_get : ∀ {xs ys : List D} {i : Nat} {d : D}, (zipD xs ys)[i]? = some d → ∃ x y, xs[i]? = some x ∧ ys[i]? = some y ∧ d = .tup [x, y]
  | [], _, _, _, h => by simp [zipD] at h
  | _ :: _, [], _, _, h => by simp [zipD] at h
  | x :: xs, y :: ys, 0, d, h => by simp [zipD] at h; exact ⟨x, y, rfl, rfl, h.symm⟩
  | x :: xs, y :: ys, i + 1, d, h => by
    obtain ⟨a, b, e1, e2, e3⟩ := zipD_get (xs := xs) (ys := ys) (i := i) (by simpa [zipD] using h)
    exact ⟨a, b, by simpa using e1, by simpa using e2, e3⟩
theorem zipD_len : ∀ xs ys : List D, xs.length ≤ (zipD xs ys).length ∨ ys.length ≤ (zipD xs ys).length
  | [], _ => .inl (Nat.zero_le _)
  | _ :: _, [] => .inr (Nat.zero_le _)
  | x :: xs, y :: ys => by
    rcases zipD_len xs ys with h | h
    · exact .inl (Nat.succ_le_succ h)
    · exact .inr (Nat.succ_le_succ h)
theorem Feed.zipX {W : Wd} {Hf : Hp} {S S2 : Hp → List V → Prop} {vs ws : List V} {ds es : List D} (hS : ∀ H', Sub Hf H' → S H' vs) (hS2 : ∀ H', Sub Hf H' → S2 H' ws) (r : RpL W Hf vs ds) (r2 : RpL W Hf ws es) : Feed W (ItZ S S2) Hf (zipD ds es) where
  go := fun i d H' Hf' e m s => by
    obtain ⟨x, y, e1, e2, rfl⟩ := zipD_get e
    obtain ⟨v, h1, rv⟩ := r.get e1
    obtain ⟨v2, h2, rv2⟩ := r2.get e2
    have hq : S H' vs := hS H' fun b o q => s _ _ (m _ _ q)
    have hq2 : S2 H' ws := hS2 H' fun b o q => s _ _ (m _ _ q)
    refine ⟨⟨vs, ws, v, v2, hq, hq2, h1, h2⟩, fun y H3 ⟨T, ob, x', y', e2, hn, hT, e3, e4, e5⟩ => ?_⟩
    subst e2 e3
    have t1 := e4 vs hq
    rw [h1] at t1; cases t1
    have t2 := e5 ws hq2
    rw [h2] at t2; cases t2
    have hTf : Hf' T = none := free_of s hT
    have up : ∀ b o, Hf b = some o → (upd Hf' T (.frz ob (.tup [v, v2]))) b = some o := fun b o q => by rw [upd_ne (ne_of_none (m _ _ q) hTf)]; exact m _ _ q
    exact ⟨upd Hf' T (.frz ob (.tup [v, v2])), Ext.pair (W := W) s hT, .tup upd_same hn (.cons (rv.mono up) (.cons (rv2.mono up) .nil))⟩
  stop := fun H' Hf' m s => ⟨vs, ws, hS H' fun b o q => s _ _ (m _ _ q), hS2 H' fun b o q => s _ _ (m _ _ q), by rw [r.length, r2.length]; exact zipD_len ds es⟩
def zipI : List D → Option (List D)
  | [.lst a, .lst b] => some (zipD a b)
  | [.lst a, .tup b] => some (zipD a b)
  | [.tup a, .lst b] => some (zipD a b)
  | [.tup a, .tup b] => some (zipD a b)
  | _ => none
/-- zip(xs, ys); xs, ys values -/
def zipF (FL : Fl) : Fi := fun ρ => (FL ρ).bind fun x => (zipI x.1).map fun ds => (ds, x.2)
theorem pit_zip {X : Cx} {e e2 : Expr} {FL : Fl} {p pos tpos : Pos} {elts : List Expr} {kk : Nat} (hg : Gl X "zip") (hm : X.mg "zip" = none) (ha : PLs X [e, e2] FL) (hs : noStar e = true) (hs2 : noStar e2 = true) :
    PIt X (.Tuple elts kk tpos) (.Call (.Name "zip" p) [e, e2] [] pos) (zipF FL) :=
  have h1 := starEach_cons (env := X.env) (es := [e2]) hs
  have h2 := starEach_plain (env := X.env) (es := [e2]) pos (by simp [hs2])
  pi_imp (pi_or2 (pi_or2 (pi_zipX (t := false) (u := false) hg hm ha h1 h2) (pi_zipX (t := false) (u := true) hg hm ha h1 h2)) (pi_or2 (pi_zipX (t := true) (u := false) hg hm ha h1 h2) (pi_zipX (t := true) (u := true) hg hm ha h1 h2))) fun σ H R ⟨ρ, loc, Hf, items, ρ', s, hF, k⟩ => by
    unfold zipF at hF
    obtain ⟨⟨ds, ρ1⟩, q1, hF⟩ := Option.bind_eq_some_iff.mp hF
    obtain ⟨es, q2, q3⟩ := Option.map_eq_some_iff.mp hF
    cases q3
    dsimp only at q2
    unfold zipI at q2
    split at q2
    · cases q2
      refine .inl (.inl ⟨ρ, loc, Hf, _, _, s, q1, fun vs H1 Hf1 g1 s1 r => ?_⟩)
      obtain ⟨v, u, rfl, r1, r2⟩ := rpl_two r
      obtain ⟨a, ws, rfl, h, rl⟩ := rp_lst r1
      obtain ⟨b, ws2, rfl, h2, rl2⟩ := rp_lst r2
      exact ⟨_, _, _, _, rfl, SqL.of (s1.sub _ _ h), SqL.of (s1.sub _ _ h2), k _ H1 Hf1 g1 s1 (Feed.zipX (fun H' q => SqL.of (q _ _ h)) (fun H' q => SqL.of (q _ _ h2)) rl rl2)⟩
    · cases q2
      refine .inl (.inr ⟨ρ, loc, Hf, _, _, s, q1, fun vs H1 Hf1 g1 s1 r => ?_⟩)
      obtain ⟨v, u, rfl, r1, r2⟩ := rpl_two r
      obtain ⟨a, ws, rfl, h, rl⟩ := rp_lst r1
      obtain ⟨b, ob2, ws2, rfl, h2, _, rl2⟩ := rp_tup r2
      exact ⟨_, _, _, _, rfl, SqL.of (s1.sub _ _ h), sqT_fz (s1.sub _ _ h2), k _ H1 Hf1 g1 s1 (Feed.zipX (fun H' q => SqL.of (q _ _ h)) (fun H' q => sqT_fz (q _ _ h2)) rl rl2)⟩
    · cases q2
      refine .inr (.inl ⟨ρ, loc, Hf, _, _, s, q1, fun vs H1 Hf1 g1 s1 r => ?_⟩)
      obtain ⟨v, u, rfl, r1, r2⟩ := rpl_two r
      obtain ⟨a, ob, ws, rfl, h, _, rl⟩ := rp_tup r1
      obtain ⟨b, ws2, rfl, h2, rl2⟩ := rp_lst r2
      exact ⟨_, _, _, _, rfl, sqT_fz (s1.sub _ _ h), SqL.of (s1.sub _ _ h2), k _ H1 Hf1 g1 s1 (Feed.zipX (fun H' q => sqT_fz (q _ _ h)) (fun H' q => SqL.of (q _ _ h2)) rl rl2)⟩
    · cases q2
      refine .inr (.inr ⟨ρ, loc, Hf, _, _, s, q1, fun vs H1 Hf1 g1 s1 r => ?_⟩)
      obtain ⟨v, u, rfl, r1, r2⟩ := rpl_two r
      obtain ⟨a, ob, ws, rfl, h, _, rl⟩ := rp_tup r1
      obtain ⟨b, ob2, ws2, rfl, h2, _, rl2⟩ := rp_tup r2
      exact ⟨_, _, _, _, rfl, sqT_fz (s1.sub _ _ h), sqT_fz (s1.sub _ _ h2), k _ H1 Hf1 g1 s1 (Feed.zipX (fun H' q => sqT_fz (q _ _ h)) (fun H' q => sqT_fz (q _ _ h2)) rl rl2)⟩
    · cases q2
end Ev
/-! text Ev32 -/
set_option Elab.async false
set_option linter.all false
set_option maxRecDepth 100000
set_option maxHeartbeats 4000000
namespace Ev
open PySem L2
/-! ### a new object of an own class -/
/-- C(x, ..), of values: what its __init__ leaves -/
def makeF (c : Str) (F : Fn) (FL : Fl) : Fe := fun ρ => (FL ρ).bind fun x => match F (.own (.ins c []) :: x.1.map .imm) with
  | some (.imm .non, [c0]) => some (.own c0, x.2)
  | _ => none
section
variable {X : Cx} {k : Nat} {f Cc : Addr} {F : Fn} {e o value : Expr} {es : List Expr}
theorem run_makeC {pins : List (Addr × Obj)} {σ : St} {H : Hp} {s : Shared} {Q : VK} {us : List Value} {vs : List V} {sp : Sp} (M : Mk X.K Cc f) (co : CallOk X.prog X.w X.K X.mg X.base k f (us.length + 1) [] sp) (hr : Room (k + 1) X.A) (hgd : X.A.guards = some [])
    (I : Inv X pins σ H s) (r : Vals vs us) (h : ∀ x dx, H x = none → H dx = none → dx ≠ x → sp (.ref x :: vs) (upd (upd H dx (.own x)) x (.ins Cc dx [])) (fun v H2 => v = .non ∧ Q (.ref x) H2) E0) :
    wpAny (model X.prog X.w) X.A (call (.ref Cc) us) (EP X pins σ Q) X.xe s := by
  have hq := h (s.heap.objs.size + 1) s.heap.objs.size (I.hok.fresh (Nat.le_succ _)) (I.hok.fresh (Nat.le_refl _)) (Nat.ne_of_lt (Nat.lt_succ_self _))
  have I2 := Inv.made (C := Cc) I
  have r2 : Vals (V.ref (s.heap.objs.size + 1) :: vs) (Value.ref (s.heap.objs.size + 1) :: us) := .cons rfl r
  have z := co.run (X.A.under (.builtin "type.__call__" ⟨.ref Cc :: us, []⟩)) X.stack _ _ (Value.ref (s.heap.objs.size + 1) :: us) [] (V.ref (s.heap.objs.size + 1) :: vs) [] (fun v H2 => v = .non ∧ Q (.ref (s.heap.objs.size + 1)) H2) (hr.make Cc us []) hgd
    (I2.env0.make Cc us []) rfl rfl r2 .nil (by rw [List.append_nil]; exact hq)
  refine wpAny_call (make_map (f := f) I.kIn M.makes M.init (beq_iff_eq.mp M.fn) (codeAny_mono z fun res s' hq' => ?_))
  cases res with
  | error e => exact False.elim hq'
  | ok fl =>
    cases fl with
    | ret u =>
      obtain ⟨v, H', I3, rv, ev, q3⟩ := I2.after hq'
      subst ev
      exact ⟨rv, ⟨V.ref (s.heap.objs.size + 1), H', I3, rfl, q3⟩⟩
    | next => exact False.elim hq'
    | brk => exact False.elim hq'
    | cont => exact False.elim hq'
theorem arOk_imms {W : Wd} {loc : Loc} {H Hf : Hp} : ∀ {n : Nat} {vs : List V} {ds : List D}, RpL W Hf vs ds → ArOk W loc H Hf n vs (ds.map .imm)
  | _, _, _, .nil => trivial
  | n, _, _, .cons r t => ⟨r, arOk_imms t⟩
theorem csOk_imms {W : Wd} {loc : Loc} {H Hf : Hp} : ∀ {n : Nat} {ds : List D} {cs : List C}, CsOk W loc H Hf n (ds.map .imm) cs → cs = []
  | _, [], [], _ => rfl
  | _, [], _ :: _, h => h.elim
  | n, d :: ds, cs, h => csOk_imms (n := n + 1) (ds := ds) (show CsOk W loc H Hf (n + 1) (ds.map .imm) cs from h)
theorem notOwn_imms {ds : List D} {i : Nat} : isOwnAr (ds.map .imm) i = false := by
  unfold isOwnAr
  rw [List.getElem?_map]
  cases ds[i]? <;> rfl
theorem make_read {W : Wd} {c : Str} {FL : Fl} {σ : St} {H : Hp} {Q : VK} (hc : W.mg c = some (.ref Cc)) (h : tX W (makeF c F FL) σ H Q) :
    tL W FL σ H fun vs H1 => ∀ x dx, H1 x = none → H1 dx = none → dx ≠ x → spF W F (.ref x :: vs) (upd (upd H1 dx (.own x)) x (.ins Cc dx [])) (fun v H2 => v = .non ∧ Q (.ref x) H2) E0 := by
  obtain ⟨ρ, loc, Hf, r, ρ', s, hF, kk⟩ := h
  unfold makeF at hF
  obtain ⟨⟨ds, ρ1⟩, q1, hF⟩ := Option.bind_eq_some_iff.mp hF
  dsimp only at hF
  split at hF
  · rename_i c0 hFa
    cases hF
    refine ⟨ρ, loc, Hf, ds, _, s, q1, fun vs H1 Hf1 g1 s1 rl x dx hx hdx hne => ?_⟩
    have hfx : Hf1 x = none := free_of s1.sub hx
    have hth : ∀ a, (upd (upd H1 dx (.own x)) x (.ins Cc dx [])) a = none → H1 a = none := fun a q => by
      by_cases e1 : a = x
      · subst e1; exact hx
      · rw [upd_ne e1] at q
        by_cases e2 : a = dx
        · subst e2; exact hdx
        · rwa [upd_ne e2] at q
    have hkp : ∀ a o, H1 a = some o → (upd (upd H1 dx (.own x)) x (.ins Cc dx [])) a = some o := fun a o q => by
      rw [upd_ne (ne_of_none q hx), upd_ne (ne_of_none q hdx)]; exact q
    refine ⟨Hf1, fun _ => x, .own (.ins c []) :: ds.map .imm, _, _, fun a o q => hkp a o (s1.sub a o q), ⟨⟨rfl, hfx, Cc, dx, [], upd_same, hc, .nil⟩, arOk_imms rl⟩, fun i j hi hj _ => ?_, hFa, fun v H' Hf' g o rv => ?_⟩
    · have z : ∀ i, isOwnAr (Ar.own (.ins c []) :: ds.map .imm) i = true → i = 0 := fun i hi => by
        cases i with
        | zero => rfl
        | succ i =>
          have : isOwnAr (ds.map Ar.imm) i = true := hi
          rw [notOwn_imms] at this; cases this
      rw [z i hi, z j hj]
    · have nx : ∀ a o, H1 a = some o → ¬ OwnA (fun _ => x) (Ar.own (.ins c []) :: ds.map .imm) a := fun a o q ⟨i, _, e⟩ => ne_of_none q hx e.symm
      have E : Ext H1 Hf1 H' Hf' := ⟨g.sub, fun a o q => g.keep a o (hkp a o q) (nx a o q), fun a o q => g.frz a o (hkp a o q) (nx a o q)⟩
      have ev : v = .non := by cases rv; rfl
      obtain ⟨⟨o1, o2⟩, _⟩ := o
      refine ⟨ev, kk (.ref x) H' Hf' (g1.trans E.ge) (s1.ext E) ⟨x, rfl, ?_, o1, o2⟩⟩
      exact g1.there x hx
  · cases hF
theorem px_make {c x : Str} {FL : Fl} {p pos : Pos} (q : Cq X (k + 1)) (M : Mk X.K Cc f) (hg : Gl X x) (hm : X.mg x = some (.ref Cc)) (hc : X.mg c = some (.ref Cc)) (co : CallOk X.prog X.w X.K X.mg X.base k f ((e :: es).length + 1) [] (spF (wd X) F))
    (ha : PLs X (e :: es) FL) (hs : (e :: es).all noStar = true) (hdb : (x == ("__debug__" : Str)) = false) (hlen : ∀ ρ ds ρ', FL ρ = some (ds, ρ') → ds.length = (e :: es).length) : PX X (.Call (.Name x p) (e :: es) [] pos) (makeF c F FL) := by
  refine ⟨fun pins s σ H Q I h => ?_⟩
  have h1 := make_read (Cc := Cc) (W := wd X) hc h
  obtain ⟨ρ, loc, Hf, ds, ρ', s0, hF, kk⟩ := h1
  have h2 : tL (wd X) FL σ H fun vs H1 => vs.length = (e :: es).length ∧ ∀ x dx, H1 x = none → H1 dx = none → dx ≠ x → spF (wd X) F (.ref x :: vs) (upd (upd H1 dx (.own x)) x (.ins Cc dx [])) (fun v H2 => v = .non ∧ Q (.ref x) H2) E0 :=
    ⟨ρ, loc, Hf, ds, ρ', s0, hF, fun vs H1 Hf1 g1 s1 r => ⟨r.length.trans (hlen _ _ _ hF), kk vs H1 Hf1 g1 s1 r⟩⟩
  refine wpAny_Call_Name_kw (ld_glob I hg hm ?_ hdb)
  rw [List.all_cons, Bool.and_eq_true] at hs
  refine PySem.W.callWith_K (h₀ := X.base) I.ok.mod.kin M.kp (thn (ha.run pos pins s σ H _ I h2) fun us s1 ⟨vs, H1, I1, r, l, z⟩ => ⟨I1.kIn, ?_⟩) (starEach_cons hs.1) (starEach_plain pos hs.2)
  have hl : us.length + 1 = (e :: es).length + 1 := by rw [← r.length, l]
  exact run_makeC M (hl ▸ co) q.room q.gd I1 r z

/-! ### a part of one's own object stored -/
def putFD (f : Str) (d : D) : List (Str × D) → List (Str × D)
  | [] => [(f, d)]
  | (g, x) :: r => if g = f then (g, d) :: r else (g, x) :: putFD f d r
theorem RpF.put {W : Wd} {H : Hp} {f : Str} {v : V} {d : D} (rv : Rp W H v d) : ∀ {vs : List (Str × V)} {ds : List (Str × D)}, RpF W H vs ds → RpF W H (putF f v vs) (putFD f d ds)
  | _, _, .nil => .cons rv .nil
  | _, _, .cons (f := g) r t => by
    unfold putF putFD
    by_cases e : g = f
    · rw [if_pos e, if_pos e]; exact .cons rv t
    · rw [if_neg e, if_neg e]; exact .cons r (RpF.put rv t)
theorem RpF.len {W : Wd} {H : Hp} : ∀ {vs : List (Str × V)} {ds : List (Str × D)}, RpF W H vs ds → vs.length = ds.length
  | _, _, .nil => rfl
  | _, _, .cons _ t => congrArg (· + 1) t.len
def fldS (p : Str → Str → Bool) (f : Str) (FV : Fd) (FR : Fr) : Fs := fun ρ => (FV ρ).bind fun x => (FR x.2).bind fun y => (rfOf y.1).bind fun i => match contAt y.2 i with
  | some (.ins c fs) => if p c f = true ∧ fs.length < 1000 then some (.nx, setC y.2 i (.ins c (putFD f x.1 fs))) else none
  | _ => none
theorem pst_fld {p : Str → Str → Bool} {f : Str} {FV : Fd} {FR : Fr} {pos pos' : Pos} (hp : ∀ c f, p c f = true → FldOk X.K X.mg c f) (ho : PR X o FR) (hv : PD X value FV) (hs : swapsWith value (some (.Attribute o f pos')) pos.line X.env = pure false) :
    PSt X (.Assign [.Attribute o f pos'] value pos) (fldS p f FV FR) := ps_imp (ps_fld ho hv hs) fun D σ H ⟨ρ, loc, Hf, fl, ρ', s, hF, kk⟩ => by
  unfold fldS at hF
  obtain ⟨⟨d, ρ1⟩, q1, hF⟩ := Option.bind_eq_some_iff.mp hF
  obtain ⟨⟨x, ρ2⟩, q2, hF⟩ := Option.bind_eq_some_iff.mp hF
  obtain ⟨j, q3, hF⟩ := Option.bind_eq_some_iff.mp hF
  have := rfOf_some q3
  dsimp only at this
  subst this
  dsimp only at hF
  split at hF
  · rename_i c fs hc
    split at hF
    · rename_i hpc
      cases hF
      obtain ⟨t, h3, h4⟩ := contAt_some hc
      refine ⟨ρ, loc, Hf, d, ρ1, s, q1, fun v H1 Hf1 g1 s1 rv => ⟨ρ1, loc, Hf1, _, ρ2, s1, q2, fun u H2 Hf2 g2 s2 o2 => ?_⟩⟩
      obtain rfl : u = .ref (loc j) := o2
      obtain ⟨w1, w2, Cc, dx, vfs, a1, a2, a3⟩ := s2.own j t _ h3 h4
      obtain ⟨c1, c2⟩ := (hp c f hpc.1).ok Cc a2
      have s4 := chg_own (u := .ins Cc dx (putF f v vfs)) (c' := .ins c (putFD f d fs)) s2 h3 h4 ⟨Cc, dx, _, upd_same, a2, a3.put (rv.mono (g2.fixed s1))⟩
      exact ⟨loc j, Cc, dx, vfs, rfl, a1, c1, c2, by rw [a3.len]; exact hpc.2, kk σ loc _ Hf2 (g1.trans (g2.trans s4.2)).go s4.1⟩
    · cases hF
  · cases hF
end
end Ev
/-! text Ev33 -/
set_option Elab.async false
set_option linter.all false
set_option maxRecDepth 100000
set_option maxHeartbeats 4000000
namespace Ev
open PySem L2
/-! ### a table filled: o.g = {}, then two loops of stores o.g[a, b] = v -/
def kIn (t : Tg) (FV : Fd) (FK : Fl) : List D → Env → List (D × D) → Option (Env × List (D × D))
  | [], ρ, kvs => some (ρ, kvs)
  | d :: ds, ρ, kvs => (asg t d ρ).bind fun ρ1 => (FV ρ1).bind fun x => (FK x.2).bind fun z => if z.1.length ≤ sizeLine then (putDT kvs z.1 x.1).bind fun kvs' => kIn t FV FK ds z.2 kvs' else none
def kOut (t t2 : Tg) (FN : Fd) (FV : Fd) (FK : Fl) (ms : List D) : List D → Env → List (D × D) → Option (Env × List (D × D))
  | [], ρ, kvs => some (ρ, kvs)
  | d :: ds, ρ, kvs => (asg t d ρ).bind fun ρ1 => (FN ρ1).bind fun y => (zipI [.tup ms, y.1]).bind fun es => (kIn t2 FV FK es y.2 kvs).bind fun z => kOut t t2 FN FV FK ms ds z.1 z.2
/-- no slot but the first holds an object -/
def Imms (ρ : Env) : Prop := ∀ (i : Nat) (s : Sl), ρ[i]? = some s → s.cont = none
def immsB (ρ : Env) : Bool := ρ.all fun s => s.cont.isNone
theorem imms_of {ρ : Env} (h : immsB ρ = true) : Imms ρ := fun i s e => by
  have := List.all_eq_true.mp h s (List.mem_of_getElem? e)
  simpa using this
def knownS (p : Str → Str → Bool) (f g : Str) (t t2 : Tg) (FP FN : Fd) (FV : Fd) (FK : Fl) : Fs := fun ρ => match ρ with
  | .par (.ins c fs) :: ρ0 => if immsB ρ0 = true ∧ p c f = true ∧ p c g = true ∧ f ≠ g ∧ fs.lookup g = none ∧ fs.length < 1000 ∧ 0 ∉ tvs t ∧ 0 ∉ tvs t2 then
      match fs.lookup f with
      | some (.tup ms) => (FP (.un :: ρ0)).bind fun y => (zipI [.tup ms, y.1]).bind fun es => (kOut t t2 FN FV FK ms es y.2 []).bind fun z => match z.1 with
        | .un :: ρ1 => some (.nx, .par (.ins c (fs ++ [(g, .dct true z.2)])) :: ρ1)
        | _ => none
      | _ => none
    else none
  | _ => none
/-- while it is filled: the object at x, its dict at q -/
structure KSt (W : Wd) (vfs : List (Str × V)) (Cc dx x q : Addr) (ρ : Env) (loc : Loc) (σ : St) (H Hf : Hp) (kvs : List (D × D)) : Prop where
  s : SOk W ρ loc σ H Hf
  no : Imms ρ
  z : σ[0]? = some (some (.ref x))
  hx : H x = some (.ins Cc dx vfs)
  fx : Hf x = none
  hq : ∃ ks, H q = some (.dT ks) ∧ RpT W Hf ks kvs
  fq : Hf q = none
theorem Imms.not {ρ : Env} (h : Imms ρ) {loc : Loc} {a : Addr} : ¬ IsOwn ρ loc a := fun ⟨i, s, c, h1, h2, _⟩ => by rw [h i s h1] at h2; cases h2
theorem Imms.ge {ρ ρ' : Env} {loc : Loc} {H Hf H' Hf' : Hp} (h : Imms ρ) (g : Ge ρ loc H Hf ρ' H' Hf') : Imms ρ' := fun i s e => by
  cases s with
  | un => rfl
  | imm d => rfl
  | own c =>
    obtain ⟨c', q⟩ := g.own i c e
    cases (h i _ q)
  | par c =>
    obtain ⟨c', q⟩ := g.par i c e
    cases (h i _ q)
/-- only x may have changed since H0 -/
structure Rl (x : Addr) (H0 Hf0 H Hf : Hp) : Prop where
  there : ∀ a, H a = none → H0 a = none
  keep : ∀ a o, H0 a = some o → a ≠ x → H a = some o
  frz : ∀ a o, H0 a = some o → a ≠ x → Hf a = Hf0 a
section
variable {W : Wd} {vfs : List (Str × V)} {Cc dx x q : Addr} {ρ ρ' : Env} {loc : Loc} {σ σ' : St} {H Hf H' Hf' H0 Hf0 : Hp} {kvs : List (D × D)}
theorem KSt.ge (k : KSt W vfs Cc dx x q ρ loc σ H Hf kvs) (g : Ge ρ loc H Hf ρ' H' Hf') (s : SOk W ρ' loc σ' H' Hf') (e : σ'[0]? = σ[0]?) : KSt W vfs Cc dx x q ρ' loc σ' H' Hf' kvs := by
  obtain ⟨ks, q1, q2⟩ := k.hq
  exact ⟨s, k.no.ge g, e.trans k.z, g.keep _ _ k.hx k.no.not, (g.frz _ _ k.hx k.no.not).trans k.fx, ⟨ks, g.keep _ _ q1 k.no.not, q2.mono (g.fixed k.s)⟩, (g.frz _ _ q1 k.no.not).trans k.fq⟩
theorem Rl.ge (r : Rl x H0 Hf0 H Hf) (no : Imms ρ) (g : Ge ρ loc H Hf ρ' H' Hf') : Rl x H0 Hf0 H' Hf' :=
  ⟨fun a h => r.there a (g.there a h), fun a o h n => g.keep a o (r.keep a o h n) no.not, fun a o h n => (g.frz a o (r.keep a o h n) no.not).trans (r.frz a o h n)⟩
end
section
variable {W : Wd} {vfs : List (Str × V)} {Cc dx x q : Addr} {ρ ρ' : Env} {loc : Loc} {σ σ' : St} {H Hf H' Hf' H0 Hf0 Hf1 : Hp} {kvs : List (D × D)}
theorem KSt.own (k : KSt W vfs Cc dx x q ρ loc σ H Hf kvs) : OwnAt W H Hf q (.dct true kvs) := k.hq
/-- one store -/
theorem KSt.put (k : KSt W vfs Cc dx x q ρ loc σ H Hf kvs) (r : Rl x H0 Hf0 H Hf) (hx0 : H0 q = none) (hne : q ≠ x) {b : Addr} {vs : List V} {v : V} {kds : List D} {d : D} {kvs' : List (D × D)} (hb : H b = none) (rl : RpL W Hf vs kds) (rv : Rp W Hf v d) (e : putDT kvs kds d = some kvs') :
    ∃ u, DPut (upd H b (.tup vs)) q (.ref b) v (upd (upd H b (.tup vs)) q u) ∧ KSt W vfs Cc dx x q ρ loc σ (upd (upd H b (.tup vs)) q u) Hf kvs' ∧ Rl x H0 Hf0 (upd (upd H b (.tup vs)) q u) Hf := by
  have E := Ext.newO k.s.sub hb (.tup vs)
  have k1 := k.ge E.ge (k.s.ext E) rfl
  have r1 := r.ge k.no (E.ge (ρ := ρ) (loc := loc))
  obtain ⟨u, h1, h2⟩ := putDT_ok k1.own upd_same rl rv e
  obtain ⟨ks1, q1, _⟩ := k1.hq
  refine ⟨u, h1, ⟨k1.s.other k1.fq k1.no.not, k1.no, k1.z, by rw [upd_ne (Ne.symm hne)]; exact k1.hx, k1.fx, h2, k1.fq⟩, fun a z => ?_, fun a o z n => ?_, r1.frz⟩
  · by_cases e1 : a = q
    · subst e1; exact hx0
    · rw [upd_ne e1] at z; exact r1.there a z
  · rw [upd_ne (ne_of_none z hx0)]; exact r1.keep a o z n
variable {t t2 : Tg} {FV FN FP : Fd} {FK : Fl} {items : List D} {J : It} {En : Ends} {f g : Str} {ρe : Env} {kvse : List (D × D)} {m : V} {ms : List D}
abbrev sK (W : Wd) (g : Str) (FV : Fd) (FK : Fl) : TS := tSeq (sDPut (tFld W.K (tVar 0) g) (tTup (tL W FK)) (tD W FV)) tNext
theorem kin_loop (cl : Cls W.K Cc) (na : NoAttr W.K Cc g) (lk : vfs.lookup g = some (.ref q)) (hx0 : H0 q = none) (hne : q ≠ x) (h0 : 0 ∉ tvs t) (feed : Feed W J Hf1 items) (f1 : ∀ a o, Hf1 a = some o → Hf a = some o)
    (k0 : KSt W vfs Cc dx x q ρ loc σ H Hf kvs) (r0 : Rl x H0 Hf0 H Hf) (hk : kIn t FV FK items ρ kvs = some (ρe, kvse))
    (done : ∀ σ' H' Hf', KSt W vfs Cc dx x q ρe loc σ' H' Hf' kvse → Rl x H0 Hf0 H' Hf' → (∀ a o, Hf a = some o → Hf' a = some o) → En.nx σ' H') :
    ∃ Wp : Nat → Nat → St → Hp → Prop, (∃ n, Wp 0 n σ H) ∧ ∀ i n σ H, Wp i n σ H → (J.stop i H ∧ En.nx σ H) ∨
      (J.go i H ∧ ∃ N : St → Hp → Prop, (∀ σ' H', N σ' H' → ∃ n', n' < n ∧ Wp (i + 1) n' σ' H') ∧ ∀ y H', J.yld i H y H' → tG W t y σ H' fun σ2 H2 => sK W g FV FK { En with nx := N, ct := N, bk := En.nx } σ2 H2) := by
  refine ⟨fun i n σ' H' => n = items.length - i ∧ i ≤ items.length ∧ ∃ ρi Hfi kvi, KSt W vfs Cc dx x q ρi loc σ' H' Hfi kvi ∧ Rl x H0 Hf0 H' Hfi ∧ (∀ a o, Hf a = some o → Hfi a = some o) ∧ kIn t FV FK (items.drop i) ρi kvi = some (ρe, kvse),
    ⟨_, rfl, Nat.zero_le _, ρ, Hf, kvs, k0, r0, fun _ _ h => h, hk⟩, ?_⟩
  rintro i n σ' H' ⟨rfl, hi, ρi, Hfi, kvi, ki, ri, fi, hl⟩
  by_cases hlt : i < items.length
  · have hd : items[i]? = some items[i] := List.getElem?_eq_getElem hlt
    have hdrop : items.drop i = items[i] :: items.drop (i + 1) := List.drop_eq_getElem_cons hlt
    rw [hdrop] at hl
    unfold kIn at hl
    obtain ⟨ρ2, q2, hl⟩ := Option.bind_eq_some_iff.mp hl
    obtain ⟨⟨d, ρ3⟩, q3, hl⟩ := Option.bind_eq_some_iff.mp hl
    obtain ⟨⟨kds, ρ4⟩, q4, hl⟩ := Option.bind_eq_some_iff.mp hl
    dsimp only at hl
    split at hl
    · rename_i hsz
      obtain ⟨kv2, q5, hl⟩ := Option.bind_eq_some_iff.mp hl
      obtain ⟨go, yl⟩ := feed.go i _ H' Hfi hd (fun a o z => fi a o (f1 a o z)) ki.s.sub
      refine .inr ⟨go, _, fun σ2 H2 h => h, fun y H3 hy => ?_⟩
      obtain ⟨Hf3, E, r⟩ := yl y H3 hy
      have k3 := ki.ge E.ge (ki.s.ext E) rfl
      have r3 := ri.ge ki.no (E.ge (ρ := ρi) (loc := loc))
      have fx3 : ∀ a o, Hf a = some o → Hf3 a = some o := fun a o z => E.fixed ki.s.sub a o (fi a o z)
      refine ⟨ρi, loc, Hf3, _, ρ2, k3.s, r, q2, fun σ4 out g4 s4 => ?_⟩
      have k4 := k3.ge g4 s4 (out 0 h0)
      have r4 := r3.ge k3.no g4
      have fx4 : ∀ a o, Hf a = some o → Hf3 a = some o := fx3
      refine ⟨ρ2, loc, Hf3, d, ρ3, s4, q3, fun v H5 Hf5 g5 s5 rv => ?_⟩
      have k5 := k4.ge g5 s5 rfl
      have r5 := r4.ge k4.no g5
      refine ⟨_, k5.z, ?_⟩
      refine ⟨x, Cc, dx, vfs, _, rfl, k5.hx, cl, na, lk, ?_⟩
      refine ⟨ρ3, loc, Hf5, kds, ρ4, s5, q4, fun vs H6 Hf6 g6 s6 rl => ⟨by rw [rl.length]; exact hsz, fun b hb => ?_⟩⟩
      have k6 := k5.ge g6 s6 rfl
      have r6 := r5.ge k5.no g6
      obtain ⟨u, hp, k7, r7⟩ := k6.put r6 hx0 hne hb rl (rv.mono (g6.fixed s5)) q5
      exact ⟨q, _, rfl, hp, _, by omega, rfl, hlt, ρ4, Hf6, kv2, k7, r7, fun a o z => g6.fixed s5 a o (g5.fixed s4 a o (fx4 a o z)), hl⟩
    · cases hl
  · have e : i = items.length := by omega
    subst e
    rw [List.drop_length] at hl
    cases hl
    exact .inl ⟨feed.stop H' Hfi (fun a o z => fi a o (f1 a o z)) ki.s.sub, done σ' H' Hfi ki ri fi⟩
end
end Ev
/-! text Ev34 -/
set_option Elab.async false
set_option linter.all false
set_option maxRecDepth 100000
set_option maxHeartbeats 4000000
namespace Ev
open PySem L2
section
variable {W : Wd} {vfs : List (Str × V)} {Cc dx x q : Addr} {ρ ρ' ρ2 : Env} {loc : Loc} {σ σ' : St} {H Hf H' Hf' H0 Hf0 Hf1 : Hp} {kvs kvse : List (D × D)}
variable {t t2 : Tg} {FV FN FP : Fd} {FK : Fl} {items es ms : List D} {d : D} {J : It} {En : Ends} {f g : Str} {ρe : Env} {m : V}
abbrev taZ (W : Wd) (f : Str) (FN : Fd) : TA := tCons (tFld W.K (tVar 0) f) (tCons (tD W FN) tNil)
abbrev wiZ (W : Wd) (f : Str) (FN : Fd) : TI := fun σ H R => iZipX W.K true false (taZ W f FN) σ H R ∨ iZipX W.K true true (taZ W f FN) σ H R
theorem zip_read {R : It → Hp → Prop} (k : KSt W vfs Cc dx x q ρ loc σ H Hf kvs) (cl : Cls W.K Cc) (na : NoAttr W.K Cc f) (lk : vfs.lookup f = some m) (rm : Rp W Hf m (.tup ms)) (hF : FN ρ = some (d, ρ2)) (hz : zipI [.tup ms, d] = some es)
    (kk : ∀ J H1 Hf1, Ge ρ loc H Hf ρ2 H1 Hf1 → SOk W ρ2 loc σ H1 Hf1 → Feed W J Hf1 es → R J H1) : wiZ W f FN σ H R := by
  have ta : ∀ (P : List V → Hp → Prop), (∀ v H1 Hf1, Ge ρ loc H Hf ρ2 H1 Hf1 → SOk W ρ2 loc σ H1 Hf1 → Rp W Hf1 v d → P [m, v] H1) → taZ W f FN σ H P := fun P hP =>
    ⟨_, k.z, x, Cc, dx, vfs, m, rfl, k.hx, cl, na, lk, ρ, loc, Hf, d, ρ2, k.s, hF, fun v H1 Hf1 g1 s1 r => hP v H1 Hf1 g1 s1 r⟩
  unfold zipI at hz
  split at hz
  · rename_i a b e; cases e
  · rename_i a b e; cases e
  · rename_i a b e
    cases e
    cases hz
    refine .inl (ta (fun vs H1 => ∃ a b xs ys, vs = [.ref a, .ref b] ∧ Sq W.K true a H1 xs ∧ Sq W.K false b H1 ys ∧ R (ItZ (Sq W.K true a) (Sq W.K false b)) H1) fun v H1 Hf1 g1 s1 r => ?_)
    obtain ⟨p, ob, ws, e1, h, _, rl⟩ := rp_tup (rm.mono (g1.fixed k.s))
    subst e1
    obtain ⟨b, ws2, rfl, h2, rl2⟩ := rp_lst r
    exact ⟨_, _, _, _, rfl, sqT_fz (s1.sub _ _ h), SqL.of (s1.sub _ _ h2), kk _ H1 Hf1 g1 s1 (Feed.zipX (fun H' q => sqT_fz (q _ _ h)) (fun H' q => SqL.of (q _ _ h2)) rl rl2)⟩
  · rename_i a b e
    cases e
    cases hz
    refine .inr (ta (fun vs H1 => ∃ a b xs ys, vs = [.ref a, .ref b] ∧ Sq W.K true a H1 xs ∧ Sq W.K true b H1 ys ∧ R (ItZ (Sq W.K true a) (Sq W.K true b)) H1) fun v H1 Hf1 g1 s1 r => ?_)
    obtain ⟨p, ob, ws, e1, h, _, rl⟩ := rp_tup (rm.mono (g1.fixed k.s))
    subst e1
    obtain ⟨b, ob2, ws2, rfl, h2, _, rl2⟩ := rp_tup r
    exact ⟨_, _, _, _, rfl, sqT_fz (s1.sub _ _ h), sqT_fz (s1.sub _ _ h2), kk _ H1 Hf1 g1 s1 (Feed.zipX (fun H' q => sqT_fz (q _ _ h)) (fun H' q => sqT_fz (q _ _ h2)) rl rl2)⟩
  · cases hz
abbrev sO (W : Wd) (f g : Str) (FN FV : Fd) (FK : Fl) (t2 : Tg) : TS := tSeq (tFor (wiZ W f FN) (tG W t2) (sK W g FV FK)) tNext
theorem kout_loop (cl : Cls W.K Cc) (na : NoAttr W.K Cc g) (naf : NoAttr W.K Cc f) (lkf : vfs.lookup f = some m) (rm : Rp W Hf1 m (.tup ms)) (lk : vfs.lookup g = some (.ref q)) (hx0 : H0 q = none) (hne : q ≠ x) (h0 : 0 ∉ tvs t) (h02 : 0 ∉ tvs t2) (feed : Feed W J Hf1 items) (f1 : ∀ a o, Hf1 a = some o → Hf a = some o)
    (k0 : KSt W vfs Cc dx x q ρ loc σ H Hf kvs) (r0 : Rl x H0 Hf0 H Hf) (hk : kOut t t2 FN FV FK ms items ρ kvs = some (ρe, kvse))
    (done : ∀ σ' H' Hf', KSt W vfs Cc dx x q ρe loc σ' H' Hf' kvse → Rl x H0 Hf0 H' Hf' → (∀ a o, Hf a = some o → Hf' a = some o) → En.nx σ' H') :
    ∃ Wp : Nat → Nat → St → Hp → Prop, (∃ n, Wp 0 n σ H) ∧ ∀ i n σ H, Wp i n σ H → (J.stop i H ∧ En.nx σ H) ∨
      (J.go i H ∧ ∃ N : St → Hp → Prop, (∀ σ' H', N σ' H' → ∃ n', n' < n ∧ Wp (i + 1) n' σ' H') ∧ ∀ y H', J.yld i H y H' → tG W t y σ H' fun σ2 H2 => sO W f g FN FV FK t2 { En with nx := N, ct := N, bk := En.nx } σ2 H2) := by
  refine ⟨fun i n σ' H' => n = items.length - i ∧ i ≤ items.length ∧ ∃ ρi Hfi kvi, KSt W vfs Cc dx x q ρi loc σ' H' Hfi kvi ∧ Rl x H0 Hf0 H' Hfi ∧ (∀ a o, Hf a = some o → Hfi a = some o) ∧ kOut t t2 FN FV FK ms (items.drop i) ρi kvi = some (ρe, kvse),
    ⟨_, rfl, Nat.zero_le _, ρ, Hf, kvs, k0, r0, fun _ _ h => h, hk⟩, ?_⟩
  rintro i n σ' H' ⟨rfl, hi, ρi, Hfi, kvi, ki, ri, fi, hl⟩
  by_cases hlt : i < items.length
  · have hd : items[i]? = some items[i] := List.getElem?_eq_getElem hlt
    have hdrop : items.drop i = items[i] :: items.drop (i + 1) := List.drop_eq_getElem_cons hlt
    rw [hdrop] at hl
    unfold kOut at hl
    obtain ⟨ρ2, q2, hl⟩ := Option.bind_eq_some_iff.mp hl
    obtain ⟨⟨d, ρ3⟩, q3, hl⟩ := Option.bind_eq_some_iff.mp hl
    obtain ⟨es, q4, hl⟩ := Option.bind_eq_some_iff.mp hl
    obtain ⟨⟨ρ5, kv5⟩, q5, hl⟩ := Option.bind_eq_some_iff.mp hl
    obtain ⟨go, yl⟩ := feed.go i _ H' Hfi hd (fun a o z => fi a o (f1 a o z)) ki.s.sub
    refine .inr ⟨go, _, fun σ2 H2 h => h, fun y H3 hy => ?_⟩
    obtain ⟨Hf3, E, r⟩ := yl y H3 hy
    have k3 := ki.ge E.ge (ki.s.ext E) rfl
    have r3 := ri.ge ki.no (E.ge (ρ := ρi) (loc := loc))
    have fx3 : ∀ a o, Hf a = some o → Hf3 a = some o := fun a o z => E.fixed ki.s.sub a o (fi a o z)
    refine ⟨ρi, loc, Hf3, _, ρ2, k3.s, r, q2, fun σ4 out g4 s4 => ?_⟩
    have k4 := k3.ge g4 s4 (out 0 h0)
    have r4 := r3.ge k3.no g4
    refine zip_read k4 cl naf lkf (rm.mono fun a o z => fx3 a o (f1 a o z)) q3 q4 fun J5 H5 Hf5 g5 s5 feed5 => ?_
    have k5 := k4.ge g5 s5 rfl
    have r5 := r4.ge k4.no g5
    refine kin_loop cl na lk hx0 hne h02 feed5 (fun _ _ h => h) k5 r5 q5 fun σ6 H6 Hf6 k6 r6 fx6 => ?_
    exact ⟨_, by omega, rfl, hlt, ρ5, Hf6, kv5, k6, r6, fun a o z => fx6 a o (g5.fixed s4 a o (fx3 a o z)), hl⟩
  · have e : i = items.length := by omega
    subst e
    rw [List.drop_length] at hl
    cases hl
    exact .inl ⟨feed.stop H' Hfi (fun a o z => fi a o (f1 a o z)) ki.s.sub, done σ' H' Hfi ki ri fi⟩
theorem putF_new {f : Str} {v : V} : ∀ {fs : List (Str × V)}, fs.lookup f = none → putF f v fs = fs ++ [(f, v)]
  | [], _ => rfl
  | (g, y) :: r, h => by
    have hb : (f == g) = false := by
      cases e : f == g with
      | false => rfl
      | true => simp [List.lookup, e] at h
    have hne : g ≠ f := fun e => by rw [e] at hb; simp at hb
    unfold putF
    rw [if_neg hne, putF_new (fs := r) (by simpa [List.lookup, hb] using h)]
    rfl
theorem lookup_snoc {f g : Str} {v : V} : ∀ {fs : List (Str × V)}, fs.lookup g = none → (fs ++ [(g, v)]).lookup g = some v ∧ ∀ f y, fs.lookup f = some y → (fs ++ [(g, v)]).lookup f = some y
  | [], _ => ⟨by simp [List.lookup], fun f y h => by simp [List.lookup] at h⟩
  | (k, z) :: r, h => by
    have hb : (g == k) = false := by
      cases e : g == k with
      | false => rfl
      | true => simp [List.lookup, e] at h
    obtain ⟨i1, i2⟩ := lookup_snoc (f := f) (v := v) (fs := r) (by simpa [List.lookup, hb] using h)
    refine ⟨by simpa [List.lookup, hb] using i1, fun f y h => ?_⟩
    show List.lookup f ((k, z) :: (r ++ [(g, v)])) = some y
    cases e : f == k with
    | true => simpa [List.lookup, e] using h
    | false =>
      simp only [List.lookup, e] at h ⊢
      exact i2 f y h
theorem RpF.app {W : Wd} {H : Hp} {f : Str} {v : V} {d : D} (rv : Rp W H v d) : ∀ {vs : List (Str × V)} {ds : List (Str × D)}, RpF W H vs ds → RpF W H (vs ++ [(f, v)]) (ds ++ [(f, d)])
  | _, _, .nil => .cons rv .nil
  | _, _, .cons r t => .cons r (RpF.app rv t)
end
end Ev
/-! text Ev35 -/
set_option Elab.async false
set_option linter.all false
set_option maxRecDepth 100000
set_option maxHeartbeats 4000000
namespace Ev
open PySem L2
section
variable {W : Wd} {t t2 : Tg} {FV FN FP : Fd} {FK : Fl} {En : Ends} {f g : Str} {p : Str → Str → Bool} {σ : St} {H : Hp}
abbrev sAll (W : Wd) (f g : Str) (FP FN FV : Fd) (FK : Fl) (t t2 : Tg) : TS := tSeq (sFld W.K (tVar 0) tDNewT g) (tSeq (tFor (wiZ W f FP) (tG W t) (sO W f g FN FV FK t2)) tNext)
theorem known_read (hp : ∀ c f, p c f = true → FldOk W.K W.mg c f) (h : tS W (knownS p f g t t2 FP FN FV FK) En σ H) : sAll W f g FP FN FV FK t t2 En σ H := by
  obtain ⟨ρ, loc, Hf, fl, ρ', s, hF, kk⟩ := h
  unfold knownS at hF
  split at hF
  · rename_i c fs ρ0
    split at hF
    · rename_i hc
      obtain ⟨himm, hpf, hpg, hfg, hln, hlen, h0, h02⟩ := hc
      split at hF
      · rename_i ms hms
        obtain ⟨⟨d, ρ1⟩, q1, hF⟩ := Option.bind_eq_some_iff.mp hF
        obtain ⟨es, q2, hF⟩ := Option.bind_eq_some_iff.mp hF
        obtain ⟨⟨ρe, kvse⟩, q3, hF⟩ := Option.bind_eq_some_iff.mp hF
        dsimp only at hF
        split at hF
        · rename_i ρ1
          cases hF
          obtain ⟨z0, fx, Cc, dx, vfs, hx, hm, rf⟩ := s.own 0 _ (.ins c fs) rfl rfl
          obtain ⟨cl, nag⟩ := (hp c g hpg).ok Cc hm
          obtain ⟨_, naf⟩ := (hp c f hpf).ok Cc hm
          obtain ⟨m, lm, rm⟩ := rf.look.1 _ hms
          have lng := rf.look.2 hln
          have no : Imms (.un :: ρ0) := fun i u e => by
            cases i with
            | zero => cases e; rfl
            | succ i => exact imms_of himm i u e
          intro q hq
          have hfq : Hf q = none := free_of s.sub hq
          have hqx : q ≠ loc 0 := fun e => by rw [e, hx] at hq; cases hq
          refine ⟨_, z0, loc 0, Cc, dx, vfs, rfl, by rw [upd_ne (Ne.symm hqx)]; exact hx, cl, nag, by rw [rf.len]; exact hlen, ?_⟩
          rw [putF_new lng]
          obtain ⟨lk, lks⟩ := lookup_snoc (f := f) (v := V.ref q) lng
          have s0 : SOk W (.un :: ρ0) loc σ (upd (upd H q (.dT [])) (loc 0) (.ins Cc dx (vfs ++ [(g, .ref q)]))) Hf := by
            refine ⟨fun a o z => ?_, s.len, fun i d' e => ?_, fun i u c' e1 e2 => ?_, fun i j u v c' d' e1 e2 e3 e4 _ => ?_⟩
            · rw [upd_ne (ne_of_none z fx), upd_ne (ne_of_none z hfq)]; exact s.sub a o z
            · cases i with
              | zero => cases e
              | succ i => exact s.imm (i + 1) d' e
            · rw [no i u e1] at e2; cases e2
            · rw [no i u e1] at e3; cases e3
          have k0 : KSt W (vfs ++ [(g, .ref q)]) Cc dx (loc 0) q (.un :: ρ0) loc σ (upd (upd H q (.dT [])) (loc 0) (.ins Cc dx (vfs ++ [(g, .ref q)]))) Hf [] :=
            ⟨s0, no, z0, upd_same, fx, ⟨[], by rw [upd_ne hqx]; exact upd_same, .nil⟩, hfq⟩
          have r0 : Rl (loc 0) H Hf (upd (upd H q (.dT [])) (loc 0) (.ins Cc dx (vfs ++ [(g, .ref q)]))) Hf := by
            refine ⟨fun a z => ?_, fun a o z n => ?_, fun _ _ _ _ => rfl⟩
            · by_cases e1 : a = loc 0
              · subst e1; rw [upd_same] at z; cases z
              · rw [upd_ne e1] at z
                by_cases e2 : a = q
                · subst e2; exact hq
                · rwa [upd_ne e2] at z
            · rw [upd_ne n, upd_ne (ne_of_none z hq)]; exact z
          refine zip_read k0 cl naf (lks f m lm) rm q1 q2 fun J5 H5 Hf5 g5 s5 feed5 => ?_
          have k5 := k0.ge g5 s5 rfl
          have r5 := r0.ge no g5
          refine kout_loop cl nag naf (lks f m lm) (rm.mono (g5.fixed s0)) lk hq hqx h0 h02 feed5 (fun _ _ h => h) k5 r5 q3 fun σ6 H6 Hf6 k6 r6 fx6 => ?_
          obtain ⟨ks, hks, rks⟩ := k6.hq
          have up : ∀ a o, Hf6 a = some o → (upd Hf6 q (.dT ks)) a = some o := fun a o z => by rw [upd_ne (ne_of_none z k6.fq)]; exact z
          have fxx : ∀ a o, Hf a = some o → (upd Hf6 q (.dT ks)) a = some o := fun a o z => up a o (fx6 a o (g5.fixed s0 a o z))
          have sub : ∀ a o, (upd Hf6 q (.dT ks)) a = some o → H6 a = some o := fun a o z => by
            by_cases e : a = q
            · subst e; rw [upd_same] at z; cases z; exact hks
            · rw [upd_ne e] at z; exact k6.s.sub a o z
          have no6 : ∀ (i : Nat) (u : Sl), ρ1[i]? = some u → u.cont = none := fun i u e => k6.no (i + 1) u e
          have own0 : IsOwn (Sl.par (.ins c fs) :: ρ0) loc (loc 0) := ⟨0, _, _, rfl, rfl, rfl⟩
          refine kk σ6 loc H6 (upd Hf6 q (.dT ks)) ⟨r6.there, fun a o z n => r6.keep a o z fun e => n (e ▸ own0), fun a o z n => ?_, fun i c' e => ?_, fun i c' e => ?_, fun i c' e => ?_⟩ ⟨sub, ?_, fun i d' e => ?_, fun i u c' e1 e2 => ?_, fun i j u v c' d' e1 e2 e3 e4 _ => ?_⟩
          · rw [upd_ne (ne_of_none z hq)]
            exact r6.frz a o z fun e => n (e ▸ own0)
          · cases i with
            | zero => exact ⟨⟨_, rfl⟩, rfl⟩
            | succ i => cases (no6 i _ e)
          · cases i with
            | zero => exact ⟨_, rfl⟩
            | succ i => cases (imms_of himm i _ e)
          · cases i with
            | zero => cases e
            | succ i => cases (no6 i _ e)
          · exact k6.s.len
          · cases i with
            | zero => cases e
            | succ i =>
              obtain ⟨v, h1, r⟩ := k6.s.imm (i + 1) d' e
              exact ⟨v, h1, r.mono up⟩
          · cases i with
            | zero =>
              cases e1
              cases e2
              refine ⟨k6.z, by rw [upd_ne (Ne.symm hqx)]; exact k6.fx, Cc, dx, _, k6.hx, hm, ?_⟩
              exact RpF.app (.dT upd_same (rks.mono up)) (rf.mono fxx)
            | succ i =>
              have := no6 i u e1
              rw [e2] at this; cases this
          · have z : ∀ (i : Nat) (u : Sl) (c' : C), (Sl.par (.ins c (fs ++ [(g, .dct true kvse)])) :: ρ1)[i]? = some u → u.cont = some c' → i = 0 := fun i u c' e1 e2 => by
              cases i with
              | zero => rfl
              | succ i =>
                have := no6 i u e1
                rw [e2] at this; cases this
            rw [z i u c' e1 e3, z j v d' e2 e4]
        · cases hF
      · cases hF
    · cases hF
  · cases hF
end
section
variable {X : Cx} {k : Nat} {t t2 : Tg} {FV FN FP : Fd} {FK : Fl} {f g : Str} {p : Str → Str → Bool} {o1 o2 o3 o4 eP eN eV : Expr} {ts1 ts2 esK : List Expr} {k1 k2 kK : Nat} {pa pd p1 pz pf pc pz2 pf2 pc2 pg pK pS p4 p5 p6 pt1 pt2 : Pos}
theorem psts_known (q : Cq X k) (hp : ∀ c f, p c f = true → FldOk X.K X.mg c f) (h1 : PE X o1 (tVar 0)) (h2 : PE X o2 (tVar 0)) (h3 : PE X o3 (tVar 0)) (h4 : PE X o4 (tVar 0)) (b2 : plainRecv o2 = true) (b3 : plainRecv o3 = true) (b4 : plainRecv o4 = true)
    (hg : Gl X "zip") (hm : X.mg "zip" = none) (hP : PD X eP FP) (hN : PD X eN FN) (hV : PD X eV FV) (hK : PLs X esK FK) (ht : PG X (.Tuple ts1 k1 pt1) (tG (wd X) t)) (ht2 : PG X (.Tuple ts2 k2 pt2) (tG (wd X) t2))
    (n2 : noStar (.Attribute o2 f pf) = true) (n3 : noStar (.Attribute o3 f pf2) = true) (nP : noStar eP = true) (nN : noStar eN = true)
    (w1 : swapsWith (.Dict [] [] pd) (some (.Attribute o1 g pa)) p1.line X.env = pure false) (w4 : swapsWith eV (some (.Subscript (.Attribute o4 g pg) (.Tuple esK kK pK) pS)) p4.line X.env = pure false)
    (z1 : ∀ x, foldedSetIterable (.Call (.Name "zip" pz) [.Attribute o2 f pf, eP] [] pc) X.env x = pure x) (z2 : ∀ x, foldedSetIterable (.Call (.Name "zip" pz2) [.Attribute o3 f pf2, eN] [] pc2) X.env x = pure x) :
    PSts X [.Assign [.Attribute o1 g pa] (.Dict [] [] pd) p1, .For (.Tuple ts1 k1 pt1) (.Call (.Name "zip" pz) [.Attribute o2 f pf, eP] [] pc) [.For (.Tuple ts2 k2 pt2) (.Call (.Name "zip" pz2) [.Attribute o3 f pf2, eN] [] pc2)
      [.Assign [.Subscript (.Attribute o4 g pg) (.Tuple esK kK pK) pS] eV p4] [] p5] [] p6] (knownS p f g t t2 FP FN FV FK) := by
  have hA : PA X [.Attribute o2 f pf, eP] (taZ (wd X) f FP) := pa_cons (pe_fld h2 (recv_base b2)) (pa_cons hP pa_nil (starEach_cons nP)) (starEach_cons n2)
  have hB : PA X [.Attribute o3 f pf2, eN] (taZ (wd X) f FN) := pa_cons (pe_fld h3 (recv_base b3)) (pa_cons hN pa_nil (starEach_cons nN)) (starEach_cons n3)
  have e2 : (backTo pc (starEach [eP] X.env)).any (·.1) = false := starEach_plain pc (by simp [nP])
  have e3 : (backTo pc2 (starEach [eN] X.env)).any (·.1) = false := starEach_plain pc2 (by simp [nN])
  refine pss_imp (pss_cons (ps_fld h1 pe_dnewT w1) (pss_cons (ps_for q.own q.calm (pi_or2 (pi_zipX (t := true) (u := false) hg hm hA (starEach_cons n2) e2) (pi_zipX (t := true) (u := true) hg hm hA (starEach_cons n2) e2)) ht
    (pss_cons (ps_for q.own q.calm (pi_or2 (pi_zipX (t := true) (u := false) hg hm hB (starEach_cons n3) e3) (pi_zipX (t := true) (u := true) hg hm hB (starEach_cons n3) e3)) ht2 (pss_cons (ps_dput (hu_of q.room) (pe_fld h4 (recv_base b4)) (pe_tup hK) hV w4) pss_nil) z2) pss_nil) z1) pss_nil)) fun D σ H h => known_read hp h
end
end Ev
/-! text Ev36 -/
set_option Elab.async false
set_option linter.all false
set_option maxRecDepth 100000
set_option maxHeartbeats 4000000
/-! ### set(xs): what each step keeps is told by T -/
namespace Ev
open PySem PySem.Spec PyProof.Rows
/-- T i: the set at S behind i things; one more is put in, all else but S stays -/
structure Fill (prog : Program) (w : World) (I S : Addr) (n : Nat) (P : Nat → Value → Prop) (T : Nat → Heap → Prop) : Prop where
  stay : ∀ i h h', T i h → (∀ b o, b ≠ I → h.get? b = some o → h'.get? b = some o) → T i h'
  add : ∀ (A : Around) (E : Value → Shared → Prop) (i : Nat) (s : Shared) (v : Value) (Q : Bool → Shared → Prop), i < n → P i v → T i s.heap →
    (∀ b h' tk, T (i + 1) h' → s.toks ≤ tk → (∀ b o, b ≠ S → s.heap.get? b = some o → h'.get? b = some o) → Q b { s with heap := h', toks := tk }) → wpAny (model prog w) A (setAdd S v) Q E s
section
variable {prog : Program} {w : World} {A : Around} {R : Result → Shared → Prop} {I : Addr} {fp : List Addr} {G : Array GenState → Array GenState → Prop} {n : Nat} {P : Nat → Value → Prop} {St : Nat → Shared → Prop} {T : Nat → Heap → Prop}
theorem fill_loop {S : Addr} (W : WalksS prog w A.in1 I fp [I] G n P St) (F : Fill prog w I S n P T) (hSf : S ∉ fp) : ∀ (k i : Nat) (s : Shared), n - i = k → i ≤ n → St i s → T i s.heap → (∀ s', Moved [S, I] G s s' → T n s'.heap → R (.ok (.ret .none)) s') →
      codeAny (model prog w) A (.builtin "set.update.loop" ⟨[.ref S, .ref I], []⟩) R s := by
  intro k
  induction k with
  | zero =>
    intro i s hk hi hst hT hR
    obtain rfl : i = n := by omega
    refine codeAny_builtin PyProof.Rows.F.entry_set_update_loop ?_
    rw [Around.under_plainId PyProof.Rows.F.plain_set_update_loop _]
    show wpAny _ A.in1 (pyNext (.ref I) >>= _) _ _ s
    refine wpAny_bind (W.done s _ _ hst fun s' hm => ?_)
    show wpAny _ A.in1 (ret Value.none) _ _ s'
    exact wpAny_pure (hR s' (hm.mono fun b hb => List.mem_cons_of_mem _ hb) (F.stay _ _ _ hT fun b o hb e => hm.heap b o (by simpa using hb) e))
  | succ k ih =>
    intro i s hk hi hst hT hR
    have hlt : i < n := by omega
    refine codeAny_builtin PyProof.Rows.F.entry_set_update_loop ?_
    rw [Around.under_plainId PyProof.Rows.F.plain_set_update_loop _]
    show wpAny _ A.in1 (pyNext (.ref I) >>= _) _ _ s
    refine wpAny_bind (W.item i s _ _ hlt hst fun v s' hP hst' hm => ?_)
    show wpAny _ A.in1 (holding [v] (setAdd S v) >>= _) _ _ s'
    refine wpAny_bind (wpAny_holding (F.add _ _ i s' v _ hlt hP (F.stay _ _ _ hT fun b o hb e => hm.heap b o (by simpa using hb) e) fun b h' tk hT' htk hk' => ?_))
    refine wpAny_pure ⟨plainId_quiet PyProof.Rows.F.plain_set_update_loop _, ih (i + 1) _ (by omega) hlt (W.frame _ s' _ _ hst' htk fun c hc o e => hk' c o (fun z => hSf (z ▸ hc)) e) hT' fun s'' hm'' hT'' => hR s'' ?_ hT''⟩
    exact Moved.trans W.gtrans ((hm.mono fun c hc => List.mem_cons_of_mem _ hc).then_heap htk fun c o hc e => hk' c o (fun z => hc (by rw [z]; exact List.mem_cons_self)) e) hm''
end
end Ev
/-! text Ev37 -/
set_option Elab.async false
set_option linter.all false
set_option maxRecDepth 100000
set_option maxHeartbeats 4000000
namespace Ev
open PySem PySem.Spec PyProof.Rows
abbrev set0 (led : Bool) : Obj := { cls := .type "set", dict := none, data := .set #[] 0 (.fresh 0 0 led) }
section
variable {prog : Program} {w : World} {A : Around} {E : Value → Shared → Prop} {s : Shared}
theorem call_setX {t : Bool} {l : Addr} {xs : Array Value} {T : Nat → Heap → Prop} {Q : Value → Shared → Prop} (hh : A.handled = none) (hl : SSq t s.heap l xs)
    (fill : Fill prog w (s.heap.objs.size + 1) s.heap.objs.size xs.size (fun i v => xs[i]? = some v) T)
    (h0 : ∀ (g : Heap) (led : Bool), g.get? s.heap.objs.size = some (set0 led) → (∀ b o, s.heap.get? b = some o → g.get? b = some o) → T 0 g)
    (h : ∀ (g : Heap) (tk : Nat), T xs.size g → (∀ b o, b < s.heap.objs.size → s.heap.get? b = some o → g.get? b = some o) → Q (.ref s.heap.objs.size) { s with heap := g, toks := tk }) :
    wpAny (model prog w) A (call (.type "set") [.ref l]) Q E s := by
  obtain ⟨c, tl, hmro⟩ := PySem.F.called_set.mro
  have hmade := PySem.F.called_set.made; have hsub := PySem.F.called_set.sub
  refine wpAny_call (codeAny_of_tree ?_); show wpAny _ _ (callAny (.type "set") _) _ _ _
  refine wpAny_pure ⟨Code.quiet_builtin _ (by decide +kernel), codeAny_builtin PySem.F.entry_type_call ?_⟩; rw [Around.under_plain (weight_type_call_type "set" [.ref l] []) rfl]
  have f1 := PySem.F.called_set.notType; have f2 := PySem.F.called_set.canCreate; have f3 := PySem.F.typeCall_set_1 (.ref l)
  repeat (any_goals (first | assumption | wp_step))
  refine codeAny_mono (code_set_new_1 (.ref l) (E := E) (Q₁ := fun obj s₁ => ∃ led : Bool, obj = .ref s.heap.objs.size ∧ s₁ = { s with heap := s.heap.push (set0 led) }) fun led => ⟨led, rfl, rfl⟩) fun r s₁ hr => ?_
  cases r with
  | error e => exact hr
  | ok fl =>
    cases fl with
    | ret obj =>
      obtain ⟨led, rfl, rfl⟩ := hr
      have hS : (s.heap.push (set0 led)).get? s.heap.objs.size = some (set0 led) := Heap.get?_push_size _ rfl
      have hT : Shared.TypeIs { s with heap := s.heap.push (set0 led) } (.ref s.heap.objs.size) "set" := ⟨_, hS, rfl⟩
      have hli := PySem.F.called_set.init.lookup; have hbi := PySem.F.called_set.init.bind (.ref s.heap.objs.size)
      repeat (any_goals (first | assumption | wp_step))
      have sz : (s.heap.push (set0 led)).objs.size = s.heap.objs.size + 1 := Heap.size_push ..
      have fin : ∀ (g1 : Heap) (s' : Shared), (∀ b o, (s.heap.push (set0 led)).get? b = some o → g1.get? b = some o) → Moved [s.heap.objs.size, s.heap.objs.size + 1] (fun a b => b = a) { s with heap := g1 } s' → T xs.size s'.heap →
          ∃ h' tk, s' = { s with heap := h', toks := tk } ∧ T xs.size h' ∧ ∀ b o, b < s.heap.objs.size → s.heap.get? b = some o → h'.get? b = some o := fun g1 s' k hm hT' => by
        obtain ⟨h', g', d', tk', os'⟩ := s'
        have e1 : g' = s.gens := hm.gens
        have e2 : d' = s.drawn := hm.drawn
        have e3 : os' = s.os := hm.os
        subst e1; subst e2; subst e3
        refine ⟨h', tk', rfl, hT', fun b o hb e => hm.heap b o ?_ (k b o (Heap.get?_push_of_some _ e))⟩
        simp only [List.mem_cons, List.not_mem_nil, or_false, not_or]
        exact ⟨Nat.ne_of_lt hb, Nat.ne_of_lt (Nat.lt_succ_of_lt hb)⟩
      refine codeAny_mono (codeAny_call_builtin (R := wants (fun r s₂ => r = .none ∧ ∃ h' tk, s₂ = { s with heap := h', toks := tk } ∧ T xs.size h' ∧ ∀ b o, b < s.heap.objs.size → s.heap.get? b = some o → h'.get? b = some o) E) PySem.F.called_set.init.plain PySem.F.entry_set_init (check_set_init_1 hT ?_)) fun r₂ s₂ hr₂ => ?_
      · cases t
        · obtain ⟨⟨oc, od, oa, os⟩, ol, oc', nn, od'⟩ := (show s.heap.IsList l xs from hl)
          replace oc' : oc = .type "list" := oc'
          replace od' : oa = .seq xs nn := od'
          subst oc' od'
          have u1 : (s.heap.push (set0 led)).get? l = some { cls := .type "list", dict := od, data := .seq xs nn, slots := os } := Heap.get?_push_of_some _ ol
          have u2 := PySem.F.sub_list_set; have u3 := PySem.F.sub_list_frozenset
          have u4 : (Value.type "list" == Value.type "dict") = false := by decide
          have u5 : (s.heap.push (set0 led)).IsList l xs := ⟨_, u1, rfl, nn, rfl⟩
          have ll : l < s.heap.objs.size := Heap.lt_size ol
          unfold Builtin.«set.__init__» noKeywords Builtin.Frozenset.updateFrom; generalize hPI : pyIter = PI
          wp_walk
          subst hPI
          refine wpAny_pyIter_list u5 (wpAny_bind (wpAny_runValue ?_))
          rw [sz]
          exact fill_loop (Walks.list (by simp [hh]) (s.heap.objs.size + 1) l (Nat.ne_of_lt (Nat.lt_succ_of_lt ll)) xs).toS fill (by simp only [List.mem_cons, List.not_mem_nil, or_false, not_or]; exact ⟨Nat.ne_of_lt (Nat.lt_succ_self _), Nat.ne_of_gt ll⟩) _ 0 _ rfl (Nat.zero_le _)
            ⟨⟨_, by rw [← sz]; exact Heap.get?_push_size _ rfl, rfl, rfl⟩, u5.push _⟩ (h0 _ led (Heap.get?_push_of_some _ hS) fun b o e => Heap.get?_push_of_some _ (Heap.get?_push_of_some _ e)) fun s' hm hT' => by
            obtain ⟨h', tk, rfl, q1, q2⟩ := fin _ s' (fun b o e => Heap.get?_push_of_some _ e) hm hT'
            show wpAny _ _ _ _ _ _
            refine wpAny_pure ?_
            show wpAny _ _ (ret Value.none) _ _ _
            exact wpAny_pure ⟨rfl, h', tk, rfl, q1, q2⟩
        · obtain ⟨⟨oc, od, oa, os⟩, ol, oc', nn, od'⟩ := (show s.heap.IsTuple l xs from hl)
          replace oc' : oc = .type "tuple" := oc'
          replace od' : oa = .seq xs nn := od'
          subst oc' od'
          have u1 : (s.heap.push (set0 led)).get? l = some { cls := .type "tuple", dict := od, data := .seq xs nn, slots := os } := Heap.get?_push_of_some _ ol
          have u2 := PySem.F.sub_tuple_set; have u3 := PySem.F.sub_tuple_frozenset
          have u4 : (Value.type "tuple" == Value.type "dict") = false := by decide
          have u5 : (s.heap.push (set0 led)).IsTuple l xs := ⟨_, u1, rfl, nn, rfl⟩
          have ll : l < s.heap.objs.size := Heap.lt_size ol
          unfold Builtin.«set.__init__» noKeywords Builtin.Frozenset.updateFrom; generalize hPI : pyIter = PI
          wp_walk
          subst hPI
          refine wpAny_pyIter_tuple u5 (wpAny_bind (wpAny_runValue ?_))
          rw [sz]
          exact fill_loop (Walks.tuple (by simp [hh]) (s.heap.objs.size + 1) l (Nat.ne_of_lt (Nat.lt_succ_of_lt ll)) xs).toS fill (by simp only [List.mem_cons, List.not_mem_nil, or_false, not_or]; exact ⟨Nat.ne_of_lt (Nat.lt_succ_self _), Nat.ne_of_gt ll⟩) _ 0 _ rfl (Nat.zero_le _)
            ⟨⟨_, by rw [← sz]; exact Heap.get?_push_size _ rfl, rfl, rfl⟩, u5.push _⟩ (h0 _ led (Heap.get?_push_of_some _ hS) fun b o e => Heap.get?_push_of_some _ (Heap.get?_push_of_some _ e)) fun s' hm hT' => by
            obtain ⟨h', tk, rfl, q1, q2⟩ := fin _ s' (fun b o e => Heap.get?_push_of_some _ e) hm hT'
            show wpAny _ _ _ _ _ _
            refine wpAny_pure ?_
            show wpAny _ _ (ret Value.none) _ _ _
            exact wpAny_pure ⟨rfl, h', tk, rfl, q1, q2⟩
      · cases r₂ with
        | error e => exact hr₂
        | ok fl₂ =>
          cases fl₂ with
          | ret r =>
            obtain ⟨rfl, h', tk, rfl, q1, q2⟩ := hr₂
            repeat (any_goals (first | assumption | wp_step))
            exact h _ _ q1 q2
          | _ => exact hr₂.elim
    | _ => exact hr.elim
end
end Ev
/-! text Ev38 -/
set_option Elab.async false
set_option linter.all false
set_option maxRecDepth 100000
set_option maxHeartbeats 4000000
namespace Ev
open PySem PySem.Spec PyProof.Rows
def dedupTo (xs : List Str) (i : Nat) : List Str := (xs.take i).foldl step_dedup []
theorem dedupTo_succ {xs : List Str} {i : Nat} {x : Str} (h : xs[i]? = some x) : dedupTo xs (i + 1) = step_dedup (dedupTo xs i) x := by
  unfold dedupTo
  rw [List.take_add_one, h, List.foldl_append]
  rfl
theorem dedupTo_le (xs : List Str) : ∀ i, i ≤ xs.length → (dedupTo xs i).length ≤ i
  | 0, _ => Nat.le_refl _
  | i + 1, hi => by
    have h : xs[i]? = some xs[i] := List.getElem?_eq_getElem hi
    have := dedupTo_le xs i (Nat.le_of_lt hi)
    rw [dedupTo_succ h]
    unfold step_dedup
    split
    · omega
    · simp; omega
theorem stepS_any (l : List Str) (x k : Str) : (step_dedup l x).any (· == k) = (l.any (· == k) || decide (k = x)) := by
  unfold step_dedup
  by_cases c : l.any (· == x) = true
  · rw [if_pos c]
    by_cases e : k = x
    · subst e; rw [c]; rfl
    · rw [decide_eq_false e, Bool.or_false]
  · rw [if_neg c, List.any_append]
    have : ([x].any (· == k)) = decide (k = x) := by
      by_cases e : k = x
      · subst e; simp
      · have e' : x ≠ k := fun z => e z.symm
        simp [e, e']
    rw [this]
theorem stepS_len (l : List Str) (x : Str) : (step_dedup l x).length = if l.any (· == x) then l.length else l.length + 1 := by
  unfold step_dedup
  split <;> simp
theorem fill_str {prog : Program} {w : World} {S : Addr} {vs : Array Value} {xs : List Str} (hl : vs.size = xs.length) (hv : ∀ (i : Nat) (v : Value), vs[i]? = some v → ∃ x t, xs[i]? = some x ∧ v = .str x t) (hn : xs.length + 1 < scanBound) :
    Fill prog w (S + 1) S vs.size (fun i v => vs[i]? = some v) (fun i h => h.SetOf (strKind prog w) S (fun k => (dedupTo xs i).any (· == k)) (dedupTo xs i).length) where
  stay := fun i h h' ⟨o, es, ep, t, ho, rest⟩ k => ⟨o, es, ep, t, k S o (Nat.ne_of_lt (Nat.lt_succ_self S)) ho, rest⟩
  add := fun A E i s v Q hi hP hT kk => by
    obtain ⟨x, t, hx, rfl⟩ := hv i v hP
    unfold setAdd
    refine wpAny_holding ?_
    refine wpAny_bind ((strKind prog w).pyHash (k := x) (by exact beq_self_eq_true x) ?_)
    have room : (dedupTo xs i).length + 1 < scanBound := by have := dedupTo_le xs i (by omega); omega
    refine wpAny_setAddHashed_of (knd := strKind prog w) (k := x) (by exact beq_self_eq_true x) rfl hT room fun h' hsb hS2 => ?_
    refine kk _ h' _ (SetOf_congr hS2 (fun k' => ?_) ?_) (Nat.le_succ _) fun b o hb e => (hsb.2 b hb).trans e
    · rw [dedupTo_succ hx, stepS_any]
    · rw [dedupTo_succ hx, stepS_len]
end Ev
/-! text Ev39 -/
set_option Elab.async false
set_option linter.all false
set_option maxRecDepth 100000
set_option maxHeartbeats 4000000
namespace Ev
open PySem PySem.Spec PyProof.Rows L2
def strsD : List D → Option (List Str)
  | [] => some []
  | .str x :: ds => (strsD ds).map (x :: ·)
  | _ => none
theorem strsD_eq : ∀ {ds : List D} {xs : List Str}, strsD ds = some xs → ds = xs.map D.str
  | [], _, h => by cases h; rfl
  | .str x :: ds, _, h => by
    obtain ⟨ys, h1, h2⟩ := Option.map_eq_some_iff.mp h
    subst h2
    rw [strsD_eq h1]; rfl
  | .non :: _, _, h => by cases h
  | .bl _ :: _, _, h => by cases h
  | .int _ :: _, _, h => by cases h
  | .tup _ :: _, _, h => by cases h
  | .lst _ :: _, _, h => by cases h
  | .dct _ _ :: _, _, h => by cases h
  | .obj _ _ :: _, _, h => by cases h
  | .scr _ :: _, _, h => by cases h
theorem rpl_strs {W : Wd} {H : Hp} : ∀ {xs : List Str} {vs : List V}, RpL W H vs (xs.map D.str) → vs = xs.map V.str
  | [], _, .nil => rfl
  | x :: xs, _, .cons r t => by cases r; rw [rpl_strs t]; rfl
/-- len(set(xs)), xs texts -/
def lenSetF (F : Fd) : Fe := fun ρ => (F ρ).bind fun x => match x.1 with
  | .lst ds => (strsD ds).bind fun xs => if xs.length < 4000 then some (.imm (.int (dedupTo xs xs.length).length), x.2) else none
  | .tup ds => (strsD ds).bind fun xs => if xs.length < 4000 then some (.imm (.int (dedupTo xs xs.length).length), x.2) else none
  | _ => none
def tLenS (K : PySem.W.Frag) (t : Bool) (ta : TE) : TE := fun σ H Q => ta σ H fun x H1 => ∃ l xs, x = .ref l ∧ Sq K t l H1 (xs.map V.str) ∧ xs.length < 4000 ∧ Q (.int (dedupTo xs xs.length).length) H1
theorem pe_lenS {X : Cx} {t : Bool} {a : Expr} {ta : TE} {p p2 q pos : Pos} (hc : X.calm = true) (hg : Gl X "len") (hm : X.mg "len" = none) (hg2 : Gl X "set") (hm2 : X.mg "set" = none) (ha : PE X a ta) (na : starEach [a] X.env = (false, eval a X.env) :: starEach [] X.env) (nb : starEach [.Call (.Name "set" p2) [a] [] q] X.env = (false, eval (.Call (.Name "set" p2) [a] [] q) X.env) :: starEach [] X.env) :
    PE X (.Call (.Name "len" p) [.Call (.Name "set" p2) [a] [] q] [] pos) (tLenS X.K t ta) := by
  refine ⟨fun pins s σ H Q I h => ?_⟩
  refine PyProof.Rows.Call_ (ld_blt I hg hm PySem.boot_len (PyProof.Rows.callWith_builtin1 (PyProof.Rows.args_cons ?_ nb) nb rfl))
  refine PyProof.Rows.Call_ (ld_blt I hg2 hm2 PyProof.Rows.boot_set (PyProof.Rows.callWith_type1 (PyProof.Rows.args_cons (thn (ha.run pins s σ H _ I h) fun v s1 ⟨x, H1, I1, r1, q1⟩ => PyProof.Rows.args_nil ?_) na) na rfl))
  obtain ⟨l, xs, rfl, hq, hl, q1⟩ := q1
  cases r1
  obtain ⟨its, r, pl, _⟩ := hq.in_ I1
  have sz : its.toArray.size = xs.length := by rw [List.size_toArray, ← r.length, List.length_map]
  have at' : ∀ (i : Nat) (v : Value), its.toArray[i]? = some v → ∃ x t, xs[i]? = some x ∧ v = .str x t := fun i v hv => by
    have hi : i < xs.length := by rw [← sz]; exact (Array.getElem?_eq_some_iff.mp hv).1
    obtain ⟨u, hu, k, hk⟩ := r.get (i := i) (x := .str xs[i]) (by simp [hi])
    have : its.toArray[i]? = some u := by simpa using hu
    rw [this] at hv
    cases hv
    exact ⟨xs[i], k, List.getElem?_eq_getElem hi, hk⟩
  refine call_setX (I1.ok.hd hc) pl (fill_str sz at' (by unfold scanBound; omega)) (fun g led e _ => SetOf_congr ((setObjOf_fresh (knd := strKind X.prog X.w) led).setOf e (by unfold scanBound; omega)) (fun _ => rfl) rfl) fun g tk hS hk => ?_
  refine PyProof.Rows.args_nil ?_
  rw [sz] at hS
  obtain ⟨o, es, ep, tt, ho, hex, hd, _, _, _, hf, hn⟩ := hS
  have I2 : Inv X pins σ H1 { s1 with heap := g, toks := tk } := I1.kept fun b o e => hk b o (Heap.lt_size e) e
  have le := dedupTo_le xs xs.length (Nat.le_refl _)
  exact call_len_set ho hex hd hf (by rw [hn]; omega) ⟨.int (dedupTo xs xs.length).length, H1, I2.tok _, ⟨_, by rw [hn]⟩, q1⟩
theorem px_lenSet {X : Cx} {a : Expr} {F : Fd} {p p2 q pos : Pos} {k : Nat} (qq : Cq X k) (hg : Gl X "len") (hm : X.mg "len" = none) (hg2 : Gl X "set") (hm2 : X.mg "set" = none) (ha : PD X a F) (na : noStar a = true) : PX X (.Call (.Name "len" p) [.Call (.Name "set" p2) [a] [] q] [] pos) (lenSetF F) :=
  pe_imp (pe_or2 (pe_lenS (t := false) qq.calm hg hm hg2 hm2 ha (starEach_cons na) (starEach_cons rfl)) (pe_lenS (t := true) qq.calm hg hm hg2 hm2 ha (starEach_cons na) (starEach_cons rfl))) fun σ H Q ⟨ρ, loc, Hf, r, ρ', s, hF, kk⟩ => by
    unfold lenSetF at hF
    obtain ⟨⟨d, ρ1⟩, q1, hF⟩ := Option.bind_eq_some_iff.mp hF
    dsimp only at hF
    split at hF
    · obtain ⟨xs, e1, hF⟩ := Option.bind_eq_some_iff.mp hF
      split at hF
      · rename_i hl
        cases hF
        rw [strsD_eq e1] at q1
        refine .inl ⟨ρ, loc, Hf, _, _, s, q1, fun v H1 Hf1 g1 s1 r => ?_⟩
        obtain ⟨b, ws, rfl, h, rl⟩ := rp_lst r
        rw [rpl_strs rl] at h
        exact ⟨_, xs, rfl, SqL.of (s1.sub _ _ h), hl, kk _ H1 Hf1 g1 s1 (.int _)⟩
      · cases hF
    · obtain ⟨xs, e1, hF⟩ := Option.bind_eq_some_iff.mp hF
      split at hF
      · rename_i hl
        cases hF
        rw [strsD_eq e1] at q1
        refine .inr ⟨ρ, loc, Hf, _, _, s, q1, fun v H1 Hf1 g1 s1 r => ?_⟩
        obtain ⟨b, ob, ws, rfl, h, _, rl⟩ := rp_tup r
        rw [rpl_strs rl] at h
        exact ⟨_, xs, rfl, sqT_fz (s1.sub _ _ h), hl, kk _ H1 Hf1 g1 s1 (.int _)⟩
      · cases hF
    · cases hF
end Ev
/-! text Ev40 -/
set_option Elab.async false
set_option linter.all false
set_option maxRecDepth 100000
set_option maxHeartbeats 4000000
namespace Ev
open PySem L2
/-- sep.join(xs), both values -/
def joinD (z : Str) (ds : List D) : Option Rv := (strsD ds).bind fun ys => if (ys.map (·.length)).sum + ys.length * z.length ≤ 16777216 then some (.imm (.str (Txt.join z ys))) else none
def joinF (FO FA : Fd) : Fe := fun ρ => (FO ρ).bind fun x => (FA x.2).bind fun y => match x.1, y.1 with
  | .str z, .lst ds => (joinD z ds).map fun r => (r, y.2)
  | .str z, .tup ds => (joinD z ds).map fun r => (r, y.2)
  | _, _ => none
theorem joinD_eq {z : Str} {ds : List D} {r : Rv} (h : joinD z ds = some r) : ∃ ys : List Str, ds = ys.map D.str ∧ (ys.map (·.length)).sum + ys.length * z.length ≤ 16777216 ∧ r = .imm (.str (Txt.join z ys)) := by
  unfold joinD at h
  obtain ⟨ys, e1, h⟩ := Option.bind_eq_some_iff.mp h
  split at h
  · rename_i hz
    cases h
    exact ⟨ys, strsD_eq e1, hz, rfl⟩
  · cases h
theorem px_join {X : Cx} {o e : Expr} {FO FA : Fd} {apos pos : Pos} (ho : PD X o FO) (ha : PD X e FA) (hs : noStar e = true) (hr : plainRecv o = true) (hl : (apos.endLine == pos.line) = true) : PX X (.Call (.Attribute o "join" apos) [e] [] pos) (joinF FO FA) :=
  pe_imp (pe_join ho ha (starEach_cons hs) (recv_base hr) hl) fun σ H Q ⟨ρ, loc, Hf, r, ρ', s, hF, kk⟩ => by
    unfold joinF at hF
    obtain ⟨⟨d, ρ1⟩, q1, hF⟩ := Option.bind_eq_some_iff.mp hF
    obtain ⟨⟨d2, ρ2⟩, q2, hF⟩ := Option.bind_eq_some_iff.mp hF
    dsimp only at hF
    split at hF
    · rename_i z ds
      obtain ⟨r1, e1, hF⟩ := Option.map_eq_some_iff.mp hF
      cases hF
      obtain ⟨ys, rfl, hz, rfl⟩ := joinD_eq e1
      refine ⟨ρ, loc, Hf, _, _, s, q1, fun v H1 Hf1 g1 s1 r => ?_⟩
      cases r
      refine ⟨⟨_, rfl⟩, ρ1, loc, Hf1, _, _, s1, q2, fun u H2 Hf2 g2 s2 r2 => ?_⟩
      obtain ⟨b, ws, rfl, h, rl⟩ := rp_lst r2
      rw [rpl_strs rl] at h
      exact ⟨_, b, ys, rfl, rfl, .inl (SqL.of (s2.sub _ _ h)), hz, kk _ H2 Hf2 (g1.trans g2) s2 (.str _)⟩
    · rename_i z ds
      obtain ⟨r1, e1, hF⟩ := Option.map_eq_some_iff.mp hF
      cases hF
      obtain ⟨ys, rfl, hz, rfl⟩ := joinD_eq e1
      refine ⟨ρ, loc, Hf, _, _, s, q1, fun v H1 Hf1 g1 s1 r => ?_⟩
      cases r
      refine ⟨⟨_, rfl⟩, ρ1, loc, Hf1, _, _, s1, q2, fun u H2 Hf2 g2 s2 r2 => ?_⟩
      obtain ⟨b, ob, ws, rfl, h, _, rl⟩ := rp_tup r2
      rw [rpl_strs rl] at h
      exact ⟨_, b, ys, rfl, rfl, .inr (sqT_fz (s2.sub _ _ h)), hz, kk _ H2 Hf2 (g1.trans g2) s2 (.str _)⟩
    · cases hF
end Ev
/-! text Ev41 -/
set_option Elab.async false
set_option linter.all false
set_option maxRecDepth 100000
set_option maxHeartbeats 4000000
namespace Ev
open PySem L2
/-! ### comprehensions of two clauses -/
def lc2F (t : Tg) (T : Ft) (FI1 : Fi) (t1 : Tg) (T1 : Ft) (FE : Fd) (vs vs1 : List Nat) : List D → Env → Option (List D × Env)
  | [], ρ => some ([], ρ)
  | d :: ds, ρ => (asg t d ρ).bind fun ρ1 => (T ρ1).bind fun x => if x.1 = true then (FI1 x.2).bind fun y => (lcF t1 T1 FE vs1 y.1 (wipeE y.2 vs1)).bind fun z => (lc2F t T FI1 t1 T1 FE vs vs1 ds (wipeE z.2 vs)).map fun u => (z.1 ++ u.1, u.2) else lc2F t T FI1 t1 T1 FE vs vs1 ds (wipeE x.2 vs)
def comp2F (t : Tg) (FI : Fi) (T : Ft) (FI1 : Fi) (t1 : Tg) (T1 : Ft) (FE : Fd) (vs vs1 : List Nat) : Fe := fun ρ => if (tvs t).all (fun i => decide (i ∈ vs)) = true ∧ (tvs t1).all (fun i => decide (i ∈ vs1)) = true ∧ vs1.all (fun i => decide (i ∈ vs)) = true then
  (FI ρ).bind fun x => (lc2F t T FI1 t1 T1 FE vs vs1 x.1 (wipeE x.2 vs)).bind fun y => if y.1.length ≤ sizeLine then some (.own (.lst y.1), backE x.2 y.2 vs) else none else none
theorem wipe_sub {σ : St} {vs vs1 : List Nat} (h : ∀ i ∈ vs1, i ∈ vs) : wipe (wipe σ vs1) vs = wipe σ vs := by
  apply List.ext_getElem?
  intro i
  by_cases hi : i ∈ vs
  · rw [wipe_in' hi, wipe_in' hi, wipe_length]
  · rw [wipe_out' hi, wipe_out' hi, wipe_out' fun z => hi (h i z)]
theorem Ge.wiped1 {ρ1 ρ' : Env} {loc : Loc} {H Hf H' Hf' : Hp} {vs vs1 : List Nat} (g : Ge (wipeE ρ1 vs) loc H Hf ρ' H' Hf') (h : ∀ i ∈ vs1, i ∈ vs) : Ge (wipeE ρ1 vs) loc H Hf (wipeE ρ' vs1) H' Hf' where
  there := g.there
  keep := g.keep
  frz := g.frz
  own := fun i c e => by
    rcases wipeE_in e with ⟨_, q⟩ | ⟨_, q⟩
    · cases q
    · exact g.own i c q
  par := fun i c e => by
    rcases wipeE_in e with ⟨_, q⟩ | ⟨_, q⟩
    · cases q
    · exact g.par i c q
  parK := fun i c e => by
    rcases wipeE_in e with ⟨_, q⟩ | ⟨n, q⟩
    · cases q
    · obtain ⟨c', z⟩ := g.parK i c e
      exact ⟨c', by rw [wipeE_out fun m => n (h i m)]; exact z⟩
theorem lc_inner {W : Wd} {t1 : Tg} {T1 : Ft} {FE : Fd} {vs vs1 : List Nat} {ρ0 ρs ρe : Env} {loc : Loc} {σ2 : St} {H1 Hf1 H4 Hf4 : Hp} {L : Addr} {accV : List V} {accD ys items : List D} {J1 : It} {Nx : Hp → Prop}
    (hv : ∀ i ∈ vs1, i ∈ vs) (htv : ∀ i ∈ tvs t1, i ∈ vs1) (hL : H1 L = none) (noL : ¬ IsOwn (wipeE ρ0 vs) loc L) (s4 : SOk W ρs loc (wipe σ2 vs1) H4 Hf4) (g4 : Ge (wipeE ρ0 vs) loc H1 Hf1 ρs H4 Hf4) (h4 : H4 L = some (.lst accV)) (f4 : Hf4 L = none) (r4 : RpL W Hf4 accV accD)
    (feed : Feed W J1 Hf4 items) (hl : lcF t1 T1 FE vs1 items ρs = some (ys, ρe)) (hz : accD.length + ys.length ≤ sizeLine)
    (done : ∀ H' Hf' accV', SOk W ρe loc (wipe σ2 vs1) H' Hf' → Ge (wipeE ρ0 vs) loc H1 Hf1 ρe H' Hf' → H' L = some (.lst accV') → Hf' L = none → RpL W Hf' accV' (accD ++ ys) → (∀ a o, Hf4 a = some o → Hf' a = some o) → Nx H') :
    ∃ W1 : Nat → Nat → Hp → Prop, (∃ m, W1 0 m H4) ∧ ∀ j k H, W1 j k H → (J1.stop j H ∧ Nx H) ∨ (J1.go j H ∧ ∃ Nx1 : Hp → Prop, (∀ H', Nx1 H' → ∃ k', k' < k ∧ W1 (j + 1) k' H') ∧ ∀ x H', J1.yld j H x H' →
      tG W t1 x (wipe σ2 vs1) H' fun σ3 H5 => wipe σ3 vs1 = wipe σ2 vs1 ∧ tT W T1 σ3 H5 fun b H6 => if b = true then tD W FE σ3 H6 fun y H7 => ∃ acc, H7 L = some (.lst acc) ∧ acc.length < sizeLine ∧ Nx1 (upd H7 L (.lst (acc ++ [y]))) else Nx1 H6) := by
  refine ⟨fun j k H' => k = items.length - j ∧ j ≤ items.length ∧ ∃ ρj Hfj aV aD rest, SOk W ρj loc (wipe σ2 vs1) H' Hfj ∧ Ge (wipeE ρ0 vs) loc H1 Hf1 ρj H' Hfj ∧ H' L = some (.lst aV) ∧ Hfj L = none ∧ RpL W Hfj aV aD ∧ aD.length + rest.length ≤ sizeLine ∧ (∀ a o, Hf4 a = some o → Hfj a = some o) ∧
    lcF t1 T1 FE vs1 (items.drop j) ρj = some (rest, ρe) ∧ accD ++ ys = aD ++ rest, ⟨_, rfl, Nat.zero_le _, ρs, Hf4, accV, accD, ys, s4, g4, h4, f4, r4, hz, fun _ _ h => h, hl, rfl⟩, ?_⟩
  rintro j k H' ⟨rfl, hj, ρj, Hfj, aV, aD, rest, sj, gj, hLj, fLj, ra, hza, fj, hlj, heq⟩
  by_cases hlt : j < items.length
  · have hd : items[j]? = some items[j] := List.getElem?_eq_getElem hlt
    have hdrop : items.drop j = items[j] :: items.drop (j + 1) := List.drop_eq_getElem_cons hlt
    rw [hdrop] at hlj
    unfold lcF at hlj
    obtain ⟨ρ2, p2, hlj⟩ := Option.bind_eq_some_iff.mp hlj
    obtain ⟨⟨bb, ρ3⟩, p3, hlj⟩ := Option.bind_eq_some_iff.mp hlj
    obtain ⟨go, yl⟩ := feed.go j _ H' Hfj hd fj sj.sub
    refine .inr ⟨go, _, fun H2 h => h, fun x H3 y => ?_⟩
    obtain ⟨Hf3, E, r⟩ := yl x H3 y
    have s3 := sj.ext E
    refine ⟨ρj, loc, Hf3, _, ρ2, s3, r, p2, fun σ4 u4 g5 s5 => ?_⟩
    have hwl : wipe σ4 vs1 = wipe σ2 vs1 := by
      have hlen : σ4.length = (wipe σ2 vs1).length := by rw [s5.len, asg_length p2, ← sj.len]
      rw [wipe_eq hlen u4 htv, wipe_wipe]
    refine ⟨hwl, ?_⟩
    have g6 : Ge (wipeE ρ0 vs) loc H1 Hf1 ρ2 H3 Hf3 := (gj.step E).trans g5
    refine ⟨ρ2, loc, Hf3, bb, ρ3, s5, p3, fun H5 Hf5 g7 s7 => ?_⟩
    have g8 := g6.trans g7
    have hL3 : H3 L = some (.lst aV) := E.keep _ _ hLj
    have fL3 : Hf3 L = none := (E.frz _ _ hLj).trans fLj
    have hL5 : H5 L = some (.lst aV) := g7.keep _ _ hL3 fun z => noL (g6.isOwn z)
    have fL5 : Hf5 L = none := (g7.frz _ _ hL3 fun z => noL (g6.isOwn z)).trans fL3
    have fx5 : ∀ a o, Hfj a = some o → Hf5 a = some o := fun a o q => g7.fixed s5 a o (E.fixed sj.sub a o q)
    cases bb with
    | true =>
      simp only [if_true] at hlj ⊢
      obtain ⟨⟨y1, ρ4⟩, p4, hlj⟩ := Option.bind_eq_some_iff.mp hlj
      obtain ⟨⟨rest', ρb'⟩, p5, p6⟩ := Option.map_eq_some_iff.mp hlj
      cases p6
      refine ⟨ρ3, loc, Hf5, y1, ρ4, s7, p4, fun v H7 Hf7 g9 s9 rv => ?_⟩
      have g10 := g8.trans g9
      have hL7 : H7 L = some (.lst aV) := g9.keep _ _ hL5 fun z => noL (g8.isOwn z)
      have fL7 : Hf7 L = none := (g9.frz _ _ hL5 fun z => noL (g8.isOwn z)).trans fL5
      have fx7 : ∀ a o, Hfj a = some o → Hf7 a = some o := fun a o q => g9.fixed s7 a o (fx5 a o q)
      have hza : aD.length + (rest'.length + 1) ≤ sizeLine := hza
      refine ⟨aV, hL7, by rw [ra.length]; omega, _, by omega, rfl, hlt, wipeE ρ4 vs1, Hf7, aV ++ [v], aD ++ [y1], rest', ?_, ?_, upd_same, fL7, (ra.mono fx7).append (.cons rv .nil), ?_, fun a o q => fx7 a o (fj a o q), p5, ?_⟩
      · have s10 := s9.wipe vs1
        rw [hwl] at s10
        exact s10.other fL7 fun z => noL ((g10.wiped1 hv).isOwn z)
      · exact (g10.wiped1 hv).other hL
      · rw [List.length_append, List.length_singleton]; omega
      · rw [heq, List.append_assoc]; rfl
    | false =>
      simp only [Bool.false_eq_true, if_false] at hlj ⊢
      refine ⟨_, by omega, rfl, hlt, wipeE ρ3 vs1, Hf5, aV, aD, rest, ?_, g8.wiped1 hv, hL5, fL5, ra.mono fx5, hza, fun a o q => fx5 a o (fj a o q), hlj, heq⟩
      have s10 := s7.wipe vs1
      rw [hwl] at s10
      exact s10
  · have e : j = items.length := by omega
    subst e
    rw [List.drop_length] at hlj
    cases hlj
    rw [List.append_nil] at heq
    exact .inl ⟨feed.stop H' Hfj fj sj.sub, done H' Hfj aV sj gj hLj fLj (heq ▸ ra) fj⟩
theorem lc2_read {W : Wd} {t t1 : Tg} {FI FI1 : Fi} {T T1 : Ft} {FE : Fd} {vs vs1 : List Nat} {σ : St} {H : Hp} {Q : VK} (h : tX W (comp2F t FI T FI1 t1 T1 FE vs vs1) σ H Q) :
    tLc2 (tI W FI) (tG W t) (tT W T) (tI W FI1) (tG W t1) (tT W T1) (tD W FE) vs vs1 σ H Q := by
  obtain ⟨ρ, loc, Hf, rv, ρ', s, hF, k⟩ := h
  unfold comp2F at hF
  split at hF
  · rename_i hc
    obtain ⟨hc1, hc2, hc3⟩ := hc
    obtain ⟨⟨items, ρ1⟩, q1, hF⟩ := Option.bind_eq_some_iff.mp hF
    obtain ⟨⟨fin, ρb⟩, q2, hF⟩ := Option.bind_eq_some_iff.mp hF
    dsimp only at hF
    split at hF
    · rename_i hz
      cases hF
      have htv : ∀ i ∈ tvs t, i ∈ vs := fun i hi => of_decide_eq_true (List.all_eq_true.mp hc1 i hi)
      have htv1 : ∀ i ∈ tvs t1, i ∈ vs1 := fun i hi => of_decide_eq_true (List.all_eq_true.mp hc2 i hi)
      have hv : ∀ i ∈ vs1, i ∈ vs := fun i hi => of_decide_eq_true (List.all_eq_true.mp hc3 i hi)
      refine ⟨ρ, loc, Hf, items, ρ1, s, q1, fun J H1 Hf1 g1 s1 feed L hL => ?_⟩
      have hLf : Hf1 L = none := free_of s1.sub hL
      have noL : ¬ IsOwn (wipeE ρ1 vs) loc L := (s1.wipe vs).newNot hL
      refine ⟨fun i m H' => m = items.length - i ∧ i ≤ items.length ∧ ∃ ρi Hfi aV aD rest, SOk W ρi loc (wipe σ vs) H' Hfi ∧ Ge (wipeE ρ1 vs) loc H1 Hf1 ρi H' Hfi ∧ H' L = some (.lst aV) ∧ Hfi L = none ∧
        RpL W Hfi aV aD ∧ (∀ a o, Hf1 a = some o → Hfi a = some o) ∧ lc2F t T FI1 t1 T1 FE vs vs1 (items.drop i) ρi = some (rest, ρb) ∧ fin = aD ++ rest, ⟨_, rfl, Nat.zero_le _, wipeE ρ1 vs, Hf1, [], [], fin, (s1.wipe vs).other hLf noL, Ge.refl.other hL, upd_same, hLf, .nil, fun _ _ h => h, q2, rfl⟩, ?_⟩
      rintro i m H' ⟨rfl, hi, ρi, Hfi, aV, aD, rest, si, gi, hLi, fLi, ra, fi, hl, hfin⟩
      by_cases hlt : i < items.length
      · have hd : items[i]? = some items[i] := List.getElem?_eq_getElem hlt
        have hdrop : items.drop i = items[i] :: items.drop (i + 1) := List.drop_eq_getElem_cons hlt
        rw [hdrop] at hl
        unfold lc2F at hl
        obtain ⟨ρ2, p2, hl⟩ := Option.bind_eq_some_iff.mp hl
        obtain ⟨⟨bb, ρ3⟩, p3, hl⟩ := Option.bind_eq_some_iff.mp hl
        obtain ⟨go, yl⟩ := feed.go i _ H' Hfi hd fi si.sub
        refine .inr ⟨go, _, fun H2 h => h, fun x H3 y => ?_⟩
        obtain ⟨Hf3, E, r⟩ := yl x H3 y
        have s3 := si.ext E
        refine ⟨ρi, loc, Hf3, _, ρ2, s3, r, p2, fun σ4 u4 g4 s4 => ?_⟩
        have hwl : wipe σ4 vs = wipe σ vs := by
          have hlen : σ4.length = (wipe σ vs).length := by rw [s4.len, asg_length p2, ← si.len]
          rw [wipe_eq hlen u4 htv, wipe_wipe]
        refine ⟨hwl, ?_⟩
        have g5 : Ge (wipeE ρ1 vs) loc H1 Hf1 ρ2 H3 Hf3 := (gi.step E).trans g4
        refine ⟨ρ2, loc, Hf3, bb, ρ3, s4, p3, fun H5 Hf5 g6 s6 => ?_⟩
        have g7 := g5.trans g6
        have hL3 : H3 L = some (.lst aV) := E.keep _ _ hLi
        have fL3 : Hf3 L = none := (E.frz _ _ hLi).trans fLi
        have hL5 : H5 L = some (.lst aV) := g6.keep _ _ hL3 fun z => noL (g5.isOwn z)
        have fL5 : Hf5 L = none := (g6.frz _ _ hL3 fun z => noL (g5.isOwn z)).trans fL3
        have fx5 : ∀ a o, Hfi a = some o → Hf5 a = some o := fun a o q => g6.fixed s4 a o (E.fixed si.sub a o q)
        cases bb with
        | true =>
          simp only [if_true] at hl ⊢
          obtain ⟨⟨items1, ρ4⟩, p4, hl⟩ := Option.bind_eq_some_iff.mp hl
          obtain ⟨⟨ys, ρ5⟩, p5, hl⟩ := Option.bind_eq_some_iff.mp hl
          obtain ⟨⟨rest', ρb'⟩, p6, p7⟩ := Option.map_eq_some_iff.mp hl
          cases p7
          refine ⟨ρ3, loc, Hf5, items1, ρ4, s6, p4, fun J1 H6 Hf6 g8 s8 feed1 => ?_⟩
          have g9 := g7.trans g8
          have hL6 : H6 L = some (.lst aV) := g8.keep _ _ hL5 fun z => noL (g7.isOwn z)
          have fL6 : Hf6 L = none := (g8.frz _ _ hL5 fun z => noL (g7.isOwn z)).trans fL5
          have fx6 : ∀ a o, Hfi a = some o → Hf6 a = some o := fun a o q => g8.fixed s6 a o (fx5 a o q)
          refine lc_inner (vs := vs) hv htv1 hL noL (s8.wipe vs1) (g9.wiped1 hv) hL6 fL6 (ra.mono fx6) feed1 p5 ?_ fun H9 Hf9 aV' s9 g10 hL9 fL9 r9 fx9 => ?_
          · have : fin.length = aD.length + (ys.length + rest'.length) := by rw [hfin]; simp
            omega
          · refine ⟨_, by omega, rfl, hlt, wipeE ρ5 vs, Hf9, aV', aD ++ ys, rest', ?_, g10.wiped, hL9, fL9, r9, fun a o q => fx9 a o (fx6 a o (fi a o q)), p6, ?_⟩
            · have s10 := s9.wipe vs
              rw [wipe_sub hv, hwl] at s10
              exact s10
            · rw [hfin, List.append_assoc]
        | false =>
          simp only [Bool.false_eq_true, if_false] at hl ⊢
          refine ⟨_, by omega, rfl, hlt, wipeE ρ3 vs, Hf5, aV, aD, rest, ?_, g7.wiped, hL5, fL5, ra.mono fx5, fun a o q => fx5 a o (fi a o q), hl, hfin⟩
          have s9 := (s6.wipe vs)
          rw [hwl] at s9
          exact s9
      · have e : i = items.length := by omega
        subst e
        rw [List.drop_length] at hl
        cases hl
        refine .inl ⟨feed.stop H' Hfi fi si.sub, ?_⟩
        obtain ⟨s9, g9⟩ := s1.back gi si fi
        refine k _ H' Hfi (g1.trans g9) s9 ⟨L, rfl, g1.there _ hL, fLi, aV, hLi, ?_⟩
        rw [hfin, List.append_nil]
        exact ra
    · cases hF
  · cases hF
end Ev
/-! text Ev42 -/
set_option Elab.async false
set_option linter.all false
set_option maxRecDepth 100000
set_option maxHeartbeats 4000000
namespace Ev
open PySem L2
section
variable {X : Cx} {tg iter tg1 iter1 elt : Expr} {k : Nat}
theorem px_comp2 {t t1 : Tg} {FI FI1 : Fi} {T T1 : Ft} {FE : Fd} {ifs ifs1 : List Expr} {scope : Scope} {own : List (Str × Nat)} {vs1 : List Nat} {pos : Pos} (q : Cq X k) (hi : PIt X tg iter FI) (ok : blkC X.N X.env.scope scope own = true) (hv : vs1.all (fun i => decide (i ∈ own.map (·.2))) = true)
    (hb : ∀ (s : Shared) (H : Hp) (C : Addr) (cl : List (Str × Addr)) (fp : List Addr), PG (X.blk s H scope (compEnvC scope cl C X.env) fp) tg (tG (wd X) t) ∧ PTs (X.blk s H scope (compEnvC scope cl C X.env) fp) ifs (tT (wd X) T) ∧ PE (X.blk s H scope (compEnvC scope cl C X.env) fp) elt (tD (wd X) FE) ∧
      PI (X.blk s H scope (compEnvC scope cl C X.env) fp) tg1 iter1 (tI (wd X) FI1) ∧ PG (X.blk s H scope (compEnvC scope cl C X.env) fp) tg1 (tG (wd X) t1) ∧ PTs (X.blk s H scope (compEnvC scope cl C X.env) fp) ifs1 (tT (wd X) T1))
    (hs : ∀ x, foldedSetIterable iter X.env x = pure x) (hs1 : ∀ env x, foldedSetIterable iter1 env x = pure x) : PX X (.ListComp elt [⟨tg, iter, ifs, 0⟩, ⟨tg1, iter1, ifs1, 0⟩] scope pos) (comp2F t FI T FI1 t1 T1 FE (own.map (·.2)) vs1) :=
  pe_imp (pe_lc2 q.calm q.nd hi (blkOk_by ok) (fun i hi => of_decide_eq_true (List.all_eq_true.mp hv i hi)) (fun s H C cl fp => (hb s H C cl fp).1) (fun s H C cl fp => (hb s H C cl fp).2.1) (fun s H C cl fp => (hb s H C cl fp).2.2.2.1) (fun s H C cl fp => (hb s H C cl fp).2.2.2.2.1)
    (fun s H C cl fp => (hb s H C cl fp).2.2.2.2.2) (fun s H C cl fp => (hb s H C cl fp).2.2.1) hs hs1) fun _ _ _ h => lc2_read h
end
end Ev
/-! text Ev43 -/
set_option Elab.async false
set_option linter.all false
set_option maxRecDepth 100000
set_option maxHeartbeats 4000000
namespace Ev
open PySem L2

/-! ### own classes on the surface -/
/-- the class c as it stands behind the top: plain; fs are no attributes of it -/
structure ClB (Θ : Th) (c : Str) (fs : List Str) : Prop where
  ok : ∀ C, Θ.mg c = some (.ref C) → Cls Θ.K C ∧ ∀ f ∈ fs, NoAttr Θ.K C f
def flP (l : List (Str × List Str)) (c f : Str) : Bool := l.any fun z => z.1 == c && z.2.contains f
structure Flds (Θ : Th) (l : List (Str × List Str)) : Prop where
  ok : ∀ c f, flP l c f = true → FldOk Θ.K Θ.mg c f
theorem Flds.nil {Θ : Th} : Flds Θ [] := ⟨fun c f h => by simp [flP] at h⟩
theorem Flds.cons {Θ : Th} {c : Str} {fs : List Str} {l : List (Str × List Str)} (h : ClB Θ c fs) (t : Flds Θ l) : Flds Θ ((c, fs) :: l) := ⟨fun c' f e => by
  unfold flP at e
  rw [List.any_cons, Bool.or_eq_true] at e
  rcases e with e | e
  · rw [Bool.and_eq_true] at e
    obtain ⟨e1, e2⟩ := e
    have e1' : c = c' := by simpa using e1
    subst e1'
    exact ⟨fun C hC => ⟨(h.ok C hC).1, (h.ok C hC).2 f (by simpa using e2)⟩⟩
  · exact t.ok c' f e⟩
/-- a method of the class c -/
structure MethAt (Θ : Th) (c m : Str) (n k : Nat) (F : Fn) : Prop where
  ex : ∃ C f, Θ.mg c = some (.ref C) ∧ Cls Θ.K C ∧ Meth Θ.K C m f ∧ CallOk Θ.P Θ.w Θ.K Θ.mg Θ.base k f n [] (spF Θ.W F)
structure MethB (Θ : Th) (c m qual : Str) (st : Stmt) (N ps : List Str) (n : Nat) : Prop where
  ex : ∃ C f, Θ.mg c = some (.ref C) ∧ Cls Θ.K C ∧ Meth Θ.K C m f ∧ DefAt Θ.K f qual st N ps n [] id
theorem mkMeth {Θ : Th} {c m qual : Str} {st : Stmt} {N ps : List Str} {n k : Nat} {B : Fs} (D : MethB Θ c m qual st N ps n)
    (hb : ∀ X, In Θ N (defScope st) (defScope st) k X → PSts X (defBody st) B) : MethAt Θ c m n (k + 1) (fun as => bodyF N.length ps.length B (id as)) := by
  obtain ⟨C, f, h1, h2, h3, d⟩ := D.ex
  exact ⟨C, f, h1, h2, h3, def_ok d gOk_id fun X a b c d e f g q hf => hb X (.body a b c d e f g q hf)⟩
/-- what makes objects of the class c -/
structure MkAt (Θ : Th) (c : Str) (n k : Nat) (F : Fn) : Prop where
  ex : ∃ C f, Θ.mg c = some (.ref C) ∧ Mk Θ.K C f ∧ CallOk Θ.P Θ.w Θ.K Θ.mg Θ.base k f (n + 1) [] (spF Θ.W F)
structure MkB (Θ : Th) (c qual : Str) (st : Stmt) (N ps : List Str) (n : Nat) : Prop where
  ex : ∃ C f, Θ.mg c = some (.ref C) ∧ Mk Θ.K C f ∧ DefAt Θ.K f qual st N ps (n + 1) [] id
theorem mkMk {Θ : Th} {c qual : Str} {st : Stmt} {N ps : List Str} {n k : Nat} {B : Fs} (D : MkB Θ c qual st N ps n)
    (hb : ∀ X, In Θ N (defScope st) (defScope st) k X → PSts X (defBody st) B) : MkAt Θ c n (k + 1) (fun as => bodyF N.length ps.length B (id as)) := by
  obtain ⟨C, f, h1, h2, d⟩ := D.ex
  exact ⟨C, f, h1, h2, def_ok d gOk_id fun X a b c d e f g q hf => hb X (.body a b c d e f g q hf)⟩

section
variable {Θ : Th} {N : List Str} {sc s0 : Scope} {k : Nat} {X : Cx} {a b c e o value : Expr} {es : List Expr} {FA FB : Fr} {FO FD : Fd} {FAs : Fa} {FL : Fl} {p pos : Pos}
theorem In.wd (I : In Θ N sc s0 k X) : wd X = Θ.W := by
  show (⟨X.K, X.mg⟩ : Wd) = ⟨Θ.K, Θ.mg⟩
  rw [I.K, I.mg]
theorem In.fl (I : In Θ N sc s0 k X) {l : List (Str × List Str)} (h : Flds Θ l) : ∀ c f, flP l c f = true → FldOk X.K X.mg c f := fun c f e => by
  rw [I.K, I.mg]; exact h.ok c f e
theorem s_fld (I : In Θ N sc s0 k X) {l : List (Str × List Str)} {f : Str} (h : Flds Θ l) (ha : PR X o FA) (hr : plainRecv o = true) : PX X (.Attribute o f pos) (fldF (flP l) f FA) := px_fld (I.fl h) ha hr
theorem s_fldS (I : In Θ N sc s0 k X) {l : List (Str × List Str)} {f : Str} {pos' : Pos} (h : Flds Θ l) (ho : PR X o FA) (hv : PD X value FD) (hs : swapsWith value (some (.Attribute o f pos')) pos.line X.env = pure false) :
    PSt X (.Assign [.Attribute o f pos'] value pos) (fldS (flP l) f FD FA) := pst_fld (I.fl h) ho hv hs
theorem s_meth (I : In Θ N sc s0 k X) {cl m : Str} {j : Nat} {F : Fn} {apos : Pos} (c : MethAt Θ cl m ((e :: es).length + 1) j F) (hj : j ≤ k) (ho : PD X o FO) (ha : PAs X (e :: es) FAs) (hs : (e :: es).all noStar = true) (hr : plainRecv o = true) (hl : (apos.endLine == pos.line) = true) (h30 : (e :: es).length < 29) :
    PX X (.Call (.Attribute o m apos) (e :: es) [] pos) (methF cl m (e :: es).length F FO FAs) := by
  obtain ⟨C, f, h1, h2, h3, h4⟩ := c.ex
  refine px_meth (C := C) (f := f) I.q (by rw [I.mg]; exact h1) (by rw [I.K]; exact h2) (by rw [I.K]; exact h3) ?_ ho ha hs hr hl h30
  rw [I.wd, I.prog, I.w, I.K, I.mg, I.base]
  exact h4.mono hj
theorem s_meth0 (I : In Θ N sc s0 k X) {cl m : Str} {j : Nat} {F : Fn} {apos : Pos} (c : MethAt Θ cl m 1 j F) (hj : j ≤ k) (ho : PD X o FO) (hr : plainRecv o = true) (hl : (apos.endLine == pos.line) = true) :
    PX X (.Call (.Attribute o m apos) [] [] pos) (methF cl m 0 F FO nilA) := by
  obtain ⟨C, f, h1, h2, h3, h4⟩ := c.ex
  refine px_meth0 (C := C) (f := f) I.q (by rw [I.mg]; exact h1) (by rw [I.K]; exact h2) (by rw [I.K]; exact h3) ?_ ho hr hl
  rw [I.wd, I.prog, I.w, I.K, I.mg, I.base]
  exact h4.mono hj
/-- n values -/
def chkL (n : Nat) (FL : Fl) : Fl := fun ρ => (FL ρ).bind fun x => if x.1.length = n then some x else none
theorem pls_chk {n : Nat} (h : PLs X es FL) : PLs X es (chkL n FL) := pa_imp h fun σ H Q ⟨ρ, loc, Hf, r, ρ', s, hF, kk⟩ => by
  unfold chkL at hF
  obtain ⟨x, q1, hF⟩ := Option.bind_eq_some_iff.mp hF
  split at hF
  · cases hF
    exact ⟨ρ, loc, Hf, _, _, s, q1, kk⟩
  · cases hF
theorem chkL_len {n : Nat} {ρ ρ' : Env} {ds : List D} (h : chkL n FL ρ = some (ds, ρ')) : ds.length = n := by
  unfold chkL at h
  obtain ⟨x, q1, h⟩ := Option.bind_eq_some_iff.mp h
  split at h
  · rename_i q
    cases h
    exact q
  · cases h
theorem s_make (I : In Θ N sc s0 k X) {x : Str} {j : Nat} {F : Fn} (c : MkAt Θ x (e :: es).length j F) (hj : j < k) (hg : glB sc x = true) (ha : PLs X (e :: es) FL) (hs : (e :: es).all noStar = true) (hdb : (x == ("__debug__" : Str)) = false) :
    PX X (.Call (.Name x p) (e :: es) [] pos) (makeF x F (chkL (e :: es).length FL)) := by
  obtain ⟨C, f, h1, h2, h3⟩ := c.ex
  obtain ⟨k', rfl⟩ : ∃ k', k = k' + 1 := ⟨k - 1, by omega⟩
  refine px_make (k := k') (Cc := C) (f := f) I.q (by rw [I.K]; exact h2) (I.gl hg) (by rw [I.mg]; exact h1) (by rw [I.mg]; exact h1) ?_ (pls_chk ha) hs hdb fun ρ ds ρ' h => chkL_len h
  rw [I.wd, I.prog, I.w, I.K, I.mg, I.base]
  exact h3.mono (by omega)
theorem s_lenSet (I : In Θ N sc s0 k X) {p2 q : Pos} (hg : glB sc "len" = true) (hm : Θ.mg "len" = none) (hg2 : glB sc "set" = true) (hm2 : Θ.mg "set" = none) (ha : PD X a FD) (na : noStar a = true) : PX X (.Call (.Name "len" p) [.Call (.Name "set" p2) [a] [] q] [] pos) (lenSetF FD) :=
  px_lenSet I.q (I.gl hg) (I.m0 hm) (I.gl hg2) (I.m0 hm2) ha na
theorem s_zip (I : In Θ N sc s0 k X) {tpos : Pos} {elts : List Expr} {kk : Nat} (hg : glB sc "zip" = true) (hm : Θ.mg "zip" = none) (ha : PLs X [a, b] FL) (hs : noStar a = true) (hs2 : noStar b = true) :
    PIt X (.Tuple elts kk tpos) (.Call (.Name "zip" p) [a, b] [] pos) (zipF FL) := pit_zip (I.gl hg) (I.m0 hm) ha hs hs2
theorem s_comp2 (I : In Θ N sc s0 k X) {tg iter tg1 iter1 elt : Expr} {t t1 : Tg} {FI FI1 : Fi} {T T1 : Ft} {FE : Fd} {ifs ifs1 : List Expr} {scope : Scope} {own : List (Str × Nat)} {vs1 : List Nat} (hi : PIt X tg iter FI) (ok : blkC N sc scope own = true) (hv : vs1.all (fun i => decide (i ∈ own.map (·.2))) = true)
    (hb : ∀ Y, In Θ N (relS scope sc) scope k Y → PG Y tg (tG (Ev.wd Y) t) ∧ PTs Y ifs (tT (Ev.wd Y) T) ∧ PD Y elt FE ∧ PIt Y tg1 iter1 FI1 ∧ PG Y tg1 (tG (Ev.wd Y) t1) ∧ PTs Y ifs1 (tT (Ev.wd Y) T1))
    (hs : ∀ x, foldedSetIterable iter X.env x = pure x) (hs1 : ∀ env x, foldedSetIterable iter1 env x = pure x) : PX X (.ListComp elt [⟨tg, iter, ifs, 0⟩, ⟨tg1, iter1, ifs1, 0⟩] scope pos) (comp2F t FI T FI1 t1 T1 FE (own.map (·.2)) vs1) :=
  px_comp2 I.q hi (by rw [I.N, I.sc]; exact ok) hv (fun s H C cl fp => hb _ (I.blk scope s H C cl fp)) hs hs1
/-- a table's parts: the two statements that fill it -/
theorem s_known (I : In Θ N sc s0 k X) {l : List (Str × List Str)} {t t2 : Tg} {FV FN FP : Fd} {FK : Fl} {f g x1 x2 x3 x4 : Str} {eP eN eV : Expr} {ts1 ts2 esK : List Expr} {k1 k2 kK : Nat} {q1 q2 q3 q4 pa pd p1 pz pf pc pz2 pf2 pc2 pg pK pS p4 p5 p6 pt1 pt2 : Pos}
    (hp : Flds Θ l) (h1 : visB N sc 0 x1 = true) (h2 : visB N sc 0 x2 = true) (h3 : visB N sc 0 x3 = true) (h4 : visB N sc 0 x4 = true)
    (hg : glB sc "zip" = true) (hm : Θ.mg "zip" = none) (hP : PD X eP FP) (hN : PD X eN FN) (hV : PD X eV FV) (hK : PLs X esK FK) (ht : PG X (.Tuple ts1 k1 pt1) (tG (Ev.wd X) t)) (ht2 : PG X (.Tuple ts2 k2 pt2) (tG (Ev.wd X) t2))
    (nP : noStar eP = true) (nN : noStar eN = true)
    (w1 : swapsWith (.Dict [] [] pd) (some (.Attribute (.Name x1 q1) g pa)) p1.line X.env = pure false) (w4 : swapsWith eV (some (.Subscript (.Attribute (.Name x4 q4) g pg) (.Tuple esK kK pK) pS)) p4.line X.env = pure false)
    (z1 : ∀ x, foldedSetIterable (.Call (.Name "zip" pz) [.Attribute (.Name x2 q2) f pf, eP] [] pc) X.env x = pure x) (z2 : ∀ x, foldedSetIterable (.Call (.Name "zip" pz2) [.Attribute (.Name x3 q3) f pf2, eN] [] pc2) X.env x = pure x) :
    PSts X [.Assign [.Attribute (.Name x1 q1) g pa] (.Dict [] [] pd) p1, .For (.Tuple ts1 k1 pt1) (.Call (.Name "zip" pz) [.Attribute (.Name x2 q2) f pf, eP] [] pc) [.For (.Tuple ts2 k2 pt2) (.Call (.Name "zip" pz2) [.Attribute (.Name x3 q3) f pf2, eN] [] pc2)
      [.Assign [.Subscript (.Attribute (.Name x4 q4) g pg) (.Tuple esK kK pK) pS] eV p4] [] p5] [] p6] (knownS (flP l) f g t t2 FP FN FV FK) :=
  psts_known I.q (I.fl hp) (I.pv h1) (I.pv h2) (I.pv h3) (I.pv h4) rfl rfl rfl (I.gl hg) (I.m0 hm) hP hN hV hK ht ht2 rfl rfl nP nN w1 w4 z1 z2
end

/-! ### what the top has written of a class -/
theorem clB {Θ : Th} {h : Heap} {c : Str} {fs : List Str} {C : Addr} (X : Θ.K.In h) (G : h.Ns mainGlobals Θ.mg) (a : PySem.W.nsIn Θ.K mainGlobals c = some (some (.ref C))) (cl : Cls Θ.K C) (n : ∀ f ∈ fs, NoAttr Θ.K C f) : ClB Θ c fs := ⟨fun C' e => by
  have := (PySem.W.mg_of X G a).symm.trans e
  cases this
  exact ⟨cl, n⟩⟩
theorem methB {Θ : Th} {h : Heap} {c m qual : Str} {st : Stmt} {N ps : List Str} {n : Nat} {C f : Addr} (X : Θ.K.In h) (G : h.Ns mainGlobals Θ.mg) {od an : Option Addr} {sl : Array (Option Value)} {oc kV dc pm cd ct : Value}
    (aC : PySem.W.nsIn Θ.K mainGlobals c = some (some (.ref C))) (cl : Cls Θ.K C) (a : PySem.W.findIn Θ.K (.ref C) m = some (some (.ref f))) (i : PySem.W.isFn Θ.K (.ref f) = true) (l : Θ.K.lookup f = some ⟨oc, od, .func (PySem.W.fnOf m qual (defArgs st) (defBody st) (defScope st) .none kV dc pm an cd ct), sl⟩)
    (co : PySem.W.codeIn Θ.K cd qual = true) (kp : PySem.W.keepIn Θ.K (.ref f) = true) (sc : FnScope N ps (defScope st)) (hn : n = ps.length)
    (hb : ∀ (us : List Value), us.length = n → bindArgs (PySem.W.fnOf m qual (defArgs st) (defBody st) (defScope st) .none kV dc pm an cd ct) ⟨us, []⟩ = pure (ps.zip us)) : MethB Θ c m qual st N ps n :=
  ⟨C, f, PySem.W.mg_of X G aC, cl, ⟨a, i, kp⟩, ⟨m, oc, od, .none, kV, dc, pm, an, cd, ct, sl, l, co, fun s us ws _ l1 l2 => by
    have e : ws = [] := List.length_eq_zero_iff.mp l2
    subst e
    exact ⟨us, .of_eq (hb us l1), by rw [l1, hn], fun vs zs r1 r2 => by cases r2; rw [List.append_nil]; exact r1⟩⟩, sc⟩
theorem mkB {Θ : Th} {h : Heap} {c qual : Str} {st : Stmt} {N ps : List Str} {n : Nat} {C f : Addr} (X : Θ.K.In h) (G : h.Ns mainGlobals Θ.mg) {od an : Option Addr} {sl : Array (Option Value)} {oc kV dc pm cd ct : Value}
    (aC : PySem.W.nsIn Θ.K mainGlobals c = some (some (.ref C))) (mk : PySem.W.makesIn Θ.K C = true) (kc : PySem.W.keepIn Θ.K (.ref C) = true) (a : PySem.W.findIn Θ.K (.ref C) "__init__" = some (some (.ref f))) (i : PySem.W.isFn Θ.K (.ref f) = true) (l : Θ.K.lookup f = some ⟨oc, od, .func (PySem.W.fnOf "__init__" qual (defArgs st) (defBody st) (defScope st) .none kV dc pm an cd ct), sl⟩)
    (co : PySem.W.codeIn Θ.K cd qual = true) (kp : PySem.W.keepIn Θ.K (.ref f) = true) (sc : FnScope N ps (defScope st)) (hn : n + 1 = ps.length)
    (hb : ∀ (us : List Value), us.length = n + 1 → bindArgs (PySem.W.fnOf "__init__" qual (defArgs st) (defBody st) (defScope st) .none kV dc pm an cd ct) ⟨us, []⟩ = pure (ps.zip us)) : MkB Θ c qual st N ps n :=
  ⟨C, f, PySem.W.mg_of X G aC, ⟨mk, a, i, kc⟩, ⟨"__init__", oc, od, .none, kV, dc, pm, an, cd, ct, sl, l, co, fun s us ws _ l1 l2 => by
    have e : ws = [] := List.length_eq_zero_iff.mp l2
    subst e
    exact ⟨us, .of_eq (hb us l1), by rw [l1, hn], fun vs zs r1 r2 => by cases r2; rw [List.append_nil]; exact r1⟩⟩, sc⟩
end Ev
/-! text Ev44 -/
set_option Elab.async false
set_option linter.all false
set_option maxRecDepth 100000
set_option maxHeartbeats 4000000
namespace Ev
open PySem L2

/-! ### simp rules for classes, texts, sets -/
section
variable {ρ : Env} {FO FD FD2 : Fd} {FA : Fr} {AA : Fa} {LL : Fl} {F : Fn} {p : Str → Str → Bool} {c m f : Str} {n : Nat}
@[simp ↓] theorem ap_fld {Φ : _ → Prop} : Ok (fldF p f FA ρ) Φ ↔ Ok (FA ρ) fun x => Ok (deref x.2 x.1) fun d => match d with
    | .obj c fs => p c f = true ∧ Ok (fs.lookup f) fun z => Φ (.imm z, x.2)
    | _ => False := by
  unfold fldF
  rw [Ok_bind]
  refine Ok_ext fun x => ?_
  rw [Ok_bind]
  refine Ok_ext fun d => ?_
  cases d <;> first | exact Ok_none | exact Iff.trans Ok_iff (and_congr_right fun _ => Ok_map)
@[simp ↓] theorem ap_meth {Φ : _ → Prop} : Ok (methF c m n F FO AA ρ) Φ ↔ Ok (FO ρ) fun x => match x.1 with
    | .obj c' fs => (c' = c ∧ fs.lookup m = none) ∧ Ok (AA x.2) fun y => y.1.length = n ∧ Ok (applyU F (.val (.obj c' fs) :: y.1) y.2) Φ
    | _ => False := by
  unfold methF
  rw [Ok_bind]
  refine Ok_ext fun x => ?_
  obtain ⟨d, ρ'⟩ := x
  cases d <;> first | exact Ok_none | (refine Iff.trans Ok_iff (and_congr_right fun _ => ?_); rw [Ok_bind]; exact Ok_ext fun y => Ok_iff)
@[simp ↓] theorem ap_chkL {Φ : _ → Prop} : Ok (chkL n LL ρ) Φ ↔ Ok (LL ρ) fun x => x.1.length = n ∧ Φ x := by
  unfold chkL
  rw [Ok_bind]
  exact Ok_ext fun y => Iff.trans Ok_iff (and_congr_right fun _ => Ok_some)
theorem ap_make {Φ : _ → Prop} : Ok (makeF c F LL ρ) Φ ↔ Ok (LL ρ) fun x => Ok (F (.own (.ins c []) :: x.1.map .imm)) fun y => match y with
    | (.imm .non, [c0]) => Φ (.own c0, x.2)
    | _ => False := by
  unfold makeF
  rw [Ok_bind]
  refine Ok_ext fun x => ?_
  cases h : F (.own (.ins c []) :: x.1.map .imm) with
  | none => exact ⟨fun z => absurd z (by simp), fun z => absurd z (by simp)⟩
  | some y =>
    rw [Ok_some]
    obtain ⟨r, cs⟩ := y
    cases r with
    | own c0 => exact Ok_none
    | imm d =>
      cases d <;> (try exact Ok_none)
      match cs with
      | [] => exact Ok_none
      | [c0] => exact Ok_some
      | _ :: _ :: _ => exact Ok_none
/-- .. known what its __init__ leaves -/
@[simp ↓] theorem ap_make' {Φ : _ → Prop} : Ok (makeF c F LL ρ) Φ ↔ Ok (LL ρ) fun x => ∃ c0, F (.own (.ins c []) :: x.1.map .imm) = some (.imm .non, [c0]) ∧ Φ (.own c0, x.2) := by
  rw [ap_make]
  refine Ok_ext fun x => ?_
  constructor
  · rintro ⟨⟨r, cs⟩, h1, h2⟩
    cases r with
    | own c0 => exact h2.elim
    | imm d =>
      cases d <;> (try exact h2.elim)
      match cs, h2 with
      | [c0], h2 => exact ⟨c0, h1, h2⟩
      | [], h2 => exact h2.elim
      | _ :: _ :: _, h2 => exact h2.elim
  · rintro ⟨c0, h1, h2⟩
    rw [h1]
    exact Ok_some.mpr h2
@[simp ↓] theorem ap_fldS {Φ : _ → Prop} : Ok (fldS p f FD FA ρ) Φ ↔ Ok (FD ρ) fun x => Ok (FA x.2) fun y => Ok (rfOf y.1) fun i => Ok (match contAt y.2 i with
    | some (.ins c fs) => if p c f = true ∧ fs.length < 1000 then some (.nx, setC y.2 i (.ins c (putFD f x.1 fs))) else none
    | _ => none) Φ := by
  unfold fldS
  rw [Ok_bind]
  refine Ok_ext fun x => ?_
  rw [Ok_bind]
  refine Ok_ext fun y => ?_
  refine Iff.trans Ok_bind (Ok_ext fun i => ?_)
  exact Iff.rfl
@[simp ↓] theorem ap_join {Φ : _ → Prop} : Ok (joinF FO FD ρ) Φ ↔ Ok (FO ρ) fun x => Ok (FD x.2) fun y => match x.1, y.1 with
    | .str z, .lst ds => Ok (joinD z ds) fun r => Φ (r, y.2)
    | .str z, .tup ds => Ok (joinD z ds) fun r => Φ (r, y.2)
    | _, _ => False := by
  unfold joinF
  rw [Ok_bind]
  refine Ok_ext fun x => ?_
  rw [Ok_bind]
  refine Ok_ext fun y => ?_
  obtain ⟨d, ρ1⟩ := x
  obtain ⟨e, ρ2⟩ := y
  cases d <;> cases e <;> first | exact Ok_none | exact Ok_map
@[simp ↓] theorem ap_lenSet {Φ : _ → Prop} : Ok (lenSetF FD ρ) Φ ↔ Ok (FD ρ) fun x => match x.1 with
    | .lst ds => Ok (strsD ds) fun xs => xs.length < 4000 ∧ Φ (.imm (.int (dedupTo xs xs.length).length), x.2)
    | .tup ds => Ok (strsD ds) fun xs => xs.length < 4000 ∧ Φ (.imm (.int (dedupTo xs xs.length).length), x.2)
    | _ => False := by
  unfold lenSetF
  rw [Ok_bind]
  refine Ok_ext fun x => ?_
  obtain ⟨d, ρ1⟩ := x
  cases d <;> first | exact Ok_none | (refine Iff.trans Ok_bind (Ok_ext fun xs => ?_); exact Iff.trans Ok_iff (and_congr_right fun _ => Ok_some))
@[simp ↓] theorem ap_zip {Φ : _ → Prop} : Ok (zipF LL ρ) Φ ↔ Ok ((LL ρ).bind fun x => (zipI x.1).map fun ds => (ds, x.2)) Φ := Iff.rfl
@[simp ↓] theorem ap_comp2 {t t1 : Tg} {FI FI1 : Fi} {T T1 : Ft} {vs vs1 : List Nat} {Φ : _ → Prop} : Ok (comp2F t FI T FI1 t1 T1 FD vs vs1 ρ) Φ ↔ ((tvs t).all (fun i => decide (i ∈ vs)) = true ∧ (tvs t1).all (fun i => decide (i ∈ vs1)) = true ∧ vs1.all (fun i => decide (i ∈ vs)) = true) ∧
    Ok (FI ρ) fun x => Ok (lc2F t T FI1 t1 T1 FD vs vs1 x.1 (wipeE x.2 vs)) fun y => y.1.length ≤ sizeLine ∧ Φ (.own (.lst y.1), backE x.2 y.2 vs) := by
  unfold comp2F
  refine Iff.trans Ok_iff (and_congr_right fun _ => ?_)
  rw [Ok_bind]
  refine Ok_ext fun x => ?_
  rw [Ok_bind]
  exact Ok_ext fun y => Iff.trans Ok_iff (and_congr_right fun _ => Ok_some)
@[simp] theorem co_ins {fs : List (Str × D)} : C.toD (.ins c fs) = .obj c fs := rfl
@[simp] theorem ty_str {x : Str} : tyD (.str x) = some "str" := rfl
@[simp] theorem ty_non : tyD .non = some "NoneType" := rfl
@[simp] theorem ty_bl {b : Bool} : tyD (.bl b) = some "bool" := rfl
@[simp] theorem kb_ss : kitB "str" "str" = some true := by decide +kernel
@[simp] theorem kb_sl : anyTy "str" ["list", "tuple"] = some false := by decide +kernel
@[simp] theorem seqI_str {z : Str} : seqI (.str z) = some (signsD z) := rfl
@[simp] theorem zip_tl {xs ys : List D} : zipI [.tup xs, .lst ys] = some (zipD xs ys) := rfl
@[simp] theorem zip_tt {xs ys : List D} : zipI [.tup xs, .tup ys] = some (zipD xs ys) := rfl
@[simp] theorem zip_ll {xs ys : List D} : zipI [.lst xs, .lst ys] = some (zipD xs ys) := rfl
@[simp] theorem zip_lt {xs ys : List D} : zipI [.lst xs, .tup ys] = some (zipD xs ys) := rfl
@[simp] theorem all_tup {xs : List D} : allLD [.lst xs] = allLD [.lst xs] := rfl
end
@[simp ↓] theorem ap_lc0 {t : Tg} {T : Ft} {FE : Fd} {vs : List Nat} {ρ : Env} {Φ : _ → Prop} : Ok (lcF t T FE vs [] ρ) Φ ↔ Φ ([], ρ) := Ok_some
@[simp ↓] theorem ap_lc {t : Tg} {T : Ft} {FE : Fd} {vs : List Nat} {d : D} {ds : List D} {ρ : Env} {Φ : _ → Prop} : Ok (lcF t T FE vs (d :: ds) ρ) Φ ↔ Ok (asg t d ρ) fun ρ1 => Ok (T ρ1) fun x => Ok (if x.1 = true then (FE x.2).bind fun y => (lcF t T FE vs ds (wipeE y.2 vs)).map fun z => (y.1 :: z.1, z.2) else lcF t T FE vs ds (wipeE x.2 vs)) Φ := by
  rw [lcF, Ok_bind]
  refine Ok_ext fun ρ1 => ?_
  rw [Ok_bind]
@[simp ↓] theorem ap_yes {ρ : Env} {Φ : _ → Prop} : Ok (yesT ρ) Φ ↔ Φ (true, ρ) := Ok_some
/-! lists, tuples of anything that f tells -/
theorem loop_map {α : Type} {f : α → D} {t : Tg} {B : Fs} (P : List α → Env → Prop) (step : ∀ p w ρ, P (p :: w) ρ → Ok (asg t (f p) ρ) fun ρ1 => Ok (B ρ1) fun y => y.1 = .nx ∧ P w y.2) {w : List α} {ρ : Env} (h : P w ρ) :
    Ok (loopF t B (w.map f) ρ) fun y => y.1 = .nx ∧ P [] y.2 := by
  refine (loopF_rel (fun ds ρ => ∃ w : List α, ds = w.map f ∧ P w ρ) (fun fl ρ => fl = .nx ∧ P [] ρ) ?_ ?_ (w.map f) ρ ⟨w, rfl, h⟩)
  · rintro d ds ρ ⟨w, e, hp⟩
    cases w with
    | nil => cases e
    | cons p w =>
      rw [List.map_cons] at e
      cases e
      refine (step p w ρ hp).imp fun ρ1 h1 => h1.imp fun y ⟨h2, h3⟩ => ?_
      obtain ⟨fl, ρ2⟩ := y
      dsimp only at h2
      subst h2
      exact ⟨w, rfl, h3⟩
  · rintro ρ ⟨w, e, hp⟩
    cases w with
    | nil => exact ⟨rfl, hp⟩
    | cons p w => cases e
theorem lc_map {α : Type} {g : α → D} {FE : Fd} {t : Tg} {vs : List Nat} {ρ : Env} (f : α → D) : ∀ {w : List α}, (∀ p ∈ w, Ok (asg t (g p) ρ) fun ρ1 => Ok (FE ρ1) fun y => y.1 = f p ∧ wipeE y.2 vs = ρ) → Ok (lcF t yesT FE vs (w.map g) ρ) fun z => z = (w.map f, ρ) := by
  intro w h
  refine (lcF_rel (fun ds acc ρ' => ∃ v u : List α, ds = v.map g ∧ w = u ++ v ∧ acc = u.map f ∧ ρ' = ρ) ?_ (w.map g) [] ρ ⟨w, [], rfl, rfl, rfl, rfl⟩).imp ?_
  · rintro d ds acc ρ' ⟨v, u, e, ew, ea, rfl⟩
    cases v with
    | nil => cases e
    | cons p v =>
      rw [List.map_cons] at e
      cases e
      refine (h p (by rw [ew]; simp)).imp fun ρ1 h1 => h1.imp fun y ⟨h2, h3⟩ => ?_
      exact ⟨v, u ++ [p], rfl, by rw [ew]; simp, by rw [ea, h2]; simp, h3⟩
  · rintro ⟨l, ρ'⟩ ⟨v, u, e, ew, ea, er⟩
    cases v with
    | nil =>
      rw [List.append_nil] at ew
      subst ew
      dsimp only at ea er
      rw [List.nil_append] at ea
      rw [ea, er]
    | cons p v => cases e
/-- .. with a test -/
theorem lcT_map {α : Type} {g : α → D} {T : Ft} {FE : Fd} {tg : Tg} {vs : List Nat} {ρ : Env} (t : α → Bool) (f : α → D) : ∀ {w : List α}, (∀ p ∈ w, Ok (asg tg (g p) ρ) fun ρ1 => Ok (T ρ1) fun x => x.1 = t p ∧ (t p = false → wipeE x.2 vs = ρ) ∧ (t p = true → Ok (FE x.2) fun y => y.1 = f p ∧ wipeE y.2 vs = ρ)) →
    Ok (lcF tg T FE vs (w.map g) ρ) fun z => z = ((w.filter t).map f, ρ) := by
  intro w h
  refine (lcT_rel (fun ds acc ρ' => ∃ v u : List α, ds = v.map g ∧ w = u ++ v ∧ acc = (u.filter t).map f ∧ ρ' = ρ) ?_ (w.map g) [] ρ ⟨w, [], rfl, rfl, rfl, rfl⟩).imp ?_
  · rintro d ds acc ρ' ⟨v, u, e, ew, ea, rfl⟩
    cases v with
    | nil => cases e
    | cons p v =>
      rw [List.map_cons] at e
      cases e
      refine (h p (by rw [ew]; simp)).imp fun ρ1 h1 => h1.imp fun x ⟨h2, h3, h4⟩ => ?_
      obtain ⟨b, ρ2⟩ := x
      dsimp only at h2
      subst h2
      cases ht : t p with
      | true =>
        simp only [if_true]
        refine (h4 ht).imp fun y ⟨h5, h6⟩ => ⟨v, u ++ [p], rfl, by rw [ew]; simp, by rw [ea, h5]; simp [List.filter_append, ht], h6⟩
      | false =>
        simp only [Bool.false_eq_true, if_false]
        exact ⟨v, u ++ [p], rfl, by rw [ew]; simp, by rw [ea]; simp [List.filter_append, ht], h3 ht⟩
  · rintro ⟨l, ρ'⟩ ⟨v, u, e, ew, ea, er⟩
    cases v with
    | nil =>
      rw [List.append_nil] at ew
      subst ew
      dsimp only at ea er
      rw [List.nil_append] at ea
      rw [ea, er]
    | cons p v => cases e
theorem map_at {α : Type} {f : α → D} {xs : List α} {i : Nat} (h : i < xs.length) : atI (xs.map f) (i : Int) = some (f xs[i]) := by
  rw [atI_map, atI_nat' h]; rfl
theorem map_at1 {α : Type} {f : α → D} {xs : List α} {i : Nat} (h : i + 1 < xs.length) : atI (xs.map f) ((i : Int) + 1) = some (f xs[i + 1]) := by
  rw [← map_at (f := f) h]; rfl
end Ev
/-! text Ev45 -/
set_option Elab.async false
set_option linter.all false
set_option maxRecDepth 100000
set_option maxHeartbeats 4000000
namespace Ev
open PySem PySem.Spec PyProof.Rows L2 HT
/-! ### t += u, tuples -/
theorem no_iadd_tup : typeLookup (.type "tuple") (dunderI "add") = pure none := by rw [typeLookup_type, builtinLookup_eq_fast]; kernel_rfl
section
variable {prog : Program} {w : World} {A : Around} {E : Value → Shared → Prop} {s : Shared}
theorem icat_tup {t b : Addr} {vs ws : List Value} {Q : Value → Shared → Prop} (ht : IsTup s.heap t vs.toArray) (hb : IsTup s.heap b ws.toArray) (hv : vs ≠ [])
    (h1 : ws = [] → Q (.ref t) s) (h2 : ws ≠ [] → Q (.ref s.heap.objs.size) { s with heap := s.heap.push { cls := .type "tuple", data := .seq (vs ++ ws).toArray } })
    (hsz : vs.length + ws.length ≤ sizeLine) : wpAny (model prog w) A (inplaceOp .Add (.ref t) (.ref b)) Q E s := by
  obtain ⟨⟨cls, dd, data, sl⟩, ho, hc, n, hd⟩ := id ht
  obtain ⟨⟨cls2, dd2, data2, sl2⟩, ho2, hc2, n2, hd2⟩ := id hb
  simp only at hc hd hc2 hd2
  subst hc hd hc2 hd2
  have e : vs.toArray ++ ws.toArray = (vs ++ ws).toArray := by simp
  by_cases hw : ws = []
  · exact wpAny_inplaceOp_concat ⟨_, ho, rfl⟩ ⟨_, ho2, rfl⟩ no_iadd_tup noFill_tuple_add seq_tuple_add (call_meets PySem.F.slot_tuple_add ⟨_, ho, rfl⟩ PySem.F.entry_tuple_add (PySem.F.args_tuple_add_2 _ _)
      (tuple_addW1 t b vs.toArray ws.toArray n n2 dd dd2 sl sl2 (by simpa using hv) (by simp [hw])) ⟨ho, ho2, h1 hw⟩)
  · refine wpAny_inplaceOp_concat ⟨_, ho, rfl⟩ ⟨_, ho2, rfl⟩ no_iadd_tup noFill_tuple_add seq_tuple_add (call_meets PySem.F.slot_tuple_add ⟨_, ho, rfl⟩ PySem.F.entry_tuple_add (PySem.F.args_tuple_add_2 _ _)
      (tuple_addW2 t b vs.toArray ws.toArray n n2 dd dd2 sl sl2 (by simpa using hv) (by simpa using hw) (by rw [List.size_toArray, List.size_toArray]; exact hsz)) ⟨ho, ho2, ?_⟩)
    rw [e]
    exact h2 hw
theorem icat_tup0 {t b : Addr} {ws : List Value} {Q : Value → Shared → Prop} (ht : IsTup s.heap t ([] : List Value).toArray) (hb : IsTup s.heap b ws.toArray) (h : Q (.ref b) s) : wpAny (model prog w) A (inplaceOp .Add (.ref t) (.ref b)) Q E s := by
  obtain ⟨⟨cls, dd, data, sl⟩, ho, hc, n, hd⟩ := id ht
  obtain ⟨⟨cls2, dd2, data2, sl2⟩, ho2, hc2, n2, hd2⟩ := id hb
  simp only at hc hd hc2 hd2
  subst hc hd hc2 hd2
  exact wpAny_inplaceOp_concat ⟨_, ho, rfl⟩ ⟨_, ho2, rfl⟩ no_iadd_tup noFill_tuple_add seq_tuple_add (call_meets PySem.F.slot_tuple_add ⟨_, ho, rfl⟩ PySem.F.entry_tuple_add (PySem.F.args_tuple_add_2 _ _)
    (tuple_addW0 t b ([] : List Value).toArray ws.toArray n n2 dd dd2 sl sl2 (by simp)) ⟨ho, ho2, h⟩)
end
section
variable {X : Cx}
theorem iop_catF : OpR X (inplaceOp .Add) (rCatF X.K) := by
  intro pins s σ H x y v u Q I rx ry h
  obtain ⟨a, b, xs, ys, rfl, rfl, ha, hb, hz, q0, q1, q2⟩ := h
  cases rx
  cases ry
  obtain ⟨its, r1, p1, _⟩ := I.tuple ha
  obtain ⟨its2, r2, p2, _⟩ := I.tuple hb
  by_cases hx : xs = []
  · subst hx
    cases r1
    exact icat_tup0 p1 p2 ⟨.ref b, H, I, rfl, q0 rfl⟩
  · refine icat_tup p1 p2 (fun z => hx (r1.nil_iff.mp z)) (fun z => ⟨.ref a, H, I, rfl, q1 hx (r2.nil_iff.mp z)⟩) (fun z => ?_) (by rw [← r1.length, ← r2.length]; exact hz)
    exact ⟨.ref s.heap.objs.size, _, laidT (t' := s.toks) I (r1.append r2) (by rw [List.length_append]; exact hz) (fun b ob q => Heap.get?_push_of_some _ q) (Nat.le_refl _) (Heap.get?_push_size _ rfl) rfl ⟨_, rfl⟩, rfl,
      q2 hx (fun w => z (r2.nil_iff.mpr w)) _ _ ⟨_, rfl, rfl⟩ (I.hok.fresh (Nat.le_refl _))⟩
def rAugA (K : PySem.W.Frag) : R2 := fun x y H Q => rI0 (fun i j => .int (i + j)) x y H Q ∨ ((∃ i j, x = .str i ∧ y = .str j ∧ i.length + j.length ≤ sizeLine ∧ Q (.str (i ++ j)) H) ∨ rCatF K x y H Q)
theorem iop_addA : OpR X (inplaceOp .Add) (rAugA X.K) := iop_add.or (iop_add_str.or iop_catF)
/-- not in place -/
def addN : D → D → Option Rv
  | .lst _, _ => none
  | d, e => addD d e
theorem dop_addN {W : Wd} : DOp W (rAugA W.K) addN := fun x y d e z H Hf Q s a b q k => by
  unfold addN at q
  split at q
  · cases q
  · rename_i nl
    rcases dop_add (W := W) x y d e z H Hf Q s a b q k with h | h | h | h
    · exact .inl h
    · exact .inr (.inl h)
    · exfalso
      obtain ⟨l, b', xs, zs, rfl, rfl, h1, h2, _⟩ := h
      unfold addD at q
      split at q
      · cases a
      · cases a
      · exact nl _ rfl
      · cases a with
        | tup g1 g2 g3 => rw [s _ _ g1] at h1; cases h1
      · cases q
    · exact .inr (.inr h)
theorem iop_subD : OpR X (inplaceOp .Sub) (rI (fun _ _ => True) fun i j => .int (i - j)) := opI fun _ _ _ _ _ _ _ _ q => isub_int q
def rMulI : R2 := fun x y H Q => rI CMul (fun i j => .int (i * j)) x y H Q
/-- small factors alone -/
def mulS (i j : Int) : Option Int := if small64 i || small64 j then some (i * j) else none
theorem dop_mulS {W : Wd} : DOp W (rI CMul fun i j => .int (i * j)) (intOp mulS) := dop_int fun i j z h => by
  unfold mulS at h
  split at h
  · rename_i hc
    cases h
    refine ⟨?_, rfl⟩
    unfold small64 at hc
    rw [Bool.or_eq_true, Bool.and_eq_true, Bool.and_eq_true, decide_eq_true_eq, decide_eq_true_eq, decide_eq_true_eq, decide_eq_true_eq] at hc
    exact hc
  · cases h
end
/-! ### x op= e -/
def augS (f : D → D → Option Rv) (i : Nat) (FD : Fd) : Fs := fun ρ => match ρ[i]? with
  | some (.imm d) => (FD ρ).bind fun x => (f d x.1).bind fun r => (putV i r x.2).map fun ρ' => (.nx, ρ')
  | _ => none
section
variable {X : Cx} {k : Nat} {e a b c o : Expr}
theorem pst_aug {op : Operator} {r : R2} {f : D → D → Option Rv} {i : Nat} {x : Str} {F : Fd} {pos' pos : Pos} (q : Cq X k) (hop : OpR X (inplaceOp op) r) (hf : DOp (wd X) r f) (hi : X.N[i]? = some x) (hx : L2.Loc X.env.scope x) (hfn : X.fn x = true ∨ X.env.scope.names.lookup x = some .local) (he : PD X e F) :
    PSt X (.AugAssign (.Name x pos') op e pos) (augS f i F) := ps_imp (ps_aug (ti := r) q.nd hi hx he (fun pins s σ H x y v u Q I rx ry h => hop pins s σ H x y v u Q I rx ry h) hfn) fun D σ H ⟨ρ, loc, Hf, fl, ρ', s, hF, kk⟩ => by
  unfold augS at hF
  split at hF
  · rename_i d hd
    obtain ⟨⟨z, ρ1⟩, q1, hF⟩ := Option.bind_eq_some_iff.mp hF
    obtain ⟨rr, q2, hF⟩ := Option.bind_eq_some_iff.mp hF
    obtain ⟨ρ2, q3, q4⟩ := Option.map_eq_some_iff.mp hF
    cases q4
    obtain ⟨vd, hv, rd⟩ := s.imm i d hd
    refine ⟨vd, hv, ρ, loc, Hf, z, ρ1, s, q1, fun y H1 Hf1 g1 s1 ry => ?_⟩
    refine hf vd y d z rr H1 Hf1 _ s1.sub (Rp.b (rd.mono (g1.fixed s)) s1.sub) (Rp.b ry s1.sub) q2 fun v H2 Hf2 E o => ?_
    obtain ⟨loc2, g2, s2⟩ := put_ok s (g1.trans E.ge) (s1.ext E) (o.back g1.there) q3
    exact kk _ loc2 H2 Hf2 g2 s2
  · cases hF
/-! ### xs[i] = e -/
def lputS (FV : Fd) (FR : Fr) (FK : Fd) : Fs := fun ρ => (FV ρ).bind fun x => (FR x.2).bind fun y => (rfOf y.1).bind fun i => (FK y.2).bind fun z => match z.1 with
  | .int j => (lstAt z.2 i).bind fun xs => (L2.ixN xs.length j).map fun n => (.nx, setC z.2 i (.lst (xs.set n x.1)))
  | _ => none
theorem pst_lput {FV FK : Fd} {FR : Fr} {i value : Expr} {pos pos' : Pos} (q : Cq X k) (ho : PR X o FR) (hi : PD X i FK) (hv : PD X value FV) (hs : swapsWithSole [.Subscript o i pos'] value pos.line X.env = pure false) (hw : swappedStores [.Subscript o i pos'] value X.env = pure none) (ha : ∀ v, assign (.Subscript o i pos') X.env v = (do
      let ov ← holding [v] (eval o X.env)
      let iv ← holding [v, ov] (eval i X.env)
      standAt pos'
      holding [v, ov, iv] (setItem ov iv v)
      release [v, ov, iv] [])) :
    PSt X (.Assign [.Subscript o i pos'] value pos) (lputS FV FR FK) := ps_imp (ps_asg hv (pg_sub ho hi set_list ha) hs hw rfl) fun D σ H ⟨ρ, loc, Hf, fl, ρ', s, hF, kk⟩ => by
  unfold lputS at hF
  obtain ⟨⟨d, ρ1⟩, q1, hF⟩ := Option.bind_eq_some_iff.mp hF
  obtain ⟨⟨x, ρ2⟩, q2, hF⟩ := Option.bind_eq_some_iff.mp hF
  obtain ⟨j, q3, hF⟩ := Option.bind_eq_some_iff.mp hF
  have := rfOf_some q3
  dsimp only at this
  subst this
  obtain ⟨⟨kd, ρ3⟩, q4, hF⟩ := Option.bind_eq_some_iff.mp hF
  dsimp only at hF
  split at hF
  · rename_i jx
    obtain ⟨xs, q5, hF⟩ := Option.bind_eq_some_iff.mp hF
    obtain ⟨n, q6, q7⟩ := Option.map_eq_some_iff.mp hF
    cases q7
    obtain ⟨sl, h3, h4⟩ := lstAt_some q5
    refine ⟨ρ, loc, Hf, d, ρ1, s, q1, fun v H1 Hf1 g1 s1 rv => ⟨ρ1, loc, Hf1, _, ρ2, s1, q2, fun u H2 Hf2 g2 s2 o2 => ⟨ρ2, loc, Hf2, _, ρ3, s2, q4, fun y H3 Hf3 g3 s3 ry => ?_⟩⟩⟩
    obtain rfl : u = .ref (loc j) := o2
    obtain ⟨w1, w2, vs, w3, w4⟩ := s3.own j sl _ h3 h4
    cases ry
    have s4 := chg_own (u := .lst (vs.set n v)) (c' := .lst (xs.set n d)) s3 h3 h4 ⟨_, upd_same, RpL.set (rv.mono fun b o z => g3.fixed s2 b o (g2.fixed s1 b o z)) n w4⟩
    exact ⟨loc j, vs, jx, n, rfl, rfl, w3, by rw [w4.length]; exact q6, kk σ loc _ Hf3 (g1.trans (g2.trans (g3.trans s4.2))).go s4.1⟩
  · cases hF
end
section
variable {Θ : Th} {N : List Str} {sc s0 : Scope} {k : Nat} {X : Cx} {e o i value : Expr} {FR : Fr} {FV FK F : Fd}
theorem s_lput (I : In Θ N sc s0 k X) {pos pos' : Pos} (ho : PR X o FR) (hi : PD X i FK) (hv : PD X value FV) (hs : swapsWithSole [.Subscript o i pos'] value pos.line X.env = pure false) (hw : swappedStores [.Subscript o i pos'] value X.env = pure none) (ha : ∀ v, assign (.Subscript o i pos') X.env v = (do
      let ov ← holding [v] (eval o X.env)
      let iv ← holding [v, ov] (eval i X.env)
      standAt pos'
      holding [v, ov, iv] (setItem ov iv v)
      release [v, ov, iv] [])) :
    PSt X (.Assign [.Subscript o i pos'] value pos) (lputS FV FR FK) := pst_lput I.q ho hi hv hs hw ha
theorem s_augAdd (I : In Θ N sc s0 k X) {i : Nat} {x : Str} {pos' pos : Pos} (h : stB N s0 i x = true) (he : PD X e F) : PSt X (.AugAssign (.Name x pos') .Add e pos) (augS addN i F) := by
  obtain ⟨h1, h2, h3⟩ := I.st2 h
  exact pst_aug I.q iop_addA (dop_addN (W := wd X)) h1 h2 h3 he
theorem s_augSub (I : In Θ N sc s0 k X) {i : Nat} {x : Str} {pos' pos : Pos} (h : stB N s0 i x = true) (he : PD X e F) : PSt X (.AugAssign (.Name x pos') .Sub e pos) (augS (intOp subI) i F) := by
  obtain ⟨h1, h2, h3⟩ := I.st2 h
  exact pst_aug I.q iop_subD (dop_sub (W := wd X)) h1 h2 h3 he
theorem s_augMul (I : In Θ N sc s0 k X) {i : Nat} {x : Str} {pos' pos : Pos} (h : stB N s0 i x = true) (he : PD X e F) : PSt X (.AugAssign (.Name x pos') .Mult e pos) (augS (intOp mulS) i F) := by
  obtain ⟨h1, h2, h3⟩ := I.st2 h
  exact pst_aug I.q iop_mul (dop_mulS (W := wd X)) h1 h2 h3 he
end
section
variable {Θ : Th} {N : List Str} {sc s0 : Scope} {k : Nat} {X : Cx}
theorem sw_cell (I : In Θ N sc s0 k X) {elt : Expr} {gs : List Comprehension} {scope : Scope} {pos py : Pos} {y : Str} {l : Nat} (hk : sc.kind = .function) (hy : sc.names.lookup y = some .cell) : swapsWith (.ListComp elt gs scope pos) (some (.Name y py)) l X.env = pure false := by
  have ky : X.env.kindOf y = some .cell := by unfold PySem.Env.kindOf; rw [I.sc]; exact hy
  have hb : X.env.blockKind = .function := by unfold PySem.Env.blockKind; rw [I.sc, hk]; rfl
  unfold swapsWith
  simp only [hb, ky, Expr.pos]
  rfl
end
/-! for simp -/
section
variable {ρ : Env} {i : Nat} {f : D → D → Option Rv} {FD FV FK : Fd} {FR : Fr}
@[simp ↓] theorem ap_aug {Φ : _ → Prop} : Ok (augS f i FD ρ) Φ ↔ Ok (match ρ[i]? with
    | some (.imm d) => (FD ρ).bind fun x => (f d x.1).bind fun r => (putV i r x.2).map fun ρ' => (Fw.nx, ρ')
    | _ => none) Φ := Iff.rfl
@[simp ↓] theorem ap_lput {Φ : _ → Prop} : Ok (lputS FV FR FK ρ) Φ ↔ Ok (FV ρ) fun x => Ok (FR x.2) fun y => Ok (rfOf y.1) fun i => Ok (FK y.2) fun z => match z.1 with
    | .int j => Ok (lstAt z.2 i) fun xs => Ok (L2.ixN xs.length j) fun n => Φ (.nx, setC z.2 i (.lst (xs.set n x.1)))
    | _ => False := by
  unfold lputS
  rw [Ok_bind]
  refine Ok_ext fun x => ?_
  rw [Ok_bind]
  refine Ok_ext fun y => ?_
  rw [Ok_bind]
  refine Ok_ext fun i => ?_
  rw [Ok_bind]
  refine Ok_ext fun z => ?_
  obtain ⟨d, ρ1⟩ := z
  cases d <;> first | exact Ok_none | (refine Iff.trans Ok_bind (Ok_ext fun xs => ?_); exact Ok_map)
@[simp] theorem addN_int {i j : Int} : addN (.int i) (.int j) = some (.imm (.int (i + j))) := rfl
@[simp ↓] theorem ok_addN_tt {xs ys : List D} {Φ : _ → Prop} : Ok (addN (.tup xs) (.tup ys)) Φ ↔ xs.length + ys.length ≤ sizeLine ∧ Φ (.imm (.tup (xs ++ ys))) := ok_tt
end
end Ev
/-! text M12 -/
set_option Elab.async false
set_option linter.all false
set_option maxRecDepth 100000
set_option maxHeartbeats 4000000
namespace Ev
open PySem L2

/-! ### texts by their signs -/
def sT (l : List Nat) : Str := ⟨l.toArray⟩
@[simp] theorem sT_app (a b : List Nat) : sT a ++ sT b = sT (a ++ b) := by
  show (⟨a.toArray ++ b.toArray⟩ : Str) = ⟨(a ++ b).toArray⟩
  rw [List.append_toArray]
@[simp] theorem sT_len (a : List Nat) : (sT a).length = a.length := rfl
@[simp] theorem sT_cps (a : List Nat) : (sT a).cps.toList = a := rfl
theorem sT_of (x : Str) : x = sT x.cps.toList := rfl
theorem sT_inj {a b : List Nat} (h : sT a = sT b) : a = b := by
  have := congrArg (fun x : Str => x.cps.toList) h
  exact this
@[simp] theorem sT_eq {a b : List Nat} : sT a = sT b ↔ a = b := ⟨sT_inj, fun h => by rw [h]⟩
@[simp] theorem sT_cut (a : List Nat) (lo hi : Option Int) : cutS (sT a) lo hi = sT (cutD a lo hi) := rfl
@[simp] theorem sT_signs (a : List Nat) : signsD (sT a) = a.map fun c => D.str (sT [c]) := rfl
def abc : List Nat := List.range' 97 26
@[simp] theorem abc_eq : (Str.ofString "abcdefghijklmnopqrstuvwxyz") = sT abc := by decide +kernel
@[simp] theorem abc_len : abc.length = 26 := rfl
@[simp] theorem emp_eq : (Str.ofString "") = sT [] := by decide +kernel
theorem strs_map {α : Type} (f : α → Str) : ∀ xs : List α, strsD (xs.map fun x => D.str (f x)) = some (xs.map f)
  | [] => rfl
  | x :: xs => by rw [List.map_cons]; show (strsD _).map _ = _; rw [strs_map f xs]; rfl
@[simp] theorem strs_str (xs : List Str) : strsD (xs.map D.str) = some xs := by
  have := strs_map id xs
  simpa using this
theorem joinL_signs : ∀ xs : List Nat, TL.joinL [] (xs.map fun c => [c]) = xs
  | [] => rfl
  | [x] => rfl
  | x :: y :: r => by
    have ih := joinL_signs (y :: r)
    show [x] ++ ([] ++ TL.joinL [] ((y :: r).map fun c => [c])) = _
    rw [ih]
    rfl
theorem join_signs (xs : List Nat) : Txt.join (sT []) (xs.map fun c => sT [c]) = sT xs := by
  refine TL.ext_tl ?_
  rw [TL.join_eq, TL.tl_join, List.map_map]
  show TL.joinL [] (xs.map fun c => [c]) = xs
  exact joinL_signs xs
theorem sum_ones (xs : List Nat) : ((xs.map fun c => sT [c]).map (·.length)).sum = xs.length := by
  induction xs with
  | nil => rfl
  | cons x xs ih => rw [List.map_cons, List.map_cons, List.sum_cons, ih]; show 1 + xs.length = xs.length + 1; omega
theorem join_ok {xs : List Nat} (h : xs.length ≤ 1000) : joinD (sT []) (xs.map fun c => D.str (sT [c])) = some (.imm (.str (sT xs))) := by
  unfold joinD
  rw [strs_map]
  show (if ((xs.map fun c => sT [c]).map (·.length)).sum + (xs.map fun c => sT [c]).length * (sT []).length ≤ 16777216 then some (Rv.imm (.str (Txt.join (sT []) (xs.map fun c => sT [c])))) else none) = _
  rw [join_signs, sum_ones, if_pos (by simp; omega)]
/-- one to eight small letters -/
def IsName (m : Str) : Prop := ∃ l : List Nat, m = sT l ∧ 1 ≤ l.length ∧ l.length ≤ 8 ∧ ∀ c ∈ l, c ∈ abc
theorem ix_signs {l : List Nat} {z : Nat} (h : z < l.length) (h2 : l.length ≤ 1000) : ixD (.str (sT l)) (.int (z : Nat)) = some (.imm (.str (sT [l[z]]))) := by
  show (if (sT l).length ≤ sizeLine then (atI (sT l).cps.toList (z : Int)).map fun c => Rv.imm (.str ⟨#[c]⟩) else none) = _
  rw [if_pos (by rw [sizeLine_eq]; simp; omega), sT_cps, atI_nat' h]
  rfl
theorem in_signs (c : Nat) (l : List Nat) : inD (.str (sT [c])) (.str (sT l)) = some (decide (c ∈ l)) := rfl
theorem len_signs {l : List Nat} (h2 : l.length ≤ 1000) : lenD [.str (sT l)] = some (.imm (.int (l.length : Nat))) := by
  show (if (sT l).length ≤ sizeLine then some (Rv.imm (.int (sT l).length)) else none) = _
  rw [if_pos (by rw [sizeLine_eq]; simp; omega)]
  rfl
theorem add_signs {a b : List Nat} (h : a.length + b.length ≤ 1000) : addD (.str (sT a)) (.str (sT b)) = some (.imm (.str (sT (a ++ b)))) := by
  show (if (sT a).length + (sT b).length ≤ sizeLine then some (Rv.imm (.str (sT a ++ sT b))) else none) = _
  rw [if_pos (by rw [sizeLine_eq]; simp; omega), sT_app]
theorem sl_signs {l : List Nat} {lo hi : Option Int} (h2 : l.length ≤ 1000) : slD (.str (sT l)) lo hi = some (.imm (.str (sT (cutD l lo hi)))) := by
  show (if (sT l).length ≤ sizeLine then some (Rv.imm (.str (cutS (sT l) lo hi))) else none) = _
  rw [if_pos (by rw [sizeLine_eq]; simp; omega)]
  rfl
/-- the k-th name -/
def nameK (stem : List Nat) (at_ begin step trim k : Nat) : List Nat :=
  stem.take at_ ++ [abc.getD ((begin + step * k) % 26) 0] ++ (if trim = 0 then stem.drop (at_ + 1) else (stem.drop (at_ + 1)).take (k % 3))
def steps12 : List Nat := [1, 3, 5, 7, 9, 11, 15, 17, 19, 21, 23, 25]
theorem abc_get {i : Nat} (h : i < 26) : abc.getD i 0 = 97 + i := by
  unfold abc
  simp [List.getD, h]
theorem abc_mem {c : Nat} : c ∈ abc ↔ 97 ≤ c ∧ c < 123 := by
  unfold abc
  rw [List.mem_range'_1]
theorem name_is {stem : List Nat} {at_ begin step trim k : Nat} (hs : ∀ c ∈ stem, c ∈ abc) (hl : stem.length ≤ 8) (ha : at_ < stem.length) : IsName (sT (nameK stem at_ begin step trim k)) := by
  refine ⟨_, rfl, ?_, ?_, fun c hc => ?_⟩
  · unfold nameK; simp only [List.length_append, List.length_singleton]; omega
  · unfold nameK
    have h1 : (stem.take at_).length = at_ := by rw [List.length_take]; omega
    have h2 : (stem.drop (at_ + 1)).length = stem.length - (at_ + 1) := List.length_drop
    have h3 : ((stem.drop (at_ + 1)).take (k % 3)).length ≤ stem.length - (at_ + 1) := by rw [List.length_take]; omega
    rw [List.length_append, List.length_append, h1, List.length_singleton]
    by_cases ht : trim = 0
    · rw [if_pos ht, h2]; omega
    · rw [if_neg ht]; omega
  · unfold nameK at hc
    rw [List.mem_append, List.mem_append] at hc
    rcases hc with (hc | hc) | hc
    · exact hs c (List.mem_of_mem_take hc)
    · rw [List.mem_singleton] at hc
      subst hc
      have h26 : (begin + step * k) % 26 < 26 := Nat.mod_lt _ (by decide)
      rw [abc_get h26, abc_mem]
      omega
    · by_cases ht : trim = 0
      · rw [if_pos ht] at hc; exact hs c (List.mem_of_mem_drop hc)
      · rw [if_neg ht] at hc; exact hs c (List.mem_of_mem_drop (List.mem_of_mem_take hc))
theorem name_ne {stem : List Nat} {at_ begin step trim j k : Nat} (ha : at_ < stem.length) (hst : step ∈ steps12) (hjk : j < k) (hk : k < 26) : sT (nameK stem at_ begin step trim j) ≠ sT (nameK stem at_ begin step trim k) := fun e => by
  have e := sT_inj e
  have h1 : (stem.take at_).length = at_ := by rw [List.length_take]; omega
  have g : ∀ k, (nameK stem at_ begin step trim k)[at_]? = some (abc.getD ((begin + step * k) % 26) 0) := fun k => by
    unfold nameK
    rw [List.append_assoc, List.getElem?_append_right (by omega), h1]
    simp
  have e2 := (g j).symm.trans ((congrArg (fun l : List Nat => l[at_]?) e).trans (g k))
  have hj26 : (begin + step * j) % 26 < 26 := Nat.mod_lt _ (by decide)
  have hk26 : (begin + step * k) % 26 < 26 := Nat.mod_lt _ (by decide)
  rw [abc_get hj26, abc_get hk26] at e2
  have e3 := Option.some.inj e2
  unfold steps12 at hst
  simp only [List.mem_cons, List.not_mem_nil, or_false] at hst
  rcases hst with h | h | h | h | h | h | h | h | h | h | h | h <;> (subst h; omega)
def namesTo (stem : List Nat) (at_ begin step trim n : Nat) : List Str := (List.range n).map fun k => sT (nameK stem at_ begin step trim k)
theorem names_nodup {stem : List Nat} {at_ begin step trim n : Nat} (ha : at_ < stem.length) (hst : step ∈ steps12) (hn : n ≤ 26) : (namesTo stem at_ begin step trim n).Nodup := by
  unfold namesTo
  rw [List.Nodup, List.pairwise_map]
  refine List.Pairwise.imp_of_mem ?_ (List.pairwise_lt_range (n := n))
  intro a b ha' hb' hab
  exact name_ne ha hst hab (by have := List.mem_range.mp hb'; omega)
end Ev
/-! text M13 -/
set_option Elab.async false
set_option linter.all false
set_option maxRecDepth 100000
set_option maxHeartbeats 4000000
namespace Ev
open PySem L2

/-! ### two lists, item by item -/
inductive All2 {α β : Type} (R : α → β → Prop) : List α → List β → Prop
  | nil : All2 R [] []
  | cons {a : α} {b : β} {as : List α} {bs : List β} : R a b → All2 R as bs → All2 R (a :: as) (b :: bs)
theorem All2.len {α β : Type} {R : α → β → Prop} : ∀ {as : List α} {bs : List β}, All2 R as bs → as.length = bs.length
  | _, _, .nil => rfl
  | _, _, .cons _ t => congrArg (· + 1) t.len
theorem All2.map' {α β γ : Type} {R : α → β → Prop} (f : γ → α) (g : γ → β) (h : ∀ c, R (f c) (g c)) : ∀ cs : List γ, All2 R (cs.map f) (cs.map g)
  | [] => .nil
  | c :: cs => .cons (h c) (All2.map' f g h cs)
theorem All2.mem {α β : Type} {R : α → β → Prop} : ∀ {as : List α} {bs : List β}, All2 R as bs → ∀ a ∈ as, ∃ b ∈ bs, R a b
  | _, _, .nil, a, h => by cases h
  | _, _, .cons r t, a, h => by
    rcases List.mem_cons.mp h with q | q
    · subst q; exact ⟨_, List.mem_cons_self, r⟩
    · obtain ⟨b, hb, hr⟩ := t.mem a q
      exact ⟨b, List.mem_cons_of_mem _ hb, hr⟩
/-- comprehensions of two clauses -/
theorem lc2_rel {t t1 : Tg} {T T1 : Ft} {FI1 : Fi} {FE : Fd} {vs vs1 : List Nat} (P : List D → List D → Env → Prop) (step : ∀ d ds acc ρ, P (d :: ds) acc ρ → Ok (asg t d ρ) fun ρ1 => Ok (T ρ1) fun x => if x.1 = true then Ok (FI1 x.2) fun y => Ok (lcF t1 T1 FE vs1 y.1 (wipeE y.2 vs1)) fun z => P ds (acc ++ z.1) (wipeE z.2 vs) else P ds acc (wipeE x.2 vs)) :
    ∀ (ds acc : List D) (ρ : Env), P ds acc ρ → Ok (lc2F t T FI1 t1 T1 FE vs vs1 ds ρ) fun z => P [] (acc ++ z.1) z.2
  | [], acc, ρ, h => Ok_some.mpr (by rw [List.append_nil]; exact h)
  | d :: ds, acc, ρ, h => by
    unfold lc2F
    refine Ok_bind.mpr ?_
    refine (step d ds acc ρ h).imp fun ρ1 h1 => ?_
    refine Ok_bind.mpr ?_
    refine h1.imp fun x h1 => ?_
    obtain ⟨b, ρ2⟩ := x
    cases b with
    | true =>
      simp only [if_true] at h1 ⊢
      refine Ok_bind.mpr ?_
      refine h1.imp fun y h2 => ?_
      refine Ok_bind.mpr ?_
      refine h2.imp fun z h3 => ?_
      refine Ok_map.mpr ?_
      refine (lc2_rel P step ds _ _ h3).imp fun u h4 => ?_
      rw [List.append_assoc] at h4
      exact h4
    | false =>
      simp only [Bool.false_eq_true, if_false] at h1 ⊢
      exact lc2_rel P step ds acc _ h1
theorem lc_list {FE : Fd} {t : Tg} {vs : List Nat} {ρ : Env} (f : D → D) {w : List D} (h : ∀ p ∈ w, Ok (asg t p ρ) fun ρ1 => Ok (FE ρ1) fun y => y.1 = f p ∧ wipeE y.2 vs = ρ) : Ok (lcF t yesT FE vs w ρ) fun z => z = (w.map f, ρ) := by
  have e : w = w.map id := by simp
  rw [e]
  refine (lc_map (g := id) f (w := w) h).imp ?_
  rintro z rfl
  simp
theorem bools_rep : ∀ n : Nat, boolsOf (List.replicate n (D.bl true)) = some (List.replicate n true)
  | 0 => rfl
  | n + 1 => by rw [List.replicate_succ, boolsOf, bools_rep n]; rfl
theorem all_rep (n : Nat) : allLD [.lst (List.replicate n (D.bl true))] = some (.imm (.bl true)) := by
  show ((boolsOf _).map fun ns => Rv.imm (.bl (ns.all id))) = _
  rw [bools_rep]
  simp
theorem all_map {α : Type} (xs : List α) : allLD [.lst (xs.map fun _ => D.bl true)] = some (.imm (.bl true)) := by
  have : (xs.map fun _ => D.bl true) = List.replicate xs.length (D.bl true) := by
    induction xs with
    | nil => rfl
    | cons x xs ih => rw [List.map_cons, ih]; rfl
  rw [this]
  exact all_rep _
/-- no text twice: as many stay -/
theorem dedup_nodup {xs : List Str} (h : xs.Nodup) : ∀ i, i ≤ xs.length → dedupTo xs i = xs.take i
  | 0, _ => by rw [List.take_zero]; rfl
  | i + 1, hi => by
    have hx : xs[i]? = some xs[i] := List.getElem?_eq_getElem hi
    rw [dedupTo_succ hx, dedup_nodup h i (by omega), List.take_add_one, hx]
    unfold PyProof.Rows.step_dedup
    rw [if_neg]
    · rfl
    · intro z
      obtain ⟨y, hy, e⟩ := List.any_eq_true.mp z
      have e : y = xs[i] := by simpa using e
      obtain ⟨j, hj, e2⟩ := List.mem_take_iff_getElem.mp hy
      have hj' : j < i := by omega
      have := (List.nodup_iff_pairwise_ne.mp h)
      have := List.pairwise_iff_getElem.mp this j i (by omega) (by omega) hj'
      exact this (e2.trans e)
theorem dedup_len {xs : List Str} (h : xs.Nodup) : (dedupTo xs xs.length).length = xs.length := by
  rw [dedup_nodup h _ (Nat.le_refl _), List.take_length]

/-! ### tables as data -/
def pairD (p : Str × Str) : D := .tup [.str p.1, .str p.2]
def lineK (a : Str) (ns : List Str) (ps : List (Str × Str)) : List (D × D) := (ns.zip ps).map fun z => (.tup [.str a, .str z.1], pairD z.2)
def knK (ns : List Str) : List Str → List (List (Str × Str)) → List (D × D)
  | a :: ms, ps :: rows => lineK a ns ps ++ knK ns ms rows
  | _, _ => []
def tabF (nm : List Str) (rows : List (List (Str × Str))) : List (Str × D) := [("own_marks", .tup (nm.map .str)), ("known", .dct true (knK nm nm rows))]
def tabD (nm : List Str) (rows : List (List (Str × Str))) : D := .obj "Table" (tabF nm rows)
theorem isTK2 (a b c d : Str) : isTK (.tup [.str a, .str b]) [.inr c, .inr d] = decide (a = c ∧ b = d) := by
  show decide (some [Sum.inr a, Sum.inr b] = some [Sum.inr c, Sum.inr d]) = _
  simp
theorem lineK_none {a b c : Str} (h : a ≠ b) : ∀ (ns : List Str) (ps : List (Str × Str)), (lineK a ns ps).find? (fun p => isTK p.1 [.inr b, .inr c]) = none
  | [], _ => rfl
  | _ :: _, [] => rfl
  | n :: ns, p :: ps => by
    have ih := lineK_none (c := c) h ns ps
    show List.find? _ ((.tup [.str a, .str n], pairD p) :: lineK a ns ps) = none
    rw [List.find?_cons]
    simp only [isTK2, h, false_and, decide_false]
    exact ih
theorem lineK_find {a : Str} : ∀ (ns : List Str) (ps : List (Str × Str)) (j : Nat) (h1 : j < ns.length) (h2 : j < ps.length), ns.Nodup → ((lineK a ns ps).find? (fun p => isTK p.1 [.inr a, .inr ns[j]])).map (·.2) = some (pairD ps[j])
  | [], _, _, h1, _, _ => absurd h1 (Nat.not_lt_zero _)
  | _ :: _, [], _, _, h2, _ => absurd h2 (Nat.not_lt_zero _)
  | n :: ns, p :: ps, 0, h1, h2, hn => by
    show (List.find? _ ((.tup [.str a, .str n], pairD p) :: lineK a ns ps)).map (·.2) = _
    rw [List.find?_cons]
    simp [isTK2]
  | n :: ns, p :: ps, j + 1, h1, h2, hn => by
    have h1' : j < ns.length := by simpa using h1
    have h2' : j < ps.length := by simpa using h2
    rw [List.nodup_cons] at hn
    have ih := lineK_find (a := a) ns ps j h1' h2' hn.2
    have ne : n ≠ ns[j] := fun e => hn.1 (e ▸ List.getElem_mem h1')
    show (List.find? _ ((.tup [.str a, .str n], pairD p) :: lineK a ns ps)).map (·.2) = _
    rw [List.find?_cons]
    simp only [isTK2, List.getElem_cons_succ, ne, and_false, decide_false]
    exact ih
theorem knK_find {ns : List Str} (hn : ns.Nodup) : ∀ (ms : List Str) (rows : List (List (Str × Str))) (i j : Nat) (h1 : i < ms.length) (h2 : i < rows.length) (h3 : j < ns.length) (h4 : j < (rows[i]).length), ms.Nodup → ((knK ns ms rows).find? (fun p => isTK p.1 [.inr ms[i], .inr ns[j]])).map (·.2) = some (pairD (rows[i])[j])
  | [], _, _, _, h1, _, _, _, _ => absurd h1 (Nat.not_lt_zero _)
  | _ :: _, [], _, _, _, h2, _, _, _ => absurd h2 (Nat.not_lt_zero _)
  | a :: ms, ps :: rows, 0, j, h1, h2, h3, h4, hm => by
    have := lineK_find (a := a) ns ps j h3 h4 hn
    show ((lineK a ns ps ++ knK ns ms rows).find? _).map (·.2) = _
    rw [List.find?_append]
    simp only [List.getElem_cons_zero]
    cases e : (lineK a ns ps).find? (fun p => isTK p.1 [.inr a, .inr ns[j]]) with
    | none => rw [e] at this; cases this
    | some z => rw [e] at this; exact this
  | a :: ms, ps :: rows, i + 1, j, h1, h2, h3, h4, hm => by
    have h1' : i < ms.length := by simpa using h1
    have h2' : i < rows.length := by simpa using h2
    rw [List.nodup_cons] at hm
    have ih := knK_find hn ms rows i j h1' h2' h3 (by simpa using h4) hm.2
    have ne : a ≠ ms[i] := fun e => hm.1 (e ▸ List.getElem_mem h1')
    show ((lineK a ns ps ++ knK ns ms rows).find? _).map (·.2) = _
    simp only [List.getElem_cons_succ]
    rw [List.find?_append, lineK_none ne]
    exact ih
theorem tab_ix {nm : List Str} {rows : List (List (Str × Str))} (hn : nm.Nodup) {i j : Nat} (h1 : i < nm.length) (h2 : i < rows.length) (h3 : j < nm.length) (h4 : j < (rows[i]).length) :
    ixD (.dct true (knK nm nm rows)) (.tup [.str nm[i], .str nm[j]]) = some (.imm (pairD (rows[i])[j])) := by
  show ((some [Sum.inr nm[i], Sum.inr nm[j]]).map fun k => findT (knK nm nm rows) k).bind (fun o => o.map Rv.imm) = _
  show (findT (knK nm nm rows) [Sum.inr nm[i], Sum.inr nm[j]]).map Rv.imm = _
  unfold findT
  rw [knK_find hn nm rows i j h1 h2 h3 h4 hn]
  rfl
/-- anything that gives a pair, a line of pairs, lines -/
def PairL (d : D) (p : Str × Str) : Prop := d = .tup [.str p.1, .str p.2] ∨ d = .lst [.str p.1, .str p.2]
def LineL (d : D) (ps : List (Str × Str)) : Prop := ∃ ds, (d = .lst ds ∨ d = .tup ds) ∧ All2 PairL ds ps
def LinesL (d : D) (rows : List (List (Str × Str))) : Prop := ∃ ds, (d = .lst ds ∨ d = .tup ds) ∧ All2 LineL ds rows
theorem PairL.tup {d : D} {p : Str × Str} (h : PairL d p) : tupleD [d] = some (.imm (pairD p)) := by
  rcases h with rfl | rfl <;> rfl
/-- filling a line -/
theorem putDT2 {kvs : List (D × D)} {a b : Str} {d : D} (hl : kvs.length < 1000) (h : (kvs.any fun p => isTK p.1 [.inr a, .inr b]) = false) : putDT kvs [.str a, .str b] d = some (kvs ++ [(.tup [.str a, .str b], d)]) := by
  unfold putDT
  rw [if_pos (by rw [sizeLine_eq]; omega)]
  show some (putTD kvs [.inr a, .inr b] _ d) = _
  unfold putTD
  rw [if_neg (by rw [h]; decide)]
theorem lineK_any {a b c : Str} {ns : List Str} {ps : List (Str × Str)} (h : a ≠ b ∨ c ∉ ns) : ((lineK a ns ps).any fun p => isTK p.1 [.inr b, .inr c]) = false := by
  unfold lineK
  rw [List.any_map, List.any_eq_false]
  intro z hz
  obtain ⟨n, p⟩ := z
  have hm := (List.of_mem_zip hz).1
  show ¬ isTK (.tup [.str a, .str n]) [.inr b, .inr c] = true
  rw [isTK2]
  rcases h with h | h
  · simp [h]
  · have : n ≠ c := fun e => h (e ▸ hm)
    simp [this]
abbrev tgA : Tg := .tp [.nm 3, .nm 4]
abbrev tgB : Tg := .tp [.nm 5, .nm 6]
abbrev fvT : Fd := fixF (callF tupleD (consA (varR 6) nilA))
abbrev fkT : Fl := consL (varD 3) (consL (varD 5) nilL)
def envT (m p : D) (x3 x4 x5 x6 : Sl) : Env := [.un, .imm m, .imm p, x3, x4, x5, x6]
theorem kIn_ok {m p l : D} {a : Str} : ∀ (ns : List Str) (ds : List D) (ps : List (Str × Str)) (x5 x6 : Sl) (kvs : List (D × D)), isPar (some x5) = false → isPar (some x6) = false → ns.Nodup → All2 PairL ds ps → ns.length = ps.length → kvs.length + ns.length < 1000 → (∀ b ∈ ns, (kvs.any fun p => isTK p.1 [.inr a, .inr b]) = false) →
    ∃ y5 y6, isPar (some y5) = false ∧ isPar (some y6) = false ∧ kIn tgB fvT fkT (zipD (ns.map .str) ds) (envT m p (.imm (.str a)) (.imm l) x5 x6) kvs = some (envT m p (.imm (.str a)) (.imm l) y5 y6, kvs ++ lineK a ns ps)
  | [], _, [], x5, x6, kvs, h5, h6, _, .nil, _, _, _ => ⟨x5, x6, h5, h6, by rw [show lineK a [] [] = [] from rfl, List.append_nil]; rfl⟩
  | [], _, _ :: _, _, _, _, _, _, _, _, hl, _, _ => absurd hl (by simp)
  | _ :: _, _, [], _, _, _, _, _, _, _, hl, _, _ => absurd hl (by simp)
  | n :: ns, _, q :: ps, x5, x6, kvs, h5, h6, hn, .cons (a := d) (as := ds) r t, hl, hz, hf => by
    rw [List.nodup_cons] at hn
    have hput := putDT2 (d := pairD q) (kvs := kvs) (a := a) (b := n) (by simp at hz; omega) (hf n List.mem_cons_self)
    obtain ⟨y5, y6, k5, k6, hk⟩ := kIn_ok (m := m) (p := p) (l := l) (a := a) ns ds ps (.imm (.str n)) (.imm d) (kvs ++ [(.tup [.str a, .str n], pairD q)]) rfl rfl hn.2 t (by simpa using hl) (by simp at hz ⊢; omega) fun b hb => by
      rw [List.any_append, hf b (List.mem_cons_of_mem _ hb), Bool.false_or]
      simp only [List.any_cons, List.any_nil, Bool.or_false, isTK2]
      have : n ≠ b := fun e => hn.1 (e ▸ hb)
      simp [this]
    refine ⟨y5, y6, k5, k6, ?_⟩
    have a1 : asg tgB (.tup [.str n, d]) (envT m p (.imm (.str a)) (.imm l) x5 x6) = some (envT m p (.imm (.str a)) (.imm l) (.imm (.str n)) (.imm d)) := by
      apply ok_eq
      simp [envT, h5, h6]
    have a2 : fvT (envT m p (.imm (.str a)) (.imm l) (.imm (.str n)) (.imm d)) = some (pairD q, envT m p (.imm (.str a)) (.imm l) (.imm (.str n)) (.imm d)) := by
      apply ok_eq
      simp [envT, r.tup]
    have a3 : fkT (envT m p (.imm (.str a)) (.imm l) (.imm (.str n)) (.imm d)) = some ([.str a, .str n], envT m p (.imm (.str a)) (.imm l) (.imm (.str n)) (.imm d)) := by
      apply ok_eq
      simp [envT]
    show kIn tgB fvT fkT (.tup [.str n, d] :: zipD (ns.map .str) ds) _ kvs = _
    unfold kIn
    rw [a1, Option.bind_some, a2, Option.bind_some, a3, Option.bind_some, if_pos (by rw [sizeLine_eq]; show 2 ≤ 16777216; decide), hput, Option.bind_some, hk]
    show some (_, kvs ++ [_] ++ lineK a ns ps) = some (_, kvs ++ ((.tup [.str a, .str n], pairD q) :: lineK a ns ps))
    rw [List.append_assoc]
    rfl
theorem zipI_line {ms : List D} {d : D} {ds : List D} (h : d = .lst ds ∨ d = .tup ds) : zipI [.tup ms, d] = some (zipD ms ds) := by
  rcases h with rfl | rfl <;> rfl
theorem knK_len (ns : List Str) : ∀ (ms : List Str) (rows : List (List (Str × Str))), (∀ r ∈ rows, r.length = ns.length) → ms.length = rows.length → (knK ns ms rows).length = ms.length * ns.length
  | [], _, _, _ => by simp [knK]
  | a :: ms, [], _, h => by simp at h
  | a :: ms, ps :: rows, hr, h => by
    show (lineK a ns ps ++ knK ns ms rows).length = _
    rw [List.length_append, knK_len ns ms rows (fun r q => hr r (List.mem_cons_of_mem _ q)) (by simpa using h)]
    have : (lineK a ns ps).length = ns.length := by
      unfold lineK
      rw [List.length_map, List.length_zip, hr ps List.mem_cons_self, Nat.min_self]
    rw [this, List.length_cons, Nat.succ_mul, Nat.add_comm]
theorem kOut_ok {m p : D} {ns : List Str} (hn : ns.Nodup) : ∀ (ms : List Str) (ds : List D) (rows : List (List (Str × Str))) (x3 x4 x5 x6 : Sl) (kvs : List (D × D)), isPar (some x3) = false → isPar (some x4) = false → isPar (some x5) = false → isPar (some x6) = false → ms.Nodup → All2 LineL ds rows →
    ms.length = rows.length → (∀ r ∈ rows, r.length = ns.length) → kvs.length + ms.length * ns.length < 1000 → (∀ a ∈ ms, ∀ b, (kvs.any fun p => isTK p.1 [.inr a, .inr b]) = false) →
    ∃ y3 y4 y5 y6, (isPar (some y3) = false ∧ isPar (some y4) = false ∧ isPar (some y5) = false ∧ isPar (some y6) = false) ∧ kOut tgA tgB (varD 4) fvT fkT (ns.map .str) (zipD (ms.map .str) ds) (envT m p x3 x4 x5 x6) kvs = some (envT m p y3 y4 y5 y6, kvs ++ knK ns ms rows)
  | [], _, [], x3, x4, x5, x6, kvs, h3, h4, h5, h6, _, .nil, _, _, _, _ => ⟨x3, x4, x5, x6, ⟨h3, h4, h5, h6⟩, by rw [show knK ns [] [] = [] from rfl, List.append_nil]; rfl⟩
  | [], _, _ :: _, _, _, _, _, _, _, _, _, _, _, _, hl, _, _, _ => absurd hl (by simp)
  | _ :: _, _, [], _, _, _, _, _, _, _, _, _, _, _, hl, _, _, _ => absurd hl (by simp)
  | a :: ms, _, ps :: rows, x3, x4, x5, x6, kvs, h3, h4, h5, h6, hm, .cons (a := d) (as := ds) r t, hl, hr, hz, hf => by
    rw [List.nodup_cons] at hm
    have hpl := hr ps List.mem_cons_self
    obtain ⟨es, he, hes⟩ := id r
    rw [List.length_cons, Nat.succ_mul] at hz
    obtain ⟨y5, y6, k5, k6, hk⟩ := kIn_ok (m := m) (p := p) (l := d) (a := a) ns es ps x5 x6 kvs h5 h6 hn hes hpl.symm (by omega) fun b hb => hf a List.mem_cons_self b
    have hll : (lineK a ns ps).length = ns.length := by
      unfold lineK
      rw [List.length_map, List.length_zip, hpl, Nat.min_self]
    obtain ⟨z3, z4, z5, z6, hp, hk2⟩ := kOut_ok (m := m) (p := p) hn ms ds rows (.imm (.str a)) (.imm d) y5 y6 (kvs ++ lineK a ns ps) rfl rfl k5 k6 hm.2 t (by simpa using hl) (fun r q => hr r (List.mem_cons_of_mem _ q)) (by rw [List.length_append, hll]; omega) fun c hc b => by
      rw [List.any_append, hf c (List.mem_cons_of_mem _ hc) b, Bool.false_or]
      exact lineK_any (.inl fun e => hm.1 (e ▸ hc))
    refine ⟨z3, z4, z5, z6, hp, ?_⟩
    have a1 : asg tgA (.tup [.str a, d]) (envT m p x3 x4 x5 x6) = some (envT m p (.imm (.str a)) (.imm d) x5 x6) := by
      apply ok_eq
      simp [envT, h3, h4]
    have a2 : varD 4 (envT m p (.imm (.str a)) (.imm d) x5 x6) = some (d, envT m p (.imm (.str a)) (.imm d) x5 x6) := rfl
    show kOut tgA tgB (varD 4) fvT fkT (ns.map .str) (.tup [.str a, d] :: zipD (ms.map .str) ds) _ kvs = _
    unfold kOut
    rw [a1, Option.bind_some, a2, Option.bind_some]
    dsimp only
    rw [zipI_line he, Option.bind_some, hk, Option.bind_some]
    dsimp only
    rw [hk2, List.append_assoc]
    rfl
end Ev
/-! text M14 -/
set_option Elab.async false
set_option linter.all false
set_option maxRecDepth 100000
set_option maxHeartbeats 4000000
namespace Ev
open PySem L2

/-! ### tables by numbers: names, and pairs of numbers -/
structure Tb where
  nm : List Str
  pr : List (List (Nat × Nat))
abbrev Tb.n (t : Tb) : Nat := t.nm.length
def Tb.f (t : Tb) (i j : Nat) : Nat × Nat := (t.pr.getD i []).getD j (0, 0)
def Tb.ms (t : Tb) (i : Nat) : Str := t.nm.getD i (sT [])
def Tb.md (t : Tb) (i : Nat) : D := .str (t.ms i)
def Tb.rows (t : Tb) : List (List (Str × Str)) := t.pr.map fun r => r.map fun p => (t.ms p.1, t.ms p.2)
def Tb.fs (t : Tb) : List (Str × D) := tabF t.nm t.rows
def Tb.tab (t : Tb) : D := tabD t.nm t.rows
def TbSq (n : Nat) (pr : List (List (Nat × Nat))) : Prop := pr.length = n ∧ ∀ r ∈ pr, r.length = n ∧ ∀ p ∈ r, p.1 < n ∧ p.2 < n
structure TbOk (t : Tb) : Prop where
  one : 1 ≤ t.n
  six : t.n ≤ 6
  nd : t.nm.Nodup
  is : ∀ m ∈ t.nm, IsName m
  sq : TbSq t.n t.pr
theorem TbS_get {t : Tb} {i : Nat} (h : i < t.n) : t.ms i = t.nm[i] := by
  unfold Tb.ms
  rw [List.getD_eq_getElem?_getD, List.getElem?_eq_getElem h]
  rfl
theorem TbS_mem {t : Tb} {i : Nat} (h : i < t.n) : t.ms i ∈ t.nm := by rw [TbS_get h]; exact List.getElem_mem h
theorem TbOk.inj {t : Tb} (o : TbOk t) {i j : Nat} (hi : i < t.n) (hj : j < t.n) : t.ms i = t.ms j ↔ i = j := by
  rw [TbS_get hi, TbS_get hj]
  exact ⟨fun e => (List.getElem_inj o.nd).mp e, fun e => by subst e; rfl⟩
theorem TbOk.inj' {t : Tb} (o : TbOk t) {i j : Nat} (hi : i < t.n) (hj : j < t.n) : t.md i = t.md j ↔ i = j := by
  unfold Tb.md
  rw [D.str.injEq]
  exact o.inj hi hj
theorem TbOk.lt {t : Tb} (o : TbOk t) {i j : Nat} (hi : i < t.n) (hj : j < t.n) : (t.f i j).1 < t.n ∧ (t.f i j).2 < t.n := by
  have h1 : i < t.pr.length := by rw [o.sq.1]; exact hi
  obtain ⟨h2, h3⟩ := o.sq.2 t.pr[i] (List.getElem_mem h1)
  have h4 : j < (t.pr[i]).length := by rw [h2]; exact hj
  unfold Tb.f
  rw [List.getD_eq_getElem?_getD, List.getD_eq_getElem?_getD, List.getElem?_eq_getElem h1, Option.getD_some, List.getElem?_eq_getElem h4, Option.getD_some]
  exact h3 _ (List.getElem_mem h4)
theorem Tb.rows_len {t : Tb} (o : TbOk t) : t.rows.length = t.nm.length := by unfold Tb.rows; rw [List.length_map]; exact o.sq.1
theorem Tb.rows_in {t : Tb} (o : TbOk t) : ∀ r ∈ t.rows, r.length = t.nm.length ∧ ∀ p ∈ r, p.1 ∈ t.nm ∧ p.2 ∈ t.nm := by
  intro r hr
  obtain ⟨q, hq, rfl⟩ := List.mem_map.mp hr
  obtain ⟨h1, h2⟩ := o.sq.2 q hq
  refine ⟨by rw [List.length_map]; exact h1, fun p hp => ?_⟩
  obtain ⟨x, hx, rfl⟩ := List.mem_map.mp hp
  obtain ⟨h3, h4⟩ := h2 x hx
  exact ⟨TbS_mem h3, TbS_mem h4⟩
theorem Tb.ix {t : Tb} (o : TbOk t) {i j : Nat} (hi : i < t.n) (hj : j < t.n) : ixD (.dct true (knK t.nm t.nm t.rows)) (.tup [t.md i, t.md j]) = some (.imm (.tup [t.md (t.f i j).1, t.md (t.f i j).2])) := by
  have h1 : i < t.pr.length := by rw [o.sq.1]; exact hi
  have h1' : i < t.rows.length := by rw [Tb.rows_len o]; exact hi
  obtain ⟨h2, h3⟩ := o.sq.2 t.pr[i] (List.getElem_mem h1)
  have h4 : j < (t.pr[i]).length := by rw [h2]; exact hj
  have e1 : t.rows[i] = (t.pr[i]).map fun p => (t.ms p.1, t.ms p.2) := by
    refine Option.some.inj ((List.getElem?_eq_getElem h1').symm.trans ?_)
    unfold Tb.rows
    rw [List.getElem?_map, List.getElem?_eq_getElem h1]
    rfl
  have h4' : j < (t.rows[i]).length := by rw [e1, List.length_map]; exact h4
  have e2 : (t.rows[i])[j] = (t.ms (t.f i j).1, t.ms (t.f i j).2) := by
    have : (t.rows[i])[j]? = some (t.ms (t.f i j).1, t.ms (t.f i j).2) := by
      rw [e1, List.getElem?_map, List.getElem?_eq_getElem h4]
      unfold Tb.f
      rw [List.getD_eq_getElem?_getD, List.getD_eq_getElem?_getD, List.getElem?_eq_getElem h1, Option.getD_some, List.getElem?_eq_getElem h4, Option.getD_some]
      rfl
    exact Option.some.inj ((List.getElem?_eq_getElem h4').symm.trans this)
  have := tab_ix (rows := t.rows) o.nd hi h1' hj h4'
  rw [e2] at this
  unfold Tb.md
  rw [TbS_get hi, TbS_get hj]
  exact this
/-- .. as lists of lists of pairs, of names -/
theorem Tb.lines (t : Tb) {d : D} (h : d = .lst (t.pr.map fun r => .lst (r.map fun p => .tup [t.md p.1, t.md p.2]))) : LinesL d t.rows := by
  refine ⟨_, .inl h, ?_⟩
  unfold Tb.rows
  refine All2.map' _ _ (fun r => ⟨_, .inl rfl, ?_⟩) t.pr
  exact All2.map' _ _ (fun p => .inl rfl) r

/-! ### passes in a row of numbers -/
def passA (f : Nat → Nat → Nat × Nat) : List Nat → Nat → List Nat
  | a :: b :: r, 0 => (f a b).1 :: (f a b).2 :: r
  | a :: r, p + 1 => a :: passA f r p
  | l, _ => l
theorem passA_s (f : Nat → Nat → Nat × Nat) (a : Nat) (r : List Nat) (p : Nat) : passA f (a :: r) (p + 1) = a :: passA f r p := by
  cases r <;> rfl
theorem passA_len (f : Nat → Nat → Nat × Nat) : ∀ (l : List Nat) (p : Nat), (passA f l p).length = l.length
  | [], _ => rfl
  | [_], 0 => rfl
  | _ :: _ :: _, 0 => rfl
  | a :: r, p + 1 => by rw [passA_s, List.length_cons, passA_len f r p]; rfl
theorem passA_lt {f : Nat → Nat → Nat × Nat} {n : Nat} (hf : ∀ i j, i < n → j < n → (f i j).1 < n ∧ (f i j).2 < n) : ∀ (l : List Nat) (p : Nat), (∀ x ∈ l, x < n) → ∀ x ∈ passA f l p, x < n
  | [], _, h => h
  | [_], 0, h => h
  | a :: b :: r, 0, h => by
    have ha := h a List.mem_cons_self
    have hb := h b (List.mem_cons_of_mem _ List.mem_cons_self)
    intro x hx
    rcases List.mem_cons.mp hx with q | q
    · rw [q]; exact (hf a b ha hb).1
    · rcases List.mem_cons.mp q with q | q
      · rw [q]; exact (hf a b ha hb).2
      · exact h x (List.mem_cons_of_mem _ (List.mem_cons_of_mem _ q))
  | a :: r, p + 1, h => by
    rw [passA_s]
    intro x hx
    rcases List.mem_cons.mp hx with q | q
    · exact h x (by rw [q]; exact List.mem_cons_self)
    · exact passA_lt hf r p (fun x hx => h x (List.mem_cons_of_mem _ hx)) x q
theorem passA_cut (f : Nat → Nat → Nat × Nat) : ∀ (l : List Nat) (p : Nat) (h : p + 1 < l.length), l.take p ++ [(f l[p] l[p + 1]).1, (f l[p] l[p + 1]).2] ++ l.drop (p + 2) = passA f l p
  | [], _, h => absurd h (by simp)
  | [_], 0, h => absurd h (by simp)
  | a :: b :: r, 0, h => rfl
  | a :: r, p + 1, h => by
    have ih := passA_cut f r p (by simpa using h)
    rw [passA_s, ← ih]
    rfl
def goA (f : Nat → Nat → Nat × Nat) (l w : List Nat) : List Nat := w.foldl (passA f) l
theorem goA_len (f : Nat → Nat → Nat × Nat) : ∀ (w l : List Nat), (goA f l w).length = l.length
  | [], _ => rfl
  | p :: w, l => (goA_len f w (passA f l p)).trans (passA_len f l p)
theorem goA_app (f : Nat → Nat → Nat × Nat) (l w v : List Nat) : goA f l (w ++ v) = goA f (goA f l w) v := List.foldl_append
theorem goA_lt {f : Nat → Nat → Nat × Nat} {n : Nat} (hf : ∀ i j, i < n → j < n → (f i j).1 < n ∧ (f i j).2 < n) : ∀ (w l : List Nat), (∀ x ∈ l, x < n) → ∀ x ∈ goA f l w, x < n
  | [], _, h => h
  | p :: w, l, h => goA_lt hf w (passA f l p) (passA_lt hf l p h)
/-- where marks just pass on -/
theorem passA_exch : ∀ (l : List Nat) (p : Nat), passA (fun i j => (j, i)) l p = exch l p
  | [], _ => by cases ‹Nat› <;> rfl
  | [_], 0 => rfl
  | _ :: _ :: _, 0 => rfl
  | a :: r, p + 1 => by rw [passA_s, exch_s, passA_exch r p]
theorem goA_runs : ∀ (w l : List Nat), goA (fun i j => (j, i)) l w = runs l w
  | [], _ => rfl
  | p :: w, l => by
    show goA _ (passA _ l p) w = runs (exch l p) w
    rw [passA_exch, goA_runs w]
/-- only passes of numbers that are there count -/
theorem passA_cong {f g : Nat → Nat → Nat × Nat} {n : Nat} (h : ∀ i j, i < n → j < n → f i j = g i j) : ∀ (l : List Nat) (p : Nat), (∀ x ∈ l, x < n) → passA f l p = passA g l p
  | [], _, _ => by cases ‹Nat› <;> rfl
  | [_], 0, _ => rfl
  | a :: b :: r, 0, hl => by
    show (f a b).1 :: (f a b).2 :: r = (g a b).1 :: (g a b).2 :: r
    rw [h a b (hl a List.mem_cons_self) (hl b (List.mem_cons_of_mem _ List.mem_cons_self))]
  | a :: r, p + 1, hl => by rw [passA_s, passA_s, passA_cong h r p fun x hx => hl x (List.mem_cons_of_mem _ hx)]
theorem goA_cong {f g : Nat → Nat → Nat × Nat} {n : Nat} (hf : ∀ i j, i < n → j < n → (f i j).1 < n ∧ (f i j).2 < n) (h : ∀ i j, i < n → j < n → f i j = g i j) : ∀ (w l : List Nat), (∀ x ∈ l, x < n) → goA f l w = goA g l w
  | [], _, _ => rfl
  | p :: w, l, hl => by
    show goA f (passA f l p) w = goA g (passA g l p) w
    rw [← passA_cong h l p hl]
    exact goA_cong hf h w _ (passA_lt hf l p hl)
end Ev
/-! text M15 -/
set_option Elab.async false
set_option linter.all false
set_option maxRecDepth 100000
set_option maxHeartbeats 4000000
namespace Ev
open PySem L2

/-! ### plain data and its equality -/
mutual
/-- without truths, dicts, objects -/
def cln : D → Bool
  | .non => true
  | .int _ => true
  | .str x => PyData.strOk x
  | .tup xs => clnL xs
  | .lst xs => clnL xs
  | _ => false
def clnL : List D → Bool
  | [] => true
  | x :: xs => cln x && clnL xs
end
mutual
def dep : D → Nat
  | .tup xs => depL xs + 1
  | .lst xs => depL xs + 1
  | _ => 0
def depL : List D → Nat
  | [] => 0
  | x :: xs => max (dep x) (depL xs)
end
mutual
theorem cln_lay : ∀ d : D, cln d = true → PyData.canLay0 (py d) = true
  | .non, _ => by simp [py, PyData.canLay0]
  | .int i, _ => by simp [py, PyData.canLay0]
  | .str x, h => by simpa [py, PyData.canLay0, cln] using h
  | .tup xs, h => by rw [py, PyData.canLay0]; exact clnL_lay xs (by rw [cln] at h; exact h)
  | .lst xs, h => by rw [py, PyData.canLay0]; exact clnL_lay xs (by rw [cln] at h; exact h)
  | .bl _, h => by simp [cln] at h
  | .dct _ _, h => by simp [cln] at h
  | .obj _ _, h => by simp [cln] at h
  | .scr _, h => by simp [cln] at h
theorem clnL_lay : ∀ xs : List D, clnL xs = true → PyData.canLayAll0 (pyL xs) = true
  | [], _ => by simp [pyL, PyData.canLayAll0]
  | x :: xs, h => by
    rw [clnL, Bool.and_eq_true] at h
    rw [pyL, PyData.canLayAll0, cln_lay x h.1, clnL_lay xs h.2]
    rfl
end
mutual
theorem dep_py : ∀ d : D, cln d = true → PyData.depth (py d) ≤ dep d
  | .non, _ => by simp [py, PyData.depth, dep]
  | .int i, _ => by simp [py, PyData.depth, dep]
  | .str x, _ => by simp [py, PyData.depth, dep]
  | .tup xs, h => by rw [py, PyData.depth, dep]; exact Nat.succ_le_succ (depL_py xs (by rw [cln] at h; exact h))
  | .lst xs, h => by rw [py, PyData.depth, dep]; exact Nat.succ_le_succ (depL_py xs (by rw [cln] at h; exact h))
  | .bl _, h => by simp [cln] at h
  | .dct _ _, h => by simp [cln] at h
  | .obj _ _, h => by simp [cln] at h
  | .scr _, h => by simp [cln] at h
theorem depL_py : ∀ xs : List D, clnL xs = true → PyData.depthAll (pyL xs) ≤ depL xs
  | [], _ => by simp [pyL, PyData.depthAll, depL]
  | x :: xs, h => by
    rw [clnL, Bool.and_eq_true] at h
    have h1 := dep_py x h.1
    have h2 := depL_py xs h.2
    rw [pyL, PyData.depthAll, depL]
    omega
end
mutual
theorem cln_eqv : ∀ d e : D, cln d = true → cln e = true → (PyData.eqv (py d) (py e) = true ↔ d = e)
  | .non, e, _, h => by cases e <;> simp [cln] at h <;> simp [py, PyData.eqv]
  | .int i, e, _, h => by cases e <;> simp [cln] at h <;> simp [py, PyData.eqv]
  | .str x, e, _, h => by cases e <;> simp [cln] at h <;> simp [py, PyData.eqv]
  | .tup xs, e, hd, h => by
    rw [cln] at hd
    cases e with
    | tup ys =>
      rw [cln] at h
      rw [py, py, PyData.eqv, D.tup.injEq]
      exact clnL_eqv xs ys hd h
    | non => simp [py, PyData.eqv]
    | int i => simp [py, PyData.eqv]
    | str x => simp [py, PyData.eqv]
    | lst ys => simp [py, PyData.eqv]
    | bl b => simp [cln] at h
    | dct t k => simp [cln] at h
    | obj c f => simp [cln] at h
    | scr n => simp [cln] at h
  | .lst xs, e, hd, h => by
    rw [cln] at hd
    cases e with
    | lst ys =>
      rw [cln] at h
      rw [py, py, PyData.eqv, D.lst.injEq]
      exact clnL_eqv xs ys hd h
    | non => simp [py, PyData.eqv]
    | int i => simp [py, PyData.eqv]
    | str x => simp [py, PyData.eqv]
    | tup ys => simp [py, PyData.eqv]
    | bl b => simp [cln] at h
    | dct t k => simp [cln] at h
    | obj c f => simp [cln] at h
    | scr n => simp [cln] at h
  | .bl _, _, h, _ => by simp [cln] at h
  | .dct _ _, _, h, _ => by simp [cln] at h
  | .obj _ _, _, h, _ => by simp [cln] at h
  | .scr _, _, h, _ => by simp [cln] at h
theorem clnL_eqv : ∀ xs ys : List D, clnL xs = true → clnL ys = true → (PyData.eqvAll (pyL xs) (pyL ys) = true ↔ xs = ys)
  | [], [], _, _ => by simp [pyL, PyData.eqvAll]
  | [], _ :: _, _, _ => by simp [pyL, PyData.eqvAll]
  | _ :: _, [], _, _ => by simp [pyL, PyData.eqvAll]
  | x :: xs, y :: ys, h, k => by
    rw [clnL, Bool.and_eq_true] at h k
    rw [pyL, pyL, PyData.eqvAll, Bool.and_eq_true, cln_eqv x y h.1 k.1, clnL_eqv xs ys h.2 k.2, List.cons.injEq]
end
theorem cln_shaped {d : D} (h : cln d = true) (k : dep d ≤ 64) : SeqAt.shaped (py d) = true := by
  unfold SeqAt.shaped
  rw [cln_lay d h, Bool.true_and, decide_eq_true_eq]
  exact Nat.le_trans (dep_py d h) k
open Classical in
/-- equality of plain data, one of it no single value -/
theorem eq_cln {d e : D} (hd : cln d = true) (he : cln e = true) (kd : dep d ≤ 64) (ke : dep e ≤ 64) (hf : flat d = none ∨ flat e = none) : eqD d e = some (decide (d = e)) := by
  have : eqD d e = if SeqAt.shaped (py d) && SeqAt.shaped (py e) then some (PyData.eqv (py d) (py e)) else none := by
    unfold eqD
    rcases hf with h | h
    · rw [h]
    · rw [h]; cases flat d <;> rfl
  rw [this, cln_shaped hd kd, cln_shaped he ke, Bool.and_self, if_pos rfl]
  congr 1
  have h := cln_eqv d e hd he
  by_cases q : d = e
  · rw [decide_eq_true q]; exact h.mpr q
  · rw [decide_eq_false q]
    cases z : PyData.eqv (py d) (py e) with
    | false => rfl
    | true => exact absurd (h.mp z) q
open Classical in
theorem ne_cln {d e : D} (hd : cln d = true) (he : cln e = true) (kd : dep d ≤ 64) (ke : dep e ≤ 64) (hf : flat d = none ∨ flat e = none) : neD d e = some (!decide (d = e)) := by
  unfold neD
  rw [eq_cln hd he kd ke hf]
  rfl
theorem ne_refl {d : D} (hd : cln d = true) (kd : dep d ≤ 64) (hf : flat d = none) : neD d d = some false := by
  rw [ne_cln hd hd kd kd (.inl hf)]
  simp
theorem eq_refl {d : D} (hd : cln d = true) (kd : dep d ≤ 64) (hf : flat d = none) : eqD d d = some true := by
  rw [eq_cln hd hd kd kd (.inl hf)]
  simp
theorem clnL_map {α : Type} {f : α → D} : ∀ {xs : List α}, (∀ x ∈ xs, cln (f x) = true) → clnL (xs.map f) = true
  | [], _ => by simp [clnL]
  | x :: xs, h => by
    rw [List.map_cons, clnL, h x List.mem_cons_self, clnL_map (xs := xs) fun y hy => h y (List.mem_cons_of_mem _ hy)]
    rfl
theorem depL_map {α : Type} {f : α → D} {n : Nat} : ∀ {xs : List α}, (∀ x ∈ xs, dep (f x) ≤ n) → depL (xs.map f) ≤ n
  | [], _ => by simp [depL]
  | x :: xs, h => by
    have h1 := h x List.mem_cons_self
    have h2 := depL_map (xs := xs) fun y hy => h y (List.mem_cons_of_mem _ hy)
    rw [List.map_cons, depL]
    omega
theorem strOk_name {m : Str} (h : IsName m) : PyData.strOk m = true := by
  obtain ⟨l, rfl, _, _, h⟩ := h
  unfold PyData.strOk
  rw [← Array.all_toList, List.all_eq_true]
  intro x hx
  have := abc_mem.mp (h x hx)
  rw [decide_eq_true_eq]
  omega
theorem TbOk.cln {t : Tb} (o : TbOk t) (i : Nat) : Ev.cln (t.md i) = true := by
  show PyData.strOk (t.ms i) = true
  by_cases h : i < t.n
  · exact strOk_name (o.is _ (TbS_mem h))
  · unfold Tb.ms
    rw [List.getD_eq_getElem?_getD, List.getElem?_eq_none (Nat.le_of_not_lt h)]
    decide +kernel
theorem Tb.dep (t : Tb) (i : Nat) : Ev.dep (t.md i) = 0 := rfl
theorem TbOk.clnL {t : Tb} (o : TbOk t) (l : List Nat) : Ev.clnL (l.map t.md) = true := clnL_map fun i _ => o.cln i
theorem Tb.depL (t : Tb) (l : List Nat) : Ev.depL (l.map t.md) ≤ 0 := depL_map fun i _ => Nat.le_of_eq (t.dep i)
theorem TbOk.ne_same {t : Tb} (o : TbOk t) (l : List Nat) : neD (.tup (l.map t.md)) (.tup (l.map t.md)) = some false :=
  ne_refl (by rw [Ev.cln]; exact o.clnL l) (by rw [Ev.dep]; have := t.depL l; omega) rfl
theorem TbOk.ne_sameL {t : Tb} (o : TbOk t) (l : List Nat) : neD (.lst (l.map t.md)) (.lst (l.map t.md)) = some false :=
  ne_refl (by rw [Ev.cln]; exact o.clnL l) (by rw [Ev.dep]; have := t.depL l; omega) rfl
end Ev
/-! text M16 -/
set_option Elab.async false
set_option linter.all false
set_option maxRecDepth 100000
set_option maxHeartbeats 4000000
namespace Ev
open PySem L2

/-! ### tables told by functions of two numbers -/
def pD (p : Nat × Nat) : D := .tup [.int (p.1 : Nat), .int (p.2 : Nat)]
def rD (r : List (Nat × Nat)) : D := .lst (r.map pD)
def prL (pr : List (List (Nat × Nat))) : List D := pr.map rD
def tabL (n : Nat) (f : Nat → Nat → Nat × Nat) : List (List (Nat × Nat)) := (List.range n).map fun i => (List.range n).map fun j => f i j
def Bd (n : Nat) (f : Nat → Nat → Nat × Nat) : Prop := ∀ i j, i < n → j < n → (f i j).1 < n ∧ (f i j).2 < n
theorem tabL_len (n : Nat) (f : Nat → Nat → Nat × Nat) : (tabL n f).length = n := by unfold tabL; simp
theorem tabL_sq {n : Nat} {f : Nat → Nat → Nat × Nat} (h : Bd n f) : TbSq n (tabL n f) := by
  refine ⟨tabL_len n f, fun r hr => ?_⟩
  obtain ⟨i, hi, rfl⟩ := List.mem_map.mp hr
  refine ⟨by simp, fun p hp => ?_⟩
  obtain ⟨j, hj, rfl⟩ := List.mem_map.mp hp
  exact h i j (List.mem_range.mp hi) (List.mem_range.mp hj)
theorem tabL_get {n : Nat} {f : Nat → Nat → Nat × Nat} {i : Nat} (h : i < n) : (tabL n f)[i]? = some ((List.range n).map (f i)) := by
  unfold tabL
  rw [List.getElem?_map, List.getElem?_range h]
  rfl
theorem tabL_f {n : Nat} {f : Nat → Nat → Nat × Nat} {nm : List Str} {i j : Nat} (hi : i < n) (hj : j < n) : (Tb.mk nm (tabL n f)).f i j = f i j := by
  unfold Tb.f
  dsimp only
  rw [List.getD_eq_getElem?_getD, List.getD_eq_getElem?_getD, tabL_get hi, Option.getD_some, List.getElem?_map, List.getElem?_range hj]
  rfl
theorem sq_tabL {n : Nat} {pr : List (List (Nat × Nat))} (h : TbSq n pr) : pr = tabL n fun i j => (pr.getD i []).getD j (0, 0) := by
  apply List.ext_getElem?
  intro i
  by_cases hi : i < n
  · have h1 : i < pr.length := by rw [h.1]; exact hi
    rw [tabL_get hi, List.getElem?_eq_getElem h1]
    congr 1
    obtain ⟨h2, _⟩ := h.2 pr[i] (List.getElem_mem h1)
    apply List.ext_getElem?
    intro j
    by_cases hj : j < n
    · rw [List.getElem?_map, List.getElem?_range hj]
      have h3 : j < (pr[i]).length := by rw [h2]; exact hj
      rw [List.getElem?_eq_getElem h3]
      show some _ = some (((pr.getD i []).getD j (0, 0)))
      rw [List.getD_eq_getElem?_getD, List.getD_eq_getElem?_getD, List.getElem?_eq_getElem h1, Option.getD_some, List.getElem?_eq_getElem h3]
      rfl
    · rw [List.getElem?_eq_none (by omega), List.getElem?_eq_none (by simp; omega)]
  · rw [List.getElem?_eq_none (by rw [h.1]; omega), List.getElem?_eq_none (by rw [tabL_len]; omega)]
theorem at_pr {n : Nat} {f : Nat → Nat → Nat × Nat} {i : Nat} (h : i < n) : atI (prL (tabL n f)) (i : Int) = some (rD ((List.range n).map (f i))) := by
  unfold prL
  rw [atI_map, show atI (tabL n f) (i : Int) = (tabL n f)[i]? by
    rw [atI_nat' (by rw [tabL_len]; exact h)]
    rw [List.getElem?_eq_getElem], tabL_get h]
  rfl
theorem at_r {n : Nat} {f : Nat → Nat × Nat} {j : Nat} (h : j < n) : atI (((List.range n).map f).map pD) (j : Int) = some (pD (f j)) := by
  rw [map_at (by simpa using h)]
  simp
theorem prL_len (n : Nat) (f : Nat → Nat → Nat × Nat) : (prL (tabL n f)).length = n := by unfold prL; rw [List.length_map, tabL_len]

/-! ### THREE, sided, twice -/
def Three (n : Nat) (f : Nat → Nat → Nat × Nat) : Prop := ∀ a b c, a < n → b < n → c < n → goA f [a, b, c] [0, 1, 0] = goA f [a, b, c] [1, 0, 1]
structure Sided (n : Nat) (f : Nat → Nat → Nat × Nat) : Prop where
  fst : ∀ h x y, h < n → x < n → y < n → (f h x).1 = (f h y).1 → x = y
  snd : ∀ h x y, h < n → x < n → y < n → (f x h).2 = (f y h).2 → x = y
def Twice (n : Nat) (f : Nat → Nat → Nat × Nat) : Prop := ∀ a b, a < n → b < n → f (f a b).1 (f a b).2 = (a, b)
theorem go3 (f : Nat → Nat → Nat × Nat) (a b c : Nat) : goA f [a, b, c] [0, 1, 0] =
    let p := f a b; let q := f p.2 c; let r := f p.1 q.1; [r.1, r.2, q.2] := rfl
theorem go3' (f : Nat → Nat → Nat × Nat) (a b c : Nat) : goA f [a, b, c] [1, 0, 1] =
    let p := f b c; let q := f a p.1; let r := f q.2 p.2; [q.1, r.1, r.2] := rfl
/-- a map of numbers that keeps passes -/
theorem passA_hom {f g : Nat → Nat → Nat × Nat} {n : Nat} {h : Nat → Nat} (hh : ∀ x y, x < n → y < n → g (h x) (h y) = (h (f x y).1, h (f x y).2)) : ∀ (l : List Nat) (p : Nat), (∀ x ∈ l, x < n) → passA g (l.map h) p = (passA f l p).map h
  | [], p, _ => by cases p <;> rfl
  | [_], 0, _ => rfl
  | a :: b :: r, 0, hl => by
    show (g (h a) (h b)).1 :: (g (h a) (h b)).2 :: r.map h = _
    rw [hh a b (hl a List.mem_cons_self) (hl b (List.mem_cons_of_mem _ List.mem_cons_self))]
    rfl
  | a :: r, p + 1, hl => by
    rw [List.map_cons, passA_s, passA_s, passA_hom hh r p fun x hx => hl x (List.mem_cons_of_mem _ hx)]
    rfl
theorem goA_hom {f g : Nat → Nat → Nat × Nat} {n : Nat} {h : Nat → Nat} (hf : Bd n f) (hh : ∀ x y, x < n → y < n → g (h x) (h y) = (h (f x y).1, h (f x y).2)) : ∀ (w l : List Nat), (∀ x ∈ l, x < n) → goA g (l.map h) w = (goA f l w).map h
  | [], _, _ => rfl
  | p :: w, l, hl => by
    show goA g (passA g (l.map h) p) w = (goA f (passA f l p) w).map h
    rw [passA_hom hh l p hl]
    exact goA_hom hf hh w _ (passA_lt hf l p hl)
theorem three_cong {n : Nat} {f g : Nat → Nat → Nat × Nat} (hb : Bd n f) (h : ∀ i j, i < n → j < n → f i j = g i j) (t : Three n f) : Three n g := fun a b c ha hb' hc => by
  have hl : ∀ x ∈ [a, b, c], x < n := fun x hx => by simp at hx; rcases hx with rfl | rfl | rfl <;> assumption
  rw [← goA_cong hb h [0, 1, 0] [a, b, c] hl, ← goA_cong hb h [1, 0, 1] [a, b, c] hl]
  exact t a b c ha hb' hc
theorem sided_cong {n : Nat} {f g : Nat → Nat → Nat × Nat} (h : ∀ i j, i < n → j < n → f i j = g i j) (t : Sided n f) : Sided n g :=
  ⟨fun k x y hk hx hy e => t.fst k x y hk hx hy (by rw [h k x hk hx, h k y hk hy]; exact e), fun k x y hk hx hy e => t.snd k x y hk hx hy (by rw [h x k hx hk, h y k hy hk]; exact e)⟩
theorem twice_cong {n : Nat} {f g : Nat → Nat → Nat × Nat} (hb : Bd n f) (h : ∀ i j, i < n → j < n → f i j = g i j) (t : Twice n f) : Twice n g := fun a b ha hb' => by
  obtain ⟨h1, h2⟩ := hb a b ha hb'
  rw [← h a b ha hb', ← h _ _ h1 h2]
  exact t a b ha hb'
/-! passes that exchange -/
theorem swap_bd (n : Nat) : Bd n fun i j => (j, i) := fun i j hi hj => ⟨hj, hi⟩
theorem swap_three (n : Nat) : Three n fun i j => (j, i) := fun a b c _ _ _ => rfl
theorem swap_sided (n : Nat) : Sided n fun i j => (j, i) := ⟨fun _ _ _ _ _ _ e => e, fun _ _ _ _ _ _ e => e⟩
theorem swap_twice (n : Nat) : Twice n fun i j => (j, i) := fun a b _ _ => rfl
/-! by two maps -/
theorem two_bd {n : Nat} {p q : Nat → Nat} (hp : ∀ x, x < n → p x < n) (hq : ∀ x, x < n → q x < n) : Bd n fun i j => (p j, q i) := fun i j hi hj => ⟨hp j hj, hq i hi⟩
theorem two_three {n : Nat} {p q : Nat → Nat} (h : ∀ x, x < n → p (q x) = q (p x)) : Three n fun i j => (p j, q i) := fun a b c _ hb _ => by
  rw [go3, go3']
  show [p (p c), q (p b), q (q a)] = [p (p c), p (q b), q (q a)]
  rw [h b hb]
theorem two_sided {n : Nat} {p q : Nat → Nat} (hp : ∀ x y, x < n → y < n → p x = p y → x = y) (hq : ∀ x y, x < n → y < n → q x = q y → x = y) : Sided n fun i j => (p j, q i) :=
  ⟨fun _ x y _ hx hy e => hp x y hx hy e, fun _ x y _ hx hy e => hq x y hx hy e⟩
theorem two_twice {n : Nat} {p q : Nat → Nat} (h : ∀ x, x < n → p (q x) = x) (h' : ∀ x, x < n → q (p x) = x) : Twice n fun i j => (p j, q i) := fun a b ha hb => by
  show (p (q a), q (p b)) = (a, b)
  rw [h a ha, h' b hb]
/-! the lesser first -/
theorem mm_bd (n : Nat) : Bd n fun i j => (min i j, max i j) := fun i j hi hj => ⟨by show min i j < n; omega, by show max i j < n; omega⟩
theorem mm_three (n : Nat) : Three n fun i j => (min i j, max i j) := fun a b c _ _ _ => by
  rw [go3, go3']
  simp only [List.cons.injEq, and_true]
  omega
theorem goal_bd {n g : Nat} (h : g < n) : Bd n fun _ _ => (g, g) := fun _ _ _ _ => ⟨h, h⟩
theorem goal_three (n g : Nat) : Three n fun _ _ => (g, g) := fun _ _ _ _ _ _ => rfl
/-! 2 y - x -/
def dih (n x y : Nat) : Nat := ((2 * (y : Int) - (x : Int)) % (n : Int)).toNat
theorem dih_lt {n x y : Nat} (h : 0 < n) : dih n x y < n := by
  unfold dih
  have h1 := Int.emod_nonneg (2 * (y : Int) - (x : Int)) (show (n : Int) ≠ 0 by omega)
  have h2 := Int.emod_lt_of_pos (2 * (y : Int) - (x : Int)) (show (0 : Int) < n by omega)
  omega
theorem dih_bd {n : Nat} (h : 0 < n) : Bd n fun x y => (y, dih n x y) := fun x y hx hy => ⟨hy, dih_lt h⟩
theorem dih_three {n : Nat} (h : 0 < n) (h6 : n ≤ 6) : Three n fun x y => (y, dih n x y) := fun a b c ha hb hc => by
  rw [go3, go3']
  show [c, dih n b c, dih n (dih n a b) c] = [c, dih n b c, dih n (dih n a c) (dih n b c)]
  have : dih n (dih n a b) c = dih n (dih n a c) (dih n b c) := by
    unfold dih
    have : n = 1 ∨ n = 2 ∨ n = 3 ∨ n = 4 ∨ n = 5 ∨ n = 6 := by omega
    rcases this with rfl | rfl | rfl | rfl | rfl | rfl <;> omega
  rw [this]
theorem dih_sided {n : Nat} (h : 0 < n) (h6 : n ≤ 6) : Sided n fun x y => (y, dih n x y) :=
  ⟨fun _ x y _ _ _ e => e, fun k x y hk hx hy e => by
    have e : dih n x k = dih n y k := e
    unfold dih at e
    have : n = 1 ∨ n = 2 ∨ n = 3 ∨ n = 4 ∨ n = 5 ∨ n = 6 := by omega
    rcases this with rfl | rfl | rfl | rfl | rfl | rfl <;> omega⟩
/-! two tables beside one another -/
def sbs (m : Nat) (f g : Nat → Nat → Nat × Nat) (x y : Nat) : Nat × Nat :=
  ((f (x / m) (y / m)).1 * m + (g (x % m) (y % m)).1, (f (x / m) (y / m)).2 * m + (g (x % m) (y % m)).2)
theorem dm_div {m u v : Nat} (h : v < m) : (u * m + v) / m = u := by
  rw [Nat.mul_comm, Nat.mul_add_div (by omega), Nat.div_eq_of_lt h, Nat.add_zero]
theorem dm_mod {m u v : Nat} (h : v < m) : (u * m + v) % m = v := by
  rw [Nat.mul_comm, Nat.mul_add_mod, Nat.mod_eq_of_lt h]
theorem div_lt' {x n m : Nat} (h : x < n * m) : x / m < n := Nat.div_lt_of_lt_mul (by rw [Nat.mul_comm]; exact h)
theorem sbs_bd {n m : Nat} {f g : Nat → Nat → Nat × Nat} (hm : 0 < m) (hf : Bd n f) (hg : Bd m g) : Bd (n * m) (sbs m f g) := fun x y hx hy => by
  obtain ⟨h1, h2⟩ := hf _ _ (div_lt' hx) (div_lt' hy)
  obtain ⟨h3, h4⟩ := hg _ _ (Nat.mod_lt x hm) (Nat.mod_lt y hm)
  have k : ∀ u v, u < n → v < m → u * m + v < n * m := fun u v hu hv => by
    have : (u + 1) * m ≤ n * m := Nat.mul_le_mul_right m hu
    rw [Nat.succ_mul] at this
    omega
  exact ⟨k _ _ h1 h3, k _ _ h2 h4⟩
theorem sbs_div {n m : Nat} {f g : Nat → Nat → Nat × Nat} (hm : 0 < m) (hg : Bd m g) {x y : Nat} : f (x / m) (y / m) = ((sbs m f g x y).1 / m, (sbs m f g x y).2 / m) := by
  obtain ⟨h3, h4⟩ := hg _ _ (Nat.mod_lt x hm) (Nat.mod_lt y hm)
  unfold sbs
  dsimp only
  rw [dm_div h3, dm_div h4]
theorem sbs_mod {n m : Nat} {f g : Nat → Nat → Nat × Nat} (hm : 0 < m) (hg : Bd m g) {x y : Nat} : g (x % m) (y % m) = ((sbs m f g x y).1 % m, (sbs m f g x y).2 % m) := by
  obtain ⟨h3, h4⟩ := hg _ _ (Nat.mod_lt x hm) (Nat.mod_lt y hm)
  unfold sbs
  dsimp only
  rw [dm_mod h3, dm_mod h4]
theorem dm_inj {m x y : Nat} (h1 : x / m = y / m) (h2 : x % m = y % m) : x = y := by
  rw [← Nat.div_add_mod x m, ← Nat.div_add_mod y m, h1, h2]
theorem map_dm_inj {m : Nat} : ∀ {l k : List Nat}, l.map (· / m) = k.map (· / m) → l.map (· % m) = k.map (· % m) → l = k
  | [], [], _, _ => rfl
  | [], _ :: _, h, _ => by simp at h
  | _ :: _, [], h, _ => by simp at h
  | x :: l, y :: k, h1, h2 => by
    rw [List.map_cons, List.map_cons, List.cons.injEq] at h1 h2
    rw [dm_inj h1.1 h2.1, map_dm_inj h1.2 h2.2]
theorem sbs_three {n m : Nat} {f g : Nat → Nat → Nat × Nat} (hm : 0 < m) (hf : Bd n f) (hg : Bd m g) (tf : Three n f) (tg : Three m g) : Three (n * m) (sbs m f g) := fun a b c ha hb hc => by
  have bd := sbs_bd hm hf hg
  have hl : ∀ x ∈ [a, b, c], x < n * m := fun x hx => by simp at hx; rcases hx with rfl | rfl | rfl <;> assumption
  refine map_dm_inj (m := m) ?_ ?_
  · rw [← goA_hom (g := f) bd (fun x y _ _ => sbs_div (n := n) hm hg) [0, 1, 0] _ hl, ← goA_hom (g := f) bd (fun x y _ _ => sbs_div (n := n) hm hg) [1, 0, 1] _ hl]
    exact tf _ _ _ (div_lt' ha) (div_lt' hb) (div_lt' hc)
  · rw [← goA_hom (g := g) bd (fun x y _ _ => sbs_mod (n := n) hm hg) [0, 1, 0] _ hl, ← goA_hom (g := g) bd (fun x y _ _ => sbs_mod (n := n) hm hg) [1, 0, 1] _ hl]
    exact tg _ _ _ (Nat.mod_lt _ hm) (Nat.mod_lt _ hm) (Nat.mod_lt _ hm)
theorem sbs_sided {n m : Nat} {f g : Nat → Nat → Nat × Nat} (hm : 0 < m) (hg : Bd m g) (tf : Sided n f) (tg : Sided m g) : Sided (n * m) (sbs m f g) := by
  have d : ∀ x y, f (x / m) (y / m) = ((sbs m f g x y).1 / m, (sbs m f g x y).2 / m) := fun x y => sbs_div (n := n) hm hg
  have r : ∀ x y, g (x % m) (y % m) = ((sbs m f g x y).1 % m, (sbs m f g x y).2 % m) := fun x y => sbs_mod (n := n) hm hg
  refine ⟨fun k x y hk hx hy e => dm_inj (m := m) (tf.fst (k / m) _ _ (div_lt' hk) (div_lt' hx) (div_lt' hy) ?_) (tg.fst (k % m) _ _ (Nat.mod_lt _ hm) (Nat.mod_lt _ hm) (Nat.mod_lt _ hm) ?_),
    fun k x y hk hx hy e => dm_inj (m := m) (tf.snd (k / m) _ _ (div_lt' hk) (div_lt' hx) (div_lt' hy) ?_) (tg.snd (k % m) _ _ (Nat.mod_lt _ hm) (Nat.mod_lt _ hm) (Nat.mod_lt _ hm) ?_)⟩
  · rw [d, d, e]
  · rw [r, r, e]
  · rw [d, d, e]
  · rw [r, r, e]
theorem sbs_twice {n m : Nat} {f g : Nat → Nat → Nat × Nat} (hm : 0 < m) (hg : Bd m g) (tf : Twice n f) (tg : Twice m g) : Twice (n * m) (sbs m f g) := fun a b ha hb => by
  have d : ∀ x y, f (x / m) (y / m) = ((sbs m f g x y).1 / m, (sbs m f g x y).2 / m) := fun x y => sbs_div (n := n) hm hg
  have r : ∀ x y, g (x % m) (y % m) = ((sbs m f g x y).1 % m, (sbs m f g x y).2 % m) := fun x y => sbs_mod (n := n) hm hg
  have e1 := tf _ _ (div_lt' ha) (div_lt' hb)
  have e2 := tg _ _ (Nat.mod_lt a hm) (Nat.mod_lt b hm)
  rw [d a b] at e1
  rw [r a b] at e2
  dsimp only at e1 e2
  rw [d] at e1
  rw [r] at e2
  obtain ⟨h1, h2⟩ := Prod.mk.inj e1
  obtain ⟨h3, h4⟩ := Prod.mk.inj e2
  exact Prod.ext (dm_inj h1 h3) (dm_inj h2 h4)
/-! read from behind -/
def bhd (f : Nat → Nat → Nat × Nat) (x y : Nat) : Nat × Nat := ((f y x).2, (f y x).1)
theorem bhd_bd {n : Nat} {f : Nat → Nat → Nat × Nat} (h : Bd n f) : Bd n (bhd f) := fun x y hx hy => ⟨(h y x hy hx).2, (h y x hy hx).1⟩
theorem bhd_three {n : Nat} {f : Nat → Nat → Nat × Nat} (t : Three n f) : Three n (bhd f) := fun a b c ha hb hc => by
  have := t c b a hc hb ha
  rw [go3, go3'] at this
  rw [go3, go3']
  simp only [List.cons.injEq, and_true] at this
  simp only [bhd, List.cons.injEq, and_true]
  exact ⟨this.2.2.symm, this.2.1.symm, this.1.symm⟩
theorem bhd_sided {n : Nat} {f : Nat → Nat → Nat × Nat} (t : Sided n f) : Sided n (bhd f) := ⟨fun k x y hk hx hy e => t.snd k x y hk hx hy e, fun k x y hk hx hy e => t.fst k x y hk hx hy e⟩
theorem bhd_twice {n : Nat} {f : Nat → Nat → Nat × Nat} (t : Twice n f) : Twice n (bhd f) := fun a b ha hb => by
  have := t b a hb ha
  unfold bhd
  dsimp only
  rw [this]
/-! called otherwise: by m and what undoes it -/
def cal (m k : Nat → Nat) (f : Nat → Nat → Nat × Nat) (x y : Nat) : Nat × Nat := (m (f (k x) (k y)).1, m (f (k x) (k y)).2)
structure Perm2 (n : Nat) (m k : Nat → Nat) : Prop where
  ml : ∀ x, x < n → m x < n
  kl : ∀ x, x < n → k x < n
  mk' : ∀ x, x < n → m (k x) = x
  km : ∀ x, x < n → k (m x) = x
theorem cal_bd {n : Nat} {m k : Nat → Nat} {f : Nat → Nat → Nat × Nat} (p : Perm2 n m k) (h : Bd n f) : Bd n (cal m k f) := fun x y hx hy => by
  obtain ⟨h1, h2⟩ := h _ _ (p.kl x hx) (p.kl y hy)
  exact ⟨p.ml _ h1, p.ml _ h2⟩
theorem cal_hom {n : Nat} {m k : Nat → Nat} {f : Nat → Nat → Nat × Nat} (p : Perm2 n m k) {x y : Nat} (hx : x < n) (hy : y < n) : cal m k f (m x) (m y) = (m (f x y).1, m (f x y).2) := by
  unfold cal
  rw [p.km x hx, p.km y hy]
theorem cal_three {n : Nat} {m k : Nat → Nat} {f : Nat → Nat → Nat × Nat} (p : Perm2 n m k) (h : Bd n f) (t : Three n f) : Three n (cal m k f) := fun a b c ha hb hc => by
  have e : [a, b, c] = [k a, k b, k c].map m := by simp [p.mk' a ha, p.mk' b hb, p.mk' c hc]
  have hl : ∀ x ∈ [k a, k b, k c], x < n := fun x hx => by
    simp at hx
    rcases hx with rfl | rfl | rfl
    · exact p.kl a ha
    · exact p.kl b hb
    · exact p.kl c hc
  rw [e, goA_hom h (fun x y hx hy => cal_hom p hx hy) [0, 1, 0] _ hl, goA_hom h (fun x y hx hy => cal_hom p hx hy) [1, 0, 1] _ hl, t _ _ _ (p.kl a ha) (p.kl b hb) (p.kl c hc)]
theorem Perm2.injM {n : Nat} {m k : Nat → Nat} (p : Perm2 n m k) {x y : Nat} (hx : x < n) (hy : y < n) (e : m x = m y) : x = y := by rw [← p.km x hx, ← p.km y hy, e]
theorem Perm2.injK {n : Nat} {m k : Nat → Nat} (p : Perm2 n m k) {x y : Nat} (hx : x < n) (hy : y < n) (e : k x = k y) : x = y := by rw [← p.mk' x hx, ← p.mk' y hy, e]
theorem cal_sided {n : Nat} {m k : Nat → Nat} {f : Nat → Nat → Nat × Nat} (p : Perm2 n m k) (h : Bd n f) (t : Sided n f) : Sided n (cal m k f) :=
  ⟨fun c x y hc hx hy e => p.injK hx hy (t.fst (k c) _ _ (p.kl c hc) (p.kl x hx) (p.kl y hy) (p.injM (h _ _ (p.kl c hc) (p.kl x hx)).1 (h _ _ (p.kl c hc) (p.kl y hy)).1 e)),
   fun c x y hc hx hy e => p.injK hx hy (t.snd (k c) _ _ (p.kl c hc) (p.kl x hx) (p.kl y hy) (p.injM (h _ _ (p.kl x hx) (p.kl c hc)).2 (h _ _ (p.kl y hy) (p.kl c hc)).2 e))⟩
theorem cal_twice {n : Nat} {m k : Nat → Nat} {f : Nat → Nat → Nat × Nat} (p : Perm2 n m k) (h : Bd n f) (t : Twice n f) : Twice n (cal m k f) := fun a b ha hb => by
  obtain ⟨h1, h2⟩ := h _ _ (p.kl a ha) (p.kl b hb)
  unfold cal
  dsimp only
  rw [p.km _ h1, p.km _ h2, t _ _ (p.kl a ha) (p.kl b hb)]
  dsimp only
  rw [p.mk' a ha, p.mk' b hb]
/-! lots of numbers that turn round -/
structure Lots (n k : Nat) (lot spot start size : Nat → Nat) : Prop where
  a1 : ∀ x, x < n → lot x < k ∧ spot x < size (lot x) ∧ start (lot x) + spot x = x
  a2 : ∀ l s, l < k → s < size l → start l + s < n ∧ lot (start l + s) = l ∧ spot (start l + s) = s
/-- x's spot, t on -/
def rot (lot spot start size : Nat → Nat) (t : Int) (x : Nat) : Nat := start (lot x) + (((spot x : Int) + t) % (size (lot x) : Int)).toNat
section
variable {n k : Nat} {lot spot start size : Nat → Nat}
theorem Lots.mod (L : Lots n k lot spot start size) {x : Nat} (hx : x < n) (t : Int) : ((((spot x : Int) + t) % (size (lot x) : Int)).toNat : Int) = ((spot x : Int) + t) % (size (lot x) : Int) ∧ (((spot x : Int) + t) % (size (lot x) : Int)).toNat < size (lot x) := by
  obtain ⟨_, h2, _⟩ := L.a1 x hx
  have h3 := Int.emod_nonneg ((spot x : Int) + t) (show (size (lot x) : Int) ≠ 0 by omega)
  have h4 := Int.emod_lt_of_pos ((spot x : Int) + t) (show (0 : Int) < size (lot x) by omega)
  omega
theorem Lots.lt (L : Lots n k lot spot start size) {x : Nat} (hx : x < n) (t : Int) : rot lot spot start size t x < n := (L.a2 _ _ (L.a1 x hx).1 (L.mod hx t).2).1
theorem Lots.lotE (L : Lots n k lot spot start size) {x : Nat} (hx : x < n) (t : Int) : lot (rot lot spot start size t x) = lot x := (L.a2 _ _ (L.a1 x hx).1 (L.mod hx t).2).2.1
theorem Lots.spotE (L : Lots n k lot spot start size) {x : Nat} (hx : x < n) (t : Int) : (spot (rot lot spot start size t x) : Int) = ((spot x : Int) + t) % (size (lot x) : Int) := by
  have := (L.a2 _ _ (L.a1 x hx).1 (L.mod hx t).2).2.2
  unfold rot
  rw [this]
  exact (L.mod hx t).1
theorem Lots.add (L : Lots n k lot spot start size) {x : Nat} (hx : x < n) (t u : Int) : rot lot spot start size u (rot lot spot start size t x) = rot lot spot start size (t + u) x := by
  show start (Ev.rot lot spot start size t x |> lot) + (((spot (Ev.rot lot spot start size t x) : Int) + u) % _).toNat = start (lot x) + _
  rw [show (Ev.rot lot spot start size t x |> lot) = lot x from L.lotE hx t, L.spotE hx t]
  congr 2
  rw [Int.emod_add_emod]
  congr 1
  omega
theorem Lots.zero (L : Lots n k lot spot start size) {x : Nat} (hx : x < n) : rot lot spot start size 0 x = x := by
  obtain ⟨h1, h2, h3⟩ := L.a1 x hx
  unfold rot
  rw [Int.add_zero, Int.emod_eq_of_lt (by omega) (by omega)]
  rw [Int.toNat_natCast]
  exact h3
def lotF (lot spot start size : Nat → Nat) (t : Nat → Nat → Int) (x y : Nat) : Nat × Nat := (rot lot spot start size (t (lot x) (lot y)) y, rot lot spot start size (-(t (lot y) (lot x))) x)
theorem lots_bd (L : Lots n k lot spot start size) (t : Nat → Nat → Int) : Bd n (lotF lot spot start size t) := fun x y hx hy => ⟨L.lt hy _, L.lt hx _⟩
theorem lots_three (L : Lots n k lot spot start size) (t : Nat → Nat → Int) : Three n (lotF lot spot start size t) := fun a b c ha hb hc => by
  have e1 : goA (lotF lot spot start size t) [a, b, c] [0, 1, 0] = [rot lot spot start size (t (lot a) (lot c) + t (lot b) (lot c)) c, rot lot spot start size (t (lot a) (lot b) + -(t (lot c) (lot b))) b, rot lot spot start size (-(t (lot b) (lot a)) + -(t (lot c) (lot a))) a] := by
    rw [go3]
    unfold lotF
    dsimp only
    simp only [L.lotE ha, L.lotE hb, L.lotE hc, L.add ha, L.add hb, L.add hc]
  have e2 : goA (lotF lot spot start size t) [a, b, c] [1, 0, 1] = [rot lot spot start size (t (lot b) (lot c) + t (lot a) (lot c)) c, rot lot spot start size (-(t (lot c) (lot b)) + t (lot a) (lot b)) b, rot lot spot start size (-(t (lot c) (lot a)) + -(t (lot b) (lot a))) a] := by
    rw [go3']
    unfold lotF
    dsimp only
    simp only [L.lotE ha, L.lotE hb, L.lotE hc, L.add ha, L.add hb, L.add hc]
  rw [e1, e2]
  simp only [Int.add_comm]
theorem lots_sided (L : Lots n k lot spot start size) (t : Nat → Nat → Int) : Sided n (lotF lot spot start size t) := by
  have inj : ∀ (u : Int → Int → Nat → Int) , True := fun _ => trivial
  refine ⟨fun c x y hc hx hy e => ?_, fun c x y hc hx hy e => ?_⟩
  · have e : rot lot spot start size (t (lot c) (lot x)) x = rot lot spot start size (t (lot c) (lot y)) y := e
    have hl : lot x = lot y := by rw [← L.lotE hx (t (lot c) (lot x)), e, L.lotE hy]
    rw [← L.zero hx, ← L.zero hy, show (0 : Int) = t (lot c) (lot x) + -(t (lot c) (lot x)) by omega, ← L.add hx, e, L.add hy, hl]
  · have e : rot lot spot start size (-(t (lot c) (lot x))) x = rot lot spot start size (-(t (lot c) (lot y))) y := e
    have hl : lot x = lot y := by rw [← L.lotE hx (-(t (lot c) (lot x))), e, L.lotE hy]
    rw [← L.zero hx, ← L.zero hy, show (0 : Int) = -(t (lot c) (lot x)) + t (lot c) (lot x) by omega, ← L.add hx, e, L.add hy, hl]
theorem lots_twice (L : Lots n k lot spot start size) (t : Nat → Nat → Int) : Twice n (lotF lot spot start size t) := fun a b ha hb => by
  unfold lotF
  dsimp only
  rw [L.lotE ha, L.lotE hb, L.add ha, L.add hb]
  rw [show -(t (lot b) (lot a)) + t (lot b) (lot a) = 0 by omega, show t (lot a) (lot b) + -(t (lot a) (lot b)) = 0 by omega, L.zero ha, L.zero hb]
end
/-! two tables written out -/
def fourM : List (List Nat) := [[1, 0, 2, 3], [2, 3, 1, 0], [0, 1, 3, 2], [3, 2, 0, 1]]
def fourF (x y : Nat) : Nat × Nat := ((fourM.getD x []).getD y 0, place x (fourM.getD ((fourM.getD x []).getD y 0) []))
theorem four_bd : Bd 4 fourF := by
  have : ∀ i : Fin 4, ∀ j : Fin 4, (fourF i j).1 < 4 ∧ (fourF i j).2 < 4 := by decide +kernel
  exact fun i j hi hj => this ⟨i, hi⟩ ⟨j, hj⟩
theorem four_three : Three 4 fourF := by
  have : ∀ i : Fin 4, ∀ j : Fin 4, ∀ k : Fin 4, goA fourF [i, j, k] [0, 1, 0] = goA fourF [i, j, k] [1, 0, 1] := by decide +kernel
  exact fun a b c ha hb hc => this ⟨a, ha⟩ ⟨b, hb⟩ ⟨c, hc⟩
theorem four_sided : Sided 4 fourF := by
  have h1 : ∀ i : Fin 4, ∀ j : Fin 4, ∀ k : Fin 4, (fourF i j).1 = (fourF i k).1 → j = k := by decide +kernel
  have h2 : ∀ i : Fin 4, ∀ j : Fin 4, ∀ k : Fin 4, (fourF j i).2 = (fourF k i).2 → j = k := by decide +kernel
  exact ⟨fun k x y hk hx hy e => congrArg Fin.val (h1 ⟨k, hk⟩ ⟨x, hx⟩ ⟨y, hy⟩ e), fun k x y hk hx hy e => congrArg Fin.val (h2 ⟨k, hk⟩ ⟨x, hx⟩ ⟨y, hy⟩ e)⟩
theorem four_twice : Twice 4 fourF := by
  have : ∀ i : Fin 4, ∀ j : Fin 4, fourF (fourF i j).1 (fourF i j).2 = (i.val, j.val) := by decide +kernel
  exact fun a b ha hb => this ⟨a, ha⟩ ⟨b, hb⟩
def oddF (x y : Nat) : Nat × Nat := (([[(0, 0), (1, 0), (2, 0)], [(0, 1), (1, 0), (2, 0)], [(0, 2), (2, 0), (1, 0)]] : List (List (Nat × Nat))).getD x []).getD y (0, 0)
theorem odd_bd : Bd 3 oddF := by
  have : ∀ i : Fin 3, ∀ j : Fin 3, (oddF i j).1 < 3 ∧ (oddF i j).2 < 3 := by decide +kernel
  exact fun i j hi hj => this ⟨i, hi⟩ ⟨j, hj⟩
theorem odd_three : Three 3 oddF := by
  have : ∀ i : Fin 3, ∀ j : Fin 3, ∀ k : Fin 3, goA oddF [i, j, k] [0, 1, 0] = goA oddF [i, j, k] [1, 0, 1] := by decide +kernel
  exact fun a b c ha hb hc => this ⟨a, ha⟩ ⟨b, hb⟩ ⟨c, hc⟩
end Ev
/-! text M17 -/
set_option Elab.async false
set_option linter.all false
set_option maxRecDepth 100000
set_option maxHeartbeats 4000000
namespace Ev
open PySem L2
/-! ### such tables as data -/
def rowD (n : Nat) (g : Nat → Nat × Nat) : List D := (List.range n).map fun j => pD (g j)
def prT (n : Nat) (f : Nat → Nat → Nat × Nat) : List D := (List.range n).map fun i => D.lst (rowD n (f i))
theorem prT_eq (n : Nat) (f : Nat → Nat → Nat × Nat) : prL (tabL n f) = prT n f := by
  unfold prL tabL prT
  rw [List.map_map]
  refine List.map_congr_left fun i _ => ?_
  show rD ((List.range n).map (f i)) = _
  unfold rD rowD
  rw [List.map_map]
  rfl
@[simp] theorem prT_len (n : Nat) (f : Nat → Nat → Nat × Nat) : (prT n f).length = n := by unfold prT; simp
@[simp] theorem rowD_len (n : Nat) (g : Nat → Nat × Nat) : (rowD n g).length = n := by unfold rowD; simp
theorem at_prT {n : Nat} {f : Nat → Nat → Nat × Nat} {i : Nat} (h : i < n) : atI (prT n f) (i : Int) = some (.lst (rowD n (f i))) := by
  unfold prT
  rw [map_at (by simpa using h)]
  simp
theorem at_row {n : Nat} {g : Nat → Nat × Nat} {j : Nat} (h : j < n) : atI (rowD n g) (j : Int) = some (.tup [.int ((g j).1 : Nat), .int ((g j).2 : Nat)]) := by
  unfold rowD
  rw [map_at (by simpa using h)]
  simp [pD]
theorem at2_0 {a b : D} : atI [a, b] 0 = some a := rfl
theorem at2_1 {a b : D} : atI [a, b] 1 = some b := rfl
theorem rowD_snoc (m : Nat) (g : Nat → Nat × Nat) : rowD (m + 1) g = rowD m g ++ [.tup [.int ((g m).1 : Nat), .int ((g m).2 : Nat)]] := by
  unfold rowD
  rw [List.range_succ, List.map_append]
  rfl
/-- m lines of n -/
def prM (m n : Nat) (f : Nat → Nat → Nat × Nat) : List D := (List.range m).map fun i => D.lst (rowD n (f i))
theorem prM_snoc (m n : Nat) (f : Nat → Nat → Nat × Nat) : prM (m + 1) n f = prM m n f ++ [.lst (rowD n (f m))] := by
  unfold prM
  rw [List.range_succ, List.map_append]
  rfl
theorem prM_all (n : Nat) (f : Nat → Nat → Nat × Nat) : prM n n f = prT n f := rfl
@[simp] theorem prM_len (m n : Nat) (f : Nat → Nat → Nat × Nat) : (prM m n f).length = m := by unfold prM; simp
theorem prT_cong {n : Nat} {f g : Nat → Nat → Nat × Nat} (h : ∀ i j, i < n → j < n → f i j = g i j) : prT n f = prT n g := by
  unfold prT
  refine List.map_congr_left fun i hi => ?_
  unfold rowD
  congr 1
  refine List.map_congr_left fun j hj => ?_
  rw [h i j (List.mem_range.mp hi) (List.mem_range.mp hj)]
/-! ### loops over the numbers below n -/
theorem loop_rng {i n : Nat} {B : Fs} (P : Nat → Env → Prop) (step : ∀ k ρ, k < n → P k ρ → Ok (asg (.nm i) (.int (k : Nat)) ρ) fun ρ1 => Ok (B ρ1) fun y => y.1 = .nx ∧ P (k + 1) y.2) {ρ : Env} (h : P 0 ρ) :
    Ok (loopF (.nm i) B (nts (List.range n)) ρ) fun y => y.1 = .nx ∧ P n y.2 := by
  refine (loop_nts (fun v ρ => ∃ k, v = List.range' k (n - k) ∧ k ≤ n ∧ P k ρ) ?_ ⟨0, by simp [List.range_eq_range'], Nat.zero_le _, h⟩).imp ?_
  · rintro p v ρ ⟨k, hv, hk, hp⟩
    have hkn : k < n := by
      rcases Nat.lt_or_ge k n with q | q
      · exact q
      · rw [show n - k = 0 by omega] at hv; cases hv
    obtain ⟨m, hm⟩ : ∃ m, n - k = m + 1 := ⟨n - k - 1, by omega⟩
    rw [hm] at hv
    have : p = k ∧ v = List.range' (k + 1) m := by
      have : k :: List.range' (k + 1) m = p :: v := hv.symm ▸ rfl
      cases this
      exact ⟨rfl, rfl⟩
    obtain ⟨rfl, rfl⟩ := this
    refine (step p ρ hkn hp).imp fun ρ1 h1 => h1.imp fun y ⟨h2, h3⟩ => ⟨h2, p + 1, ?_, hkn, h3⟩
    rw [show n - (p + 1) = m by omega]
  · rintro ⟨fl, ρ⟩ ⟨e, k, hv, hk, hp⟩
    have : k = n := by
      have := congrArg List.length hv
      simp at this
      omega
    subst this
    exact ⟨e, hp⟩
/-- a comprehension over them -/
theorem lc_rng {FE : Fd} {i n : Nat} {vs : List Nat} {ρ : Env} (f : Nat → D) (h : ∀ p, p < n → Ok (asg (.nm i) (.int (p : Nat)) ρ) fun ρ1 => Ok (FE ρ1) fun y => y.1 = f p ∧ wipeE y.2 vs = ρ) : Ok (lcF (.nm i) yesT FE vs (nts (List.range n)) ρ) fun z => z = ((List.range n).map f, ρ) :=
  lc_nts f fun p hp => h p (List.mem_range.mp hp)
/-- .. that changes what it finds (E c: the slots with c) -/
theorem lc_draws {α β : Type} {FE : Fd} {i n : Nat} {vs : List Nat} (E : α → Env) (f : β → D) (I : Nat → α → Prop) (J : β → Prop) (step : ∀ p c, p < n → I p c → Ok (asg (.nm i) (.int (p : Nat)) (E c)) fun ρ1 => Ok (FE ρ1) fun y => ∃ z c', y.1 = f z ∧ J z ∧ wipeE y.2 vs = E c' ∧ I (p + 1) c') {c : α} (h : I 0 c) :
    Ok (lcF (.nm i) yesT FE vs (nts (List.range n)) (E c)) fun y => ∃ (zs : List β) (c' : α), y = (zs.map f, E c') ∧ zs.length = n ∧ (∀ z ∈ zs, J z) ∧ I n c' := by
  refine (lcF_rel (fun ds acc ρ => ∃ (k : Nat) (zs : List β) (c' : α), ds = nts (List.range' k (n - k)) ∧ k ≤ n ∧ acc = zs.map f ∧ zs.length = k ∧ (∀ z ∈ zs, J z) ∧ ρ = E c' ∧ I k c') ?_ _ [] _ ⟨0, [], c, by simp [List.range_eq_range'], Nat.zero_le _, rfl, rfl, by simp, rfl, h⟩).imp ?_
  · rintro d ds acc ρ ⟨k, zs, c', hd, hk, rfl, hz, hJ, rfl, hI⟩
    have hkn : k < n := by
      rcases Nat.lt_or_ge k n with q | q
      · exact q
      · rw [show n - k = 0 by omega] at hd; cases hd
    obtain ⟨m, hm⟩ : ∃ m, n - k = m + 1 := ⟨n - k - 1, by omega⟩
    rw [hm] at hd
    have : d = .int (k : Nat) ∧ ds = nts (List.range' (k + 1) m) := by
      have e : nts (List.range' k (m + 1)) = .int (k : Nat) :: nts (List.range' (k + 1) m) := rfl
      rw [e] at hd
      cases hd
      exact ⟨rfl, rfl⟩
    obtain ⟨rfl, rfl⟩ := this
    refine (step k c' hkn hI).imp fun ρ1 h1 => h1.imp fun y ⟨z, c2, h2, h3, h4, h5⟩ => ⟨k + 1, zs ++ [z], c2, by rw [show n - (k + 1) = m by omega], hkn, by rw [h2]; simp, by simp [hz], ?_, h4, h5⟩
    intro w hw
    rcases List.mem_append.mp hw with q | q
    · exact hJ w q
    · simp at q; subst q; exact h3
  · rintro ⟨l, ρ⟩ ⟨k, zs, c', hd, hk, e1, hz, hJ, e2, hI⟩
    have : k = n := by
      have := congrArg List.length hd
      simp at this
      omega
    subst this
    simp at e1
    subst e1 e2
    exact ⟨zs, c', rfl, hz, hJ, hI⟩
end Ev
/-! text G -/
set_option Elab.async false
set_option linter.all false
set_option maxRecDepth 100000
set_option maxHeartbeats 4000000
namespace Ev
open PySem L2

def top (i : Nat) : Stmt := PySem.Challenge.pw_passmarks_k12_whole_orders_and_rows.main.body.getD i (.Pass ⟨0, 0, 0, 0⟩)
abbrev flL : List (Str × List Str) := [("Table", ["own_marks", "known"])]
/-! _law_pen -/
abbrev s__law_pen : Stmt := top 39
abbrev sc__law_pen : Scope := defScope s__law_pen
def N__law_pen : List Str := ["_law_script"]
theorem v__law_pen_0_0 : visB N__law_pen sc__law_pen 0 "_law_script" = true := by decide +kernel
theorem g__law_pen_0_list : glB sc__law_pen "list" = true := by decide +kernel
theorem fs__law_pen : FnScope N__law_pen ["_law_script"] sc__law_pen := ⟨rfl, rfl, rfl, by decide +kernel, rfl, by decide +kernel, by decide +kernel⟩
def B__law_pen : Fs := (retS (dispF [("cells", (fixF (callF listD (consA (valF (fixF (slF (varR 0) noneO (someO (constF (.int 63)))))) nilA)))), ("spot", (constF (.int 0))), ("more", (constF (.int 0)))]))
def F__law_pen : Fn := fun as => bodyF N__law_pen.length (["_law_script"] : List Str).length B__law_pen (id as)
/-! _law_draw -/
abbrev s__law_draw : Stmt := top 40
abbrev sc__law_draw : Scope := defScope s__law_draw
def N__law_draw : List Str := ["_law_pen_here", "_law_many", "_law_digit", "_law_spot", "_law_cell", "_law_mix"]
theorem v__law_draw_0_0 : visB N__law_draw sc__law_draw 0 "_law_pen_here" = true := by decide +kernel
theorem t__law_draw_0_2 : stB N__law_draw sc__law_draw 2 "_law_digit" = true := by decide +kernel
theorem v__law_draw_0_1 : visB N__law_draw sc__law_draw 1 "_law_many" = true := by decide +kernel
theorem v__law_draw_0_2 : visB N__law_draw sc__law_draw 2 "_law_digit" = true := by decide +kernel
theorem t__law_draw_0_3 : stB N__law_draw sc__law_draw 3 "_law_spot" = true := by decide +kernel
theorem v__law_draw_0_3 : visB N__law_draw sc__law_draw 3 "_law_spot" = true := by decide +kernel
theorem t__law_draw_0_4 : stB N__law_draw sc__law_draw 4 "_law_cell" = true := by decide +kernel
theorem g__law_draw_0_len : glB sc__law_draw "len" = true := by decide +kernel
theorem v__law_draw_0_4 : visB N__law_draw sc__law_draw 4 "_law_cell" = true := by decide +kernel
theorem g__law_draw_0_abs : glB sc__law_draw "abs" = true := by decide +kernel
theorem t__law_draw_0_5 : stB N__law_draw sc__law_draw 5 "_law_mix" = true := by decide +kernel
theorem v__law_draw_0_5 : visB N__law_draw sc__law_draw 5 "_law_mix" = true := by decide +kernel
theorem fs__law_draw : FnScope N__law_draw ["_law_pen_here", "_law_many"] sc__law_draw := ⟨rfl, rfl, rfl, by decide +kernel, rfl, by decide +kernel, by decide +kernel⟩
def B__law_draw : Fs := (seqS (ifS (binB (cmpI fun i j => decide (i > j)) (valF (fixF (binF ixD (varR 0) (valF (constF (.str "more")))))) (valF (constF (.int 0)))) (seqS (setS 2 (binF (intOp modI) (valF (fixF (binF ixD (varR 0) (valF (constF (.str "more")))))) (varR 1)))
  (seqS (dputS (fixF (binF (intOp fdivI) (valF (fixF (binF ixD (varR 0) (valF (constF (.str "more")))))) (varR 1))) (varR 0) (constF (.str "more")))
  (retVar 2))) skipS)
  (seqS (setS 3 (binF ixD (varR 0) (valF (constF (.str "spot")))))
  (seqS (dputS (fixF (binF addD (varR 3) (valF (constF (.int 1))))) (varR 0) (constF (.str "spot")))
  (seqS (setS 4 (iteF (binB neD (valF (fixF (binF ixD (varR 0) (valF (constF (.str "cells")))))) (valF (fixF (lstF nilL)))) (binF ixD (valF (fixF (binF ixD (varR 0) (valF (constF (.str "cells")))))) (valF (fixF (binF (intOp modI) (varR 3) (valF (fixF (callF lenD (consA (valF (fixF (binF ixD (varR 0) (valF (constF (.str "cells")))))) nilA)))))))) (binF addD (valF (fixF (binF mulD' (valF (constF (.int 37))) (varR 3)))) (valF (constF (.int 11))))))
  (seqS (ifS (andB (binB (cmpI fun i j => decide (i < j)) (varR 3) (valF (fixF (callF lenD (consA (valF (fixF (binF ixD (varR 0) (valF (constF (.str "cells")))))) nilA))))) (binB (cmpI fun i j => decide (i ≥ j)) (valF (fixF (callF absD (consA (varR 4) nilA)))) (valF (fixF (binF (intOp powI) (valF (constF (.int 10))) (valF (constF (.int 18)))))))) (seqS (dputS (fixF (binF (intOp fdivI) (valF (fixF (binF (intOp subI) (valF (fixF (callF absD (consA (varR 4) nilA)))) (valF (fixF (binF (intOp powI) (valF (constF (.int 10))) (valF (constF (.int 18))))))))) (varR 1))) (varR 0) (constF (.str "more")))
  (retS (binF (intOp modI) (valF (fixF (binF (intOp subI) (valF (fixF (callF absD (consA (varR 4) nilA)))) (valF (fixF (binF (intOp powI) (valF (constF (.int 10))) (valF (constF (.int 18))))))))) (varR 1)))) skipS)
  (seqS (setS 5 (binF (intOp modI) (valF (fixF (binF addD (valF (fixF (binF addD (valF (fixF (binF addD (valF (fixF (binF mulD' (valF (fixF (binF (intOp modI) (varR 4) (valF (constF (.int 2147483647)))))) (valF (constF (.int 69621)))))) (valF (fixF (binF mulD' (valF (fixF (binF mulD' (valF (constF (.int 48271))) (varR 3)))) (varR 3))))))) (valF (fixF (binF mulD' (valF (constF (.int 30011))) (varR 3))))))) (valF (constF (.int 13)))))) (valF (constF (.int 2147483629)))))
  (seqS (setS 5 (binF (intOp modI) (valF (fixF (binF addD (valF (fixF (binF addD (valF (fixF (binF addD (valF (fixF (binF mulD' (varR 5) (varR 5)))) (valF (fixF (binF mulD' (valF (constF (.int 40692))) (varR 5))))))) (valF (fixF (binF mulD' (valF (constF (.int 7))) (varR 3))))))) (valF (constF (.int 3)))))) (valF (constF (.int 2147483587)))))
  (retS (binF (intOp modI) (valF (fixF (binF (intOp fdivI) (valF (fixF (binF (intOp modI) (valF (fixF (binF mulD' (varR 5) (valF (fixF (binF addD (varR 5) (valF (constF (.int 16807))))))))) (valF (constF (.int 2147483579)))))) (valF (constF (.int 32)))))) (varR 1))))))))))
def F__law_draw : Fn := fun as => bodyF N__law_draw.length (["_law_pen_here", "_law_many"] : List Str).length B__law_draw (id as)
/-! _law_word -/
abbrev s__law_word : Stmt := top 43
abbrev sc__law_word : Scope := defScope s__law_word
def N__law_word : List Str := ["_law_pen_here", "_law_places", "_law_many", "_law_turn"]
abbrev bc__law_word_1 : Scope := { kind := .function, names := [(".0", .local), ("_law_turn", .local), ("_law_draw", .globalImplicit), ("_law_pen_here", .free), ("_law_places", .free)], isGenerator := false, isCoroutine := false, more := [] }
abbrev rc__law_word_1 : Scope := relS bc__law_word_1 sc__law_word
theorem v__law_word_0_0 : visB N__law_word sc__law_word 0 "_law_pen_here" = true := by decide +kernel
theorem v__law_word_0_2 : visB N__law_word sc__law_word 2 "_law_many" = true := by decide +kernel
theorem g__law_word_0__law_draw : glB sc__law_word "_law_draw" = true := by decide +kernel
theorem v__law_word_0_1 : visB N__law_word sc__law_word 1 "_law_places" = true := by decide +kernel
theorem g__law_word_0_int : glB sc__law_word "int" = true := by decide +kernel
theorem g__law_word_0_range : glB sc__law_word "range" = true := by decide +kernel
theorem t__law_word_1_3 : stB N__law_word bc__law_word_1 3 "_law_turn" = true := by decide +kernel
theorem v__law_word_1_0 : visB N__law_word rc__law_word_1 0 "_law_pen_here" = true := by decide +kernel
theorem v__law_word_1_1 : visB N__law_word rc__law_word_1 1 "_law_places" = true := by decide +kernel
theorem g__law_word_1__law_draw : glB rc__law_word_1 "_law_draw" = true := by decide +kernel
theorem b__law_word_1 : blkC N__law_word sc__law_word bc__law_word_1 [("_law_turn", 3)] = true := by decide +kernel
theorem g__law_word_0_tuple : glB sc__law_word "tuple" = true := by decide +kernel
theorem fs__law_word : FnScope N__law_word ["_law_pen_here", "_law_places", "_law_many"] sc__law_word := ⟨rfl, rfl, rfl, by decide +kernel, rfl, by decide +kernel, by decide +kernel⟩
def B__law_word : Fs := (retS (callF tupleD (consA (valF (fixF (compF (.nm 3) (rngF rng1 (consA (valF (fixF (binF mulD' (valF (fixF (userF 2 F__law_draw (consA (varR 0) (consA (valF (fixF (binF addD (varR 2) (valF (constF (.int 1)))))) nilA))))) (valF (fixF (callF intD (consA (valF (boolF (binB (cmpI fun i j => decide (i > j)) (varR 1) (valF (constF (.int 1)))))) nilA))))))) nilA)) yesT (fixF (userF 2 F__law_draw (consA (varR 0) (consA (valF (fixF (binF (intOp subI) (varR 1) (valF (constF (.int 1)))))) nilA)))) [3]))) nilA)))
def F__law_word : Fn := fun as => bodyF N__law_word.length (["_law_pen_here", "_law_places", "_law_many"] : List Str).length B__law_word (id as)
/-! is_whole -/
abbrev s_is_whole : Stmt := top 6
abbrev sc_is_whole : Scope := defScope s_is_whole
def N_is_whole : List Str := ["thing", "least", "most"]
theorem v_is_whole_0_0 : visB N_is_whole sc_is_whole 0 "thing" = true := by decide +kernel
theorem g_is_whole_0_isinstance : glB sc_is_whole "isinstance" = true := by decide +kernel
theorem g_is_whole_0_int : glB sc_is_whole "int" = true := by decide +kernel
theorem g_is_whole_0_bool : glB sc_is_whole "bool" = true := by decide +kernel
theorem v_is_whole_0_1 : visB N_is_whole sc_is_whole 1 "least" = true := by decide +kernel
theorem v_is_whole_0_2 : visB N_is_whole sc_is_whole 2 "most" = true := by decide +kernel
theorem fs_is_whole : FnScope N_is_whole ["thing", "least", "most"] sc_is_whole := ⟨rfl, rfl, rfl, by decide +kernel, rfl, by decide +kernel, by decide +kernel⟩
def B_is_whole : Fs := (retS (immF (andD (isiF "int" (varR 0)) (andD (notD (isiF "bool" (varR 0))) (boolF (chainB (cmpI fun i j => decide (i ≤ j)) (cmpI fun i j => decide (i ≤ j)) (varR 1) (varR 0) (varR 2)))))))
def F_is_whole_1_least_most : Fn := fun as => bodyF N_is_whole.length (["thing", "least", "most"] : List Str).length B_is_whole (id as)
/-! need_places -/
abbrev s_need_places : Stmt := top 25
abbrev sc_need_places : Scope := defScope s_need_places
def N_need_places : List Str := ["places", "least", "most"]
theorem v_need_places_0_0 : visB N_need_places sc_need_places 0 "places" = true := by decide +kernel
theorem v_need_places_0_2 : visB N_need_places sc_need_places 2 "most" = true := by decide +kernel
theorem v_need_places_0_1 : visB N_need_places sc_need_places 1 "least" = true := by decide +kernel
theorem g_need_places_0_is_whole : glB sc_need_places "is_whole" = true := by decide +kernel
theorem fs_need_places : FnScope N_need_places ["places", "least", "most"] sc_need_places := ⟨rfl, rfl, rfl, by decide +kernel, rfl, by decide +kernel, by decide +kernel⟩
def B_need_places : Fs := (seqS (ifS (notB (truF (valF (fixF (userF 3 F_is_whole_1_least_most (appA (chkA 1 (consA (valF (varD 0)) nilA)) (chkA 2 (consA (valF (varD 1)) (consA (valF (varD 2)) nilA))))))))) stuckS skipS)
  (retVar 0))
def F_need_places_1 : Fn := fun as => bodyF N_need_places.length (["places", "least", "most"] : List Str).length B_need_places ((fun as => as ++ ([D.int 1, D.int 60] : List D).map Ar.imm) as)
/-! is_listing -/
abbrev s_is_listing : Stmt := top 8
abbrev sc_is_listing : Scope := defScope s_is_listing
def N_is_listing : List Str := ["thing"]
theorem v_is_listing_0_0 : visB N_is_listing sc_is_listing 0 "thing" = true := by decide +kernel
theorem g_is_listing_0_tuple : glB sc_is_listing "tuple" = true := by decide +kernel
theorem g_is_listing_0_list : glB sc_is_listing "list" = true := by decide +kernel
theorem g_is_listing_0_isinstance : glB sc_is_listing "isinstance" = true := by decide +kernel
theorem fs_is_listing : FnScope N_is_listing ["thing"] sc_is_listing := ⟨rfl, rfl, rfl, by decide +kernel, rfl, by decide +kernel, by decide +kernel⟩
def B_is_listing : Fs := (retS (immF (isisF ["list", "tuple"] (varR 0))))
def F_is_listing : Fn := fun as => bodyF N_is_listing.length (["thing"] : List Str).length B_is_listing (id as)
/-! word_fault -/
abbrev s_word_fault : Stmt := top 20
abbrev sc_word_fault : Scope := defScope s_word_fault
def N_word_fault : List Str := ["places", "thing", "at", "place"]
theorem v_word_fault_0_1 : visB N_word_fault sc_word_fault 1 "thing" = true := by decide +kernel
theorem g_word_fault_0_is_listing : glB sc_word_fault "is_listing" = true := by decide +kernel
theorem g_word_fault_0_len : glB sc_word_fault "len" = true := by decide +kernel
theorem g_word_fault_0_WORD : glB sc_word_fault "WORD" = true := by decide +kernel
theorem g_word_fault_0_enumerate : glB sc_word_fault "enumerate" = true := by decide +kernel
theorem t_word_fault_0_2 : stB N_word_fault sc_word_fault 2 "at" = true := by decide +kernel
theorem t_word_fault_0_3 : stB N_word_fault sc_word_fault 3 "place" = true := by decide +kernel
theorem v_word_fault_0_3 : visB N_word_fault sc_word_fault 3 "place" = true := by decide +kernel
theorem v_word_fault_0_0 : visB N_word_fault sc_word_fault 0 "places" = true := by decide +kernel
theorem g_word_fault_0_is_whole : glB sc_word_fault "is_whole" = true := by decide +kernel
theorem v_word_fault_0_2 : visB N_word_fault sc_word_fault 2 "at" = true := by decide +kernel
theorem fs_word_fault : FnScope N_word_fault ["places", "thing"] sc_word_fault := ⟨rfl, rfl, rfl, by decide +kernel, rfl, by decide +kernel, by decide +kernel⟩
def B_word_fault : Fs := (seqS (ifS (orB (notB (truF (valF (fixF (userF 1 F_is_listing (consA (valF (varD 1)) nilA)))))) (binB (cmpI fun i j => decide (i > j)) (valF (fixF (callF lenD (consA (varR 1) nilA)))) (valF (constF (.int 2000))))) (retS (immF (constF (.int (-1))))) skipS)
  (seqS (forS (.tp [(.nm 2), (.nm 3)]) (enumF (consL (varD 1) nilL)) ((ifS (notB (truF (valF (fixF (userF 3 F_is_whole_1_least_most (appA (chkA 1 (consA (valF (varD 3)) nilA)) (chkA 2 (consA (valF (constF (.int 0))) (consA (valF (fixF (binF (intOp subI) (varR 0) (valF (constF (.int 2)))))) nilA))))))))) (retVar 2) skipS)))
  (retS (immF (constF .non)))))
def F_word_fault : Fn := fun as => bodyF N_word_fault.length (["places", "thing"] : List Str).length B_word_fault (id as)
/-! need_word -/
abbrev s_need_word : Stmt := top 21
abbrev sc_need_word : Scope := defScope s_need_word
def N_need_word : List Str := ["places", "word", "fault"]
theorem t_need_word_0_2 : stB N_need_word sc_need_word 2 "fault" = true := by decide +kernel
theorem v_need_word_0_0 : visB N_need_word sc_need_word 0 "places" = true := by decide +kernel
theorem v_need_word_0_1 : visB N_need_word sc_need_word 1 "word" = true := by decide +kernel
theorem g_need_word_0_word_fault : glB sc_need_word "word_fault" = true := by decide +kernel
theorem v_need_word_0_2 : visB N_need_word sc_need_word 2 "fault" = true := by decide +kernel
theorem g_need_word_0_tuple : glB sc_need_word "tuple" = true := by decide +kernel
theorem fs_need_word : FnScope N_need_word ["places", "word"] sc_need_word := ⟨rfl, rfl, rfl, by decide +kernel, rfl, by decide +kernel, by decide +kernel⟩
def B_need_word : Fs := (seqS (setS 2 (userF 2 F_word_fault (consA (valF (varD 0)) (consA (valF (varD 1)) nilA))))
  (seqS (ifS (binB isNotD (varR 2) (valF (constF .non))) stuckS skipS)
  (retS (callF tupleD (consA (varR 1) nilA)))))
def F_need_word : Fn := fun as => bodyF N_need_word.length (["places", "word"] : List Str).length B_need_word (id as)
/-! exchanged -/
abbrev s_exchanged : Stmt := top 26
abbrev sc_exchanged : Scope := defScope s_exchanged
def N_exchanged : List Str := ["some", "place"]
theorem v_exchanged_0_0 : visB N_exchanged sc_exchanged 0 "some" = true := by decide +kernel
theorem v_exchanged_0_1 : visB N_exchanged sc_exchanged 1 "place" = true := by decide +kernel
theorem fs_exchanged : FnScope N_exchanged ["some", "place"] sc_exchanged := ⟨rfl, rfl, rfl, by decide +kernel, rfl, by decide +kernel, by decide +kernel⟩
def B_exchanged : Fs := (retS (binF addD (valF (fixF (binF addD (valF (fixF (slF (varR 0) noneO (someO (varD 1))))) (valF (fixF (tupF (consL (fixF (binF ixD (varR 0) (valF (fixF (binF addD (varR 1) (valF (constF (.int 1)))))))) (consL (fixF (binF ixD (varR 0) (varR 1))) nilL)))))))) (valF (fixF (slF (varR 0) (someO (fixF (binF addD (varR 1) (valF (constF (.int 2)))))) noneO)))))
def F_exchanged : Fn := fun as => bodyF N_exchanged.length (["some", "place"] : List Str).length B_exchanged (id as)
/-! order_of -/
abbrev s_order_of : Stmt := top 27
abbrev sc_order_of : Scope := defScope s_order_of
def N_order_of : List Str := ["places", "word", "found", "place"]
theorem t_order_of_0_2 : stB N_order_of sc_order_of 2 "found" = true := by decide +kernel
theorem v_order_of_0_0 : visB N_order_of sc_order_of 0 "places" = true := by decide +kernel
theorem g_order_of_0_need_places : glB sc_order_of "need_places" = true := by decide +kernel
theorem g_order_of_0_tuple : glB sc_order_of "tuple" = true := by decide +kernel
theorem g_order_of_0_range : glB sc_order_of "range" = true := by decide +kernel
theorem v_order_of_0_1 : visB N_order_of sc_order_of 1 "word" = true := by decide +kernel
theorem g_order_of_0_need_word : glB sc_order_of "need_word" = true := by decide +kernel
theorem t_order_of_0_3 : stB N_order_of sc_order_of 3 "place" = true := by decide +kernel
theorem v_order_of_0_2 : visB N_order_of sc_order_of 2 "found" = true := by decide +kernel
theorem v_order_of_0_3 : visB N_order_of sc_order_of 3 "place" = true := by decide +kernel
theorem g_order_of_0_exchanged : glB sc_order_of "exchanged" = true := by decide +kernel
theorem fs_order_of : FnScope N_order_of ["places", "word"] sc_order_of := ⟨rfl, rfl, rfl, by decide +kernel, rfl, by decide +kernel, by decide +kernel⟩
def B_order_of : Fs := (seqS (setS 2 (tupRg1 (fixF (userF 1 F_need_places_1 (consA (valF (varD 0)) nilA)))))
  (seqS (forS (.nm 3) (seqF (fixF (userF 2 F_need_word (consA (valF (varD 0)) (consA (valF (varD 1)) nilA))))) ((setS 2 (userF 2 F_exchanged (consA (valF (varD 2)) (consA (valF (varD 3)) nilA))))))
  (retVar 2)))
def F_order_of : Fn := fun as => bodyF N_order_of.length (["places", "word"] : List Str).length B_order_of (id as)
/-! order_fault -/
abbrev s_order_fault : Stmt := top 28
abbrev sc_order_fault : Scope := defScope s_order_fault
def N_order_fault : List Str := ["thing", "at", "runner"]
theorem v_order_fault_0_0 : visB N_order_fault sc_order_fault 0 "thing" = true := by decide +kernel
theorem g_order_fault_0_is_listing : glB sc_order_fault "is_listing" = true := by decide +kernel
theorem g_order_fault_0_len : glB sc_order_fault "len" = true := by decide +kernel
theorem g_order_fault_0_PLACES : glB sc_order_fault "PLACES" = true := by decide +kernel
theorem g_order_fault_0_enumerate : glB sc_order_fault "enumerate" = true := by decide +kernel
theorem t_order_fault_0_1 : stB N_order_fault sc_order_fault 1 "at" = true := by decide +kernel
theorem t_order_fault_0_2 : stB N_order_fault sc_order_fault 2 "runner" = true := by decide +kernel
theorem v_order_fault_0_2 : visB N_order_fault sc_order_fault 2 "runner" = true := by decide +kernel
theorem g_order_fault_0_is_whole : glB sc_order_fault "is_whole" = true := by decide +kernel
theorem v_order_fault_0_1 : visB N_order_fault sc_order_fault 1 "at" = true := by decide +kernel
theorem fs_order_fault : FnScope N_order_fault ["thing"] sc_order_fault := ⟨rfl, rfl, rfl, by decide +kernel, rfl, by decide +kernel, by decide +kernel⟩
def B_order_fault : Fs := (seqS (ifS (orB (notB (truF (valF (fixF (userF 1 F_is_listing (consA (valF (varD 0)) nilA)))))) (notB (chainB (cmpI fun i j => decide (i ≤ j)) (cmpI fun i j => decide (i ≤ j)) (valF (constF (.int 1))) (valF (fixF (callF lenD (consA (varR 0) nilA)))) (valF (constF (.int 60)))))) (retS (immF (constF (.int (-1))))) skipS)
  (seqS (forS (.tp [(.nm 1), (.nm 2)]) (enumF (consL (varD 0) nilL)) ((ifS (orB (notB (truF (valF (fixF (userF 3 F_is_whole_1_least_most (appA (chkA 1 (consA (valF (varD 2)) nilA)) (chkA 2 (consA (valF (constF (.int 0))) (consA (valF (fixF (binF (intOp subI) (valF (fixF (callF lenD (consA (varR 0) nilA)))) (valF (constF (.int 1)))))) nilA))))))))) (binB inD (varR 2) (valF (fixF (slF (varR 0) noneO (someO (varD 1))))))) (retVar 1) skipS)))
  (retS (immF (constF .non)))))
def F_order_fault : Fn := fun as => bodyF N_order_fault.length (["thing"] : List Str).length B_order_fault (id as)
/-! need_order -/
abbrev s_need_order : Stmt := top 29
abbrev sc_need_order : Scope := defScope s_need_order
def N_need_order : List Str := ["order", "fault"]
theorem t_need_order_0_1 : stB N_need_order sc_need_order 1 "fault" = true := by decide +kernel
theorem v_need_order_0_0 : visB N_need_order sc_need_order 0 "order" = true := by decide +kernel
theorem g_need_order_0_order_fault : glB sc_need_order "order_fault" = true := by decide +kernel
theorem v_need_order_0_1 : visB N_need_order sc_need_order 1 "fault" = true := by decide +kernel
theorem g_need_order_0_tuple : glB sc_need_order "tuple" = true := by decide +kernel
theorem fs_need_order : FnScope N_need_order ["order"] sc_need_order := ⟨rfl, rfl, rfl, by decide +kernel, rfl, by decide +kernel, by decide +kernel⟩
def B_need_order : Fs := (seqS (setS 1 (userF 1 F_order_fault (consA (valF (varD 0)) nilA)))
  (seqS (ifS (binB isNotD (varR 1) (valF (constF .non))) stuckS skipS)
  (retS (callF tupleD (consA (varR 0) nilA)))))
def F_need_order : Fn := fun as => bodyF N_need_order.length (["order"] : List Str).length B_need_order (id as)
/-! joined -/
abbrev s_joined : Stmt := top 30
abbrev sc_joined : Scope := defScope s_joined
def N_joined : List Str := ["one", "other", "first", "place"]
abbrev bc_joined_1 : Scope := { kind := .function, names := [(".0", .local), ("place", .local), ("first", .free)], isGenerator := false, isCoroutine := false, more := [] }
abbrev rc_joined_1 : Scope := relS bc_joined_1 sc_joined
theorem t_joined_0_2 : stB N_joined sc_joined 2 "first" = true := by decide +kernel
theorem v_joined_0_0 : visB N_joined sc_joined 0 "one" = true := by decide +kernel
theorem g_joined_0_need_order : glB sc_joined "need_order" = true := by decide +kernel
theorem v_joined_0_1 : visB N_joined sc_joined 1 "other" = true := by decide +kernel
theorem g_joined_0_is_listing : glB sc_joined "is_listing" = true := by decide +kernel
theorem g_joined_0_len : glB sc_joined "len" = true := by decide +kernel
theorem v_joined_0_2 : visB N_joined sc_joined 2 "first" = true := by decide +kernel
theorem t_joined_1_3 : stB N_joined bc_joined_1 3 "place" = true := by decide +kernel
theorem v_joined_1_2 : visB N_joined rc_joined_1 2 "first" = true := by decide +kernel
theorem v_joined_1_3 : visB N_joined rc_joined_1 3 "place" = true := by decide +kernel
theorem b_joined_1 : blkC N_joined sc_joined bc_joined_1 [("place", 3)] = true := by decide +kernel
theorem g_joined_0_tuple : glB sc_joined "tuple" = true := by decide +kernel
theorem fs_joined : FnScope N_joined ["one", "other"] sc_joined := ⟨rfl, rfl, rfl, by decide +kernel, rfl, by decide +kernel, by decide +kernel⟩
def B_joined : Fs := (seqS (setS 2 (userF 1 F_need_order (consA (valF (varD 0)) nilA)))
  (seqS (ifS (andB (truF (valF (fixF (userF 1 F_is_listing (consA (valF (varD 1)) nilA))))) (binB neD (valF (fixF (callF lenD (consA (varR 1) nilA)))) (valF (fixF (callF lenD (consA (varR 2) nilA)))))) stuckS skipS)
  (retS (callF tupleD (consA (valF (fixF (compF (.nm 3) (seqF (fixF (userF 1 F_need_order (consA (valF (varD 1)) nilA)))) yesT (fixF (binF ixD (varR 2) (varR 3))) [3]))) nilA)))))
def F_joined : Fn := fun as => bodyF N_joined.length (["one", "other"] : List Str).length B_joined (id as)
/-! undone -/
abbrev s_undone : Stmt := top 31
abbrev sc_undone : Scope := defScope s_undone
def N_undone : List Str := ["order", "some", "runner"]
abbrev bc_undone_1 : Scope := { kind := .function, names := [(".0", .local), ("runner", .local), ("some", .free)], isGenerator := false, isCoroutine := false, more := [] }
abbrev rc_undone_1 : Scope := relS bc_undone_1 sc_undone
theorem t_undone_0_1 : stB N_undone sc_undone 1 "some" = true := by decide +kernel
theorem v_undone_0_0 : visB N_undone sc_undone 0 "order" = true := by decide +kernel
theorem g_undone_0_need_order : glB sc_undone "need_order" = true := by decide +kernel
theorem v_undone_0_1 : visB N_undone sc_undone 1 "some" = true := by decide +kernel
theorem g_undone_0_len : glB sc_undone "len" = true := by decide +kernel
theorem g_undone_0_range : glB sc_undone "range" = true := by decide +kernel
theorem t_undone_1_2 : stB N_undone bc_undone_1 2 "runner" = true := by decide +kernel
theorem v_undone_1_1 : visB N_undone rc_undone_1 1 "some" = true := by decide +kernel
theorem v_undone_1_2 : visB N_undone rc_undone_1 2 "runner" = true := by decide +kernel
theorem b_undone_1 : blkC N_undone sc_undone bc_undone_1 [("runner", 2)] = true := by decide +kernel
theorem g_undone_0_tuple : glB sc_undone "tuple" = true := by decide +kernel
theorem fs_undone : FnScope N_undone ["order"] sc_undone := ⟨rfl, rfl, rfl, by decide +kernel, rfl, by decide +kernel, by decide +kernel⟩
def B_undone : Fs := (seqS (setS 1 (userF 1 F_need_order (consA (valF (varD 0)) nilA)))
  (retS (callF tupleD (consA (valF (fixF (compF (.nm 2) (rngF rng1 (consA (valF (fixF (callF lenD (consA (varR 1) nilA)))) nilA)) yesT (idxF (varR 1) (varR 2)) [2]))) nilA))))
def F_undone : Fn := fun as => bodyF N_undone.length (["order"] : List Str).length B_undone (id as)
/-! _law_pick -/
abbrev s__law_pick : Stmt := top 41
abbrev sc__law_pick : Scope := defScope s__law_pick
def N__law_pick : List Str := ["_law_pen_here", "_law_some"]
theorem v__law_pick_0_1 : visB N__law_pick sc__law_pick 1 "_law_some" = true := by decide +kernel
theorem v__law_pick_0_0 : visB N__law_pick sc__law_pick 0 "_law_pen_here" = true := by decide +kernel
theorem g__law_pick_0_len : glB sc__law_pick "len" = true := by decide +kernel
theorem g__law_pick_0__law_draw : glB sc__law_pick "_law_draw" = true := by decide +kernel
theorem fs__law_pick : FnScope N__law_pick ["_law_pen_here", "_law_some"] sc__law_pick := ⟨rfl, rfl, rfl, by decide +kernel, rfl, by decide +kernel, by decide +kernel⟩
def B__law_pick : Fs := (retS (binF ixD (varR 1) (valF (fixF (userF 2 F__law_draw (consA (varR 0) (consA (valF (fixF (callF lenD (consA (varR 1) nilA)))) nilA)))))))
def F__law_pick : Fn := fun as => bodyF N__law_pick.length (["_law_pen_here", "_law_some"] : List Str).length B__law_pick (id as)
/-! _law_names -/
abbrev s__law_names : Stmt := top 42
abbrev sc__law_names : Scope := defScope s__law_names
def N__law_names : List Str := ["_law_pen_here", "_law_many", "_law_letters", "_law_k", "_law_stem", "_law_at", "_law_begin", "_law_trim", "_law_step", "_law_found", "_law_tail"]
abbrev bc__law_names_1 : Scope := { kind := .function, names := [(".0", .local), ("_law_k", .local), ("_law_pick", .globalImplicit), ("_law_letters", .free), ("_law_pen_here", .free)], isGenerator := false, isCoroutine := false, more := [] }
abbrev rc__law_names_1 : Scope := relS bc__law_names_1 sc__law_names
theorem t__law_names_0_2 : stB N__law_names sc__law_names 2 "_law_letters" = true := by decide +kernel
theorem t__law_names_0_4 : stB N__law_names sc__law_names 4 "_law_stem" = true := by decide +kernel
theorem v__law_names_0_0 : visB N__law_names sc__law_names 0 "_law_pen_here" = true := by decide +kernel
theorem g__law_names_0__law_draw : glB sc__law_names "_law_draw" = true := by decide +kernel
theorem g__law_names_0_range : glB sc__law_names "range" = true := by decide +kernel
theorem t__law_names_1_3 : stB N__law_names bc__law_names_1 3 "_law_k" = true := by decide +kernel
theorem v__law_names_1_0 : visB N__law_names rc__law_names_1 0 "_law_pen_here" = true := by decide +kernel
theorem v__law_names_1_2 : visB N__law_names rc__law_names_1 2 "_law_letters" = true := by decide +kernel
theorem g__law_names_1__law_pick : glB rc__law_names_1 "_law_pick" = true := by decide +kernel
theorem b__law_names_1 : blkC N__law_names sc__law_names bc__law_names_1 [("_law_k", 3)] = true := by decide +kernel
theorem v__law_names_0_4 : visB N__law_names sc__law_names 4 "_law_stem" = true := by decide +kernel
theorem g__law_names_0_len : glB sc__law_names "len" = true := by decide +kernel
theorem l__law_names_0_5 : locB N__law_names sc__law_names 5 "_law_at" = true := by decide +kernel
theorem l__law_names_0_6 : locB N__law_names sc__law_names 6 "_law_begin" = true := by decide +kernel
theorem l__law_names_0_7 : locB N__law_names sc__law_names 7 "_law_trim" = true := by decide +kernel
theorem g__law_names_0__law_pick : glB sc__law_names "_law_pick" = true := by decide +kernel
theorem l__law_names_0_8 : locB N__law_names sc__law_names 8 "_law_step" = true := by decide +kernel
theorem l__law_names_0_9 : locB N__law_names sc__law_names 9 "_law_found" = true := by decide +kernel
theorem v__law_names_0_1 : visB N__law_names sc__law_names 1 "_law_many" = true := by decide +kernel
theorem t__law_names_0_3 : stB N__law_names sc__law_names 3 "_law_k" = true := by decide +kernel
theorem t__law_names_0_10 : stB N__law_names sc__law_names 10 "_law_tail" = true := by decide +kernel
theorem v__law_names_0_7 : visB N__law_names sc__law_names 7 "_law_trim" = true := by decide +kernel
theorem v__law_names_0_5 : visB N__law_names sc__law_names 5 "_law_at" = true := by decide +kernel
theorem v__law_names_0_3 : visB N__law_names sc__law_names 3 "_law_k" = true := by decide +kernel
theorem v__law_names_0_9 : visB N__law_names sc__law_names 9 "_law_found" = true := by decide +kernel
theorem v__law_names_0_2 : visB N__law_names sc__law_names 2 "_law_letters" = true := by decide +kernel
theorem v__law_names_0_6 : visB N__law_names sc__law_names 6 "_law_begin" = true := by decide +kernel
theorem v__law_names_0_8 : visB N__law_names sc__law_names 8 "_law_step" = true := by decide +kernel
theorem v__law_names_0_10 : visB N__law_names sc__law_names 10 "_law_tail" = true := by decide +kernel
theorem fs__law_names : FnScope N__law_names ["_law_pen_here", "_law_many"] sc__law_names := ⟨rfl, rfl, rfl, by decide +kernel, rfl, by decide +kernel, by decide +kernel⟩
def B__law_names : Fs := (seqS (setS 2 (immF (constF (.str "abcdefghijklmnopqrstuvwxyz"))))
  (seqS (setS 4 (joinF (constF (.str "")) (fixF (compF (.nm 3) (rngF rng1 (consA (valF (fixF (binF addD (valF (constF (.int 1))) (valF (fixF (userF 2 F__law_draw (consA (varR 0) (consA (valF (constF (.int 8))) nilA)))))))) nilA)) yesT (fixF (userF 2 F__law_pick (consA (varR 0) (consA (valF (varD 2)) nilA)))) [3]))))
  (seqS (parS [5, 6, 7] (consX (userF 2 F__law_draw (consA (varR 0) (consA (valF (fixF (callF lenD (consA (varR 4) nilA)))) nilA))) (consX (userF 2 F__law_draw (consA (varR 0) (consA (valF (constF (.int 26))) nilA))) (consX (userF 2 F__law_draw (consA (varR 0) (consA (valF (constF (.int 2))) nilA))) nilX))))
  (seqS (parS [8, 9] (consX (userF 2 F__law_pick (consA (varR 0) (consA (valF (fixF (lstF (consL (constF (.int 1)) (consL (constF (.int 3)) (consL (constF (.int 5)) (consL (constF (.int 7)) (consL (constF (.int 9)) (consL (constF (.int 11)) (consL (constF (.int 15)) (consL (constF (.int 17)) (consL (constF (.int 19)) (consL (constF (.int 21)) (consL (constF (.int 23)) (consL (constF (.int 25)) nilL))))))))))))))) nilA))) (consX (lstF nilL) nilX)))
  (seqS (forS (.nm 3) (rngF rng1 (consA (varR 1) nilA)) ((seqS (setS 10 (iteF (binB eqD (varR 7) (valF (constF (.int 0)))) (slF (varR 4) (someO (fixF (binF addD (varR 5) (valF (constF (.int 1)))))) noneO) (slF (valF (fixF (slF (varR 4) (someO (fixF (binF addD (varR 5) (valF (constF (.int 1)))))) noneO))) noneO (someO (fixF (binF (intOp modI) (varR 3) (valF (constF (.int 3)))))))))
  (dropS (mutF appendG (varR 9) (consL (fixF (binF addD (valF (fixF (binF addD (valF (fixF (slF (varR 4) noneO (someO (varD 5))))) (valF (fixF (binF ixD (varR 2) (valF (fixF (binF (intOp modI) (valF (fixF (binF addD (varR 6) (valF (fixF (binF mulD' (varR 8) (varR 3))))))) (valF (constF (.int 26)))))))))))) (varR 10))) nilL))))))
  (retVar 9))))))
def F__law_names : Fn := fun as => bodyF N__law_names.length (["_law_pen_here", "_law_many"] : List Str).length B__law_names (id as)
/-! is_name -/
abbrev s_is_name : Stmt := top 7
abbrev sc_is_name : Scope := defScope s_is_name
def N_is_name : List Str := ["thing", "sign"]
abbrev bc_is_name_1 : Scope := { kind := .function, names := [(".0", .local), ("sign", .local), ("LETTERS", .globalImplicit)], isGenerator := false, isCoroutine := false, more := [] }
abbrev rc_is_name_1 : Scope := relS bc_is_name_1 sc_is_name
theorem v_is_name_0_0 : visB N_is_name sc_is_name 0 "thing" = true := by decide +kernel
theorem g_is_name_0_isinstance : glB sc_is_name "isinstance" = true := by decide +kernel
theorem g_is_name_0_str : glB sc_is_name "str" = true := by decide +kernel
theorem g_is_name_0_len : glB sc_is_name "len" = true := by decide +kernel
theorem g_is_name_0_MOST_LETTERS : glB sc_is_name "MOST_LETTERS" = true := by decide +kernel
theorem t_is_name_1_1 : stB N_is_name bc_is_name_1 1 "sign" = true := by decide +kernel
theorem v_is_name_1_1 : visB N_is_name rc_is_name_1 1 "sign" = true := by decide +kernel
theorem g_is_name_1_LETTERS : glB rc_is_name_1 "LETTERS" = true := by decide +kernel
theorem b_is_name_1 : blkC N_is_name sc_is_name bc_is_name_1 [("sign", 1)] = true := by decide +kernel
theorem g_is_name_0_all : glB sc_is_name "all" = true := by decide +kernel
theorem fs_is_name : FnScope N_is_name ["thing"] sc_is_name := ⟨rfl, rfl, rfl, by decide +kernel, rfl, by decide +kernel, by decide +kernel⟩
def B_is_name : Fs := (retS (immF (andD (isiF "str" (varR 0)) (andD (boolF (chainB (cmpI fun i j => decide (i < j)) (cmpI fun i j => decide (i ≤ j)) (valF (constF (.int 0))) (valF (fixF (callF lenD (consA (varR 0) nilA)))) (valF (constF (.int 8))))) (fixF (callF allLD (consA (valF (fixF (compF (.nm 1) (seqF (varD 0)) yesT (boolF (binB inD (varR 1) (valF (constF (.str "abcdefghijklmnopqrstuvwxyz"))))) [1]))) nilA)))))))
def F_is_name : Fn := fun as => bodyF N_is_name.length (["thing"] : List Str).length B_is_name (id as)
/-! are_marks -/
abbrev s_are_marks : Stmt := top 34
abbrev sc_are_marks : Scope := defScope s_are_marks
def N_are_marks : List Str := ["thing", "mark"]
abbrev bc_are_marks_1 : Scope := { kind := .function, names := [(".0", .local), ("mark", .local), ("is_name", .globalImplicit)], isGenerator := false, isCoroutine := false, more := [] }
abbrev rc_are_marks_1 : Scope := relS bc_are_marks_1 sc_are_marks
theorem v_are_marks_0_0 : visB N_are_marks sc_are_marks 0 "thing" = true := by decide +kernel
theorem g_are_marks_0_is_listing : glB sc_are_marks "is_listing" = true := by decide +kernel
theorem g_are_marks_0_len : glB sc_are_marks "len" = true := by decide +kernel
theorem g_are_marks_0_MOST_MARKS : glB sc_are_marks "MOST_MARKS" = true := by decide +kernel
theorem t_are_marks_1_1 : stB N_are_marks bc_are_marks_1 1 "mark" = true := by decide +kernel
theorem v_are_marks_1_1 : visB N_are_marks rc_are_marks_1 1 "mark" = true := by decide +kernel
theorem g_are_marks_1_is_name : glB rc_are_marks_1 "is_name" = true := by decide +kernel
theorem b_are_marks_1 : blkC N_are_marks sc_are_marks bc_are_marks_1 [("mark", 1)] = true := by decide +kernel
theorem g_are_marks_0_all : glB sc_are_marks "all" = true := by decide +kernel
theorem g_are_marks_0_set : glB sc_are_marks "set" = true := by decide +kernel
theorem fs_are_marks : FnScope N_are_marks ["thing"] sc_are_marks := ⟨rfl, rfl, rfl, by decide +kernel, rfl, by decide +kernel, by decide +kernel⟩
def B_are_marks : Fs := (seqS (ifS (orB (notB (truF (valF (fixF (userF 1 F_is_listing (consA (valF (varD 0)) nilA)))))) (orB (notB (chainB (cmpI fun i j => decide (i ≤ j)) (cmpI fun i j => decide (i ≤ j)) (valF (constF (.int 1))) (valF (fixF (callF lenD (consA (varR 0) nilA)))) (valF (constF (.int 6))))) (notB (truF (valF (fixF (callF allLD (consA (valF (fixF (compF (.nm 1) (seqF (varD 0)) yesT (fixF (userF 1 F_is_name (consA (valF (varD 1)) nilA))) [1]))) nilA)))))))) (retS (immF (constF (.bl false)))) skipS)
  (retS (immF (boolF (binB eqD (valF (fixF (lenSetF (varD 0)))) (valF (fixF (callF lenD (consA (varR 0) nilA)))))))))
def F_are_marks : Fn := fun as => bodyF N_are_marks.length (["thing"] : List Str).length B_are_marks (id as)
/-! is_pair_of -/
abbrev s_is_pair_of : Stmt := top 35
abbrev sc_is_pair_of : Scope := defScope s_is_pair_of
def N_is_pair_of : List Str := ["marks", "thing", "mark"]
abbrev bc_is_pair_of_1 : Scope := { kind := .function, names := [(".0", .local), ("mark", .local), ("isinstance", .globalImplicit), ("str", .globalImplicit), ("marks", .free)], isGenerator := false, isCoroutine := false, more := [] }
abbrev rc_is_pair_of_1 : Scope := relS bc_is_pair_of_1 sc_is_pair_of
theorem v_is_pair_of_0_1 : visB N_is_pair_of sc_is_pair_of 1 "thing" = true := by decide +kernel
theorem g_is_pair_of_0_is_listing : glB sc_is_pair_of "is_listing" = true := by decide +kernel
theorem g_is_pair_of_0_len : glB sc_is_pair_of "len" = true := by decide +kernel
theorem t_is_pair_of_1_2 : stB N_is_pair_of bc_is_pair_of_1 2 "mark" = true := by decide +kernel
theorem v_is_pair_of_1_2 : visB N_is_pair_of rc_is_pair_of_1 2 "mark" = true := by decide +kernel
theorem g_is_pair_of_1_isinstance : glB rc_is_pair_of_1 "isinstance" = true := by decide +kernel
theorem g_is_pair_of_1_str : glB rc_is_pair_of_1 "str" = true := by decide +kernel
theorem v_is_pair_of_1_0 : visB N_is_pair_of rc_is_pair_of_1 0 "marks" = true := by decide +kernel
theorem b_is_pair_of_1 : blkC N_is_pair_of sc_is_pair_of bc_is_pair_of_1 [("mark", 2)] = true := by decide +kernel
theorem g_is_pair_of_0_all : glB sc_is_pair_of "all" = true := by decide +kernel
theorem fs_is_pair_of : FnScope N_is_pair_of ["marks", "thing"] sc_is_pair_of := ⟨rfl, rfl, rfl, by decide +kernel, rfl, by decide +kernel, by decide +kernel⟩
def B_is_pair_of : Fs := (seqS (ifS (orB (notB (truF (valF (fixF (userF 1 F_is_listing (consA (valF (varD 1)) nilA)))))) (binB neD (valF (fixF (callF lenD (consA (varR 1) nilA)))) (valF (constF (.int 2))))) (retS (immF (constF (.bl false)))) skipS)
  (retS (callF allLD (consA (valF (fixF (compF (.nm 2) (seqF (varD 1)) yesT (andD (isiF "str" (varR 2)) (boolF (binB inD (varR 2) (varR 0)))) [2]))) nilA))))
def F_is_pair_of : Fn := fun as => bodyF N_is_pair_of.length (["marks", "thing"] : List Str).length B_is_pair_of (id as)
/-! are_pairs -/
abbrev s_are_pairs : Stmt := top 36
abbrev sc_are_pairs : Scope := defScope s_are_pairs
def N_are_pairs : List Str := ["marks", "thing", "line", "pair"]
abbrev bc_are_pairs_1 : Scope := { kind := .function, names := [(".0", .local), ("line", .local), ("is_listing", .globalImplicit), ("len", .globalImplicit), ("marks", .free)], isGenerator := false, isCoroutine := false, more := [] }
abbrev rc_are_pairs_1 : Scope := relS bc_are_pairs_1 sc_are_pairs
abbrev bc_are_pairs_2 : Scope := { kind := .function, names := [(".0", .local), ("line", .local), ("pair", .local), ("is_pair_of", .globalImplicit), ("marks", .free)], isGenerator := false, isCoroutine := false, more := [] }
abbrev rc_are_pairs_2 : Scope := relS bc_are_pairs_2 sc_are_pairs
theorem v_are_pairs_0_1 : visB N_are_pairs sc_are_pairs 1 "thing" = true := by decide +kernel
theorem g_are_pairs_0_is_listing : glB sc_are_pairs "is_listing" = true := by decide +kernel
theorem g_are_pairs_0_len : glB sc_are_pairs "len" = true := by decide +kernel
theorem v_are_pairs_0_0 : visB N_are_pairs sc_are_pairs 0 "marks" = true := by decide +kernel
theorem t_are_pairs_1_2 : stB N_are_pairs bc_are_pairs_1 2 "line" = true := by decide +kernel
theorem v_are_pairs_1_2 : visB N_are_pairs rc_are_pairs_1 2 "line" = true := by decide +kernel
theorem g_are_pairs_1_is_listing : glB rc_are_pairs_1 "is_listing" = true := by decide +kernel
theorem g_are_pairs_1_len : glB rc_are_pairs_1 "len" = true := by decide +kernel
theorem v_are_pairs_1_0 : visB N_are_pairs rc_are_pairs_1 0 "marks" = true := by decide +kernel
theorem b_are_pairs_1 : blkC N_are_pairs sc_are_pairs bc_are_pairs_1 [("line", 2)] = true := by decide +kernel
theorem g_are_pairs_0_all : glB sc_are_pairs "all" = true := by decide +kernel
theorem t_are_pairs_2_2 : stB N_are_pairs bc_are_pairs_2 2 "line" = true := by decide +kernel
theorem v_are_pairs_2_2 : visB N_are_pairs rc_are_pairs_2 2 "line" = true := by decide +kernel
theorem t_are_pairs_2_3 : stB N_are_pairs bc_are_pairs_2 3 "pair" = true := by decide +kernel
theorem v_are_pairs_2_0 : visB N_are_pairs rc_are_pairs_2 0 "marks" = true := by decide +kernel
theorem v_are_pairs_2_3 : visB N_are_pairs rc_are_pairs_2 3 "pair" = true := by decide +kernel
theorem g_are_pairs_2_is_pair_of : glB rc_are_pairs_2 "is_pair_of" = true := by decide +kernel
theorem b_are_pairs_2 : blkC N_are_pairs sc_are_pairs bc_are_pairs_2 [("line", 2), ("pair", 3)] = true := by decide +kernel
theorem fs_are_pairs : FnScope N_are_pairs ["marks", "thing"] sc_are_pairs := ⟨rfl, rfl, rfl, by decide +kernel, rfl, by decide +kernel, by decide +kernel⟩
def B_are_pairs : Fs := (seqS (ifS (orB (notB (truF (valF (fixF (userF 1 F_is_listing (consA (valF (varD 1)) nilA)))))) (binB neD (valF (fixF (callF lenD (consA (varR 1) nilA)))) (valF (fixF (callF lenD (consA (varR 0) nilA)))))) (retS (immF (constF (.bl false)))) skipS)
  (seqS (ifS (notB (truF (valF (fixF (callF allLD (consA (valF (fixF (compF (.nm 2) (seqF (varD 1)) yesT (andD (fixF (userF 1 F_is_listing (consA (valF (varD 2)) nilA))) (boolF (binB eqD (valF (fixF (callF lenD (consA (varR 2) nilA)))) (valF (fixF (callF lenD (consA (varR 0) nilA))))))) [2]))) nilA)))))) (retS (immF (constF (.bl false)))) skipS)
  (retS (callF allLD (consA (valF (fixF (comp2F (.nm 2) (seqF (varD 1)) yesT (seqF (varD 2)) (.nm 3) yesT (fixF (userF 2 F_is_pair_of (consA (valF (varD 0)) (consA (valF (varD 3)) nilA)))) [2, 3] [3]))) nilA)))))
def F_are_pairs : Fn := fun as => bodyF N_are_pairs.length (["marks", "thing"] : List Str).length B_are_pairs (id as)
/-! Table___init__ -/
abbrev s_Table___init__ : Stmt := inClass (top 37) 0
abbrev sc_Table___init__ : Scope := defScope s_Table___init__
def N_Table___init__ : List Str := ["self", "marks", "pairs", "one", "line", "other", "pair"]
theorem v_Table___init___0_1 : visB N_Table___init__ sc_Table___init__ 1 "marks" = true := by decide +kernel
theorem g_Table___init___0_are_marks : glB sc_Table___init__ "are_marks" = true := by decide +kernel
theorem g_Table___init___0_tuple : glB sc_Table___init__ "tuple" = true := by decide +kernel
theorem v_Table___init___0_0 : visB N_Table___init__ sc_Table___init__ 0 "self" = true := by decide +kernel
theorem v_Table___init___0_2 : visB N_Table___init__ sc_Table___init__ 2 "pairs" = true := by decide +kernel
theorem g_Table___init___0_are_pairs : glB sc_Table___init__ "are_pairs" = true := by decide +kernel
theorem v_Table___init___0_4 : visB N_Table___init__ sc_Table___init__ 4 "line" = true := by decide +kernel
theorem v_Table___init___0_6 : visB N_Table___init__ sc_Table___init__ 6 "pair" = true := by decide +kernel
theorem v_Table___init___0_3 : visB N_Table___init__ sc_Table___init__ 3 "one" = true := by decide +kernel
theorem v_Table___init___0_5 : visB N_Table___init__ sc_Table___init__ 5 "other" = true := by decide +kernel
theorem t_Table___init___0_3 : stB N_Table___init__ sc_Table___init__ 3 "one" = true := by decide +kernel
theorem t_Table___init___0_4 : stB N_Table___init__ sc_Table___init__ 4 "line" = true := by decide +kernel
theorem t_Table___init___0_5 : stB N_Table___init__ sc_Table___init__ 5 "other" = true := by decide +kernel
theorem t_Table___init___0_6 : stB N_Table___init__ sc_Table___init__ 6 "pair" = true := by decide +kernel
theorem g_Table___init___0_zip : glB sc_Table___init__ "zip" = true := by decide +kernel
theorem fs_Table___init__ : FnScope N_Table___init__ ["self", "marks", "pairs"] sc_Table___init__ := ⟨rfl, rfl, rfl, by decide +kernel, rfl, by decide +kernel, by decide +kernel⟩
def B_Table___init__ : Fs := (seqS (ifS (notB (truF (valF (fixF (userF 1 F_are_marks (consA (valF (varD 1)) nilA)))))) stuckS skipS)
  (seqS (fldS (flP flL) "own_marks" (fixF (callF tupleD (consA (varR 1) nilA))) (varR 0))
  (seqS (ifS (notB (truF (valF (fixF (userF 2 F_are_pairs (consA (valF (fixF (fldF (flP flL) "own_marks" (varR 0)))) (consA (valF (varD 2)) nilA))))))) stuckS skipS)
  (knownS (flP flL) "own_marks" "known" (.tp [(.nm 3), (.nm 4)]) (.tp [(.nm 5), (.nm 6)]) (varD 2) (varD 4) (fixF (callF tupleD (consA (varR 6) nilA))) (consL (varD 3) (consL (varD 5) nilL))))))
def F_Table___init__ : Fn := fun as => bodyF N_Table___init__.length (["self", "marks", "pairs"] : List Str).length B_Table___init__ (id as)
/-! Table_has -/
abbrev s_Table_has : Stmt := inClass (top 37) 4
abbrev sc_Table_has : Scope := defScope s_Table_has
def N_Table_has : List Str := ["self", "thing"]
theorem v_Table_has_0_1 : visB N_Table_has sc_Table_has 1 "thing" = true := by decide +kernel
theorem g_Table_has_0_isinstance : glB sc_Table_has "isinstance" = true := by decide +kernel
theorem g_Table_has_0_str : glB sc_Table_has "str" = true := by decide +kernel
theorem v_Table_has_0_0 : visB N_Table_has sc_Table_has 0 "self" = true := by decide +kernel
theorem fs_Table_has : FnScope N_Table_has ["self", "thing"] sc_Table_has := ⟨rfl, rfl, rfl, by decide +kernel, rfl, by decide +kernel, by decide +kernel⟩
def B_Table_has : Fs := (retS (immF (andD (isiF "str" (varR 1)) (boolF (binB inD (varR 1) (valF (fixF (fldF (flP flL) "own_marks" (varR 0)))))))))
def F_Table_has : Fn := fun as => bodyF N_Table_has.length (["self", "thing"] : List Str).length B_Table_has (id as)
/-! row_fault -/
abbrev s_row_fault : Stmt := top 18
abbrev sc_row_fault : Scope := defScope s_row_fault
def N_row_fault : List Str := ["table", "thing", "at", "mark"]
theorem v_row_fault_0_1 : visB N_row_fault sc_row_fault 1 "thing" = true := by decide +kernel
theorem g_row_fault_0_is_listing : glB sc_row_fault "is_listing" = true := by decide +kernel
theorem g_row_fault_0_len : glB sc_row_fault "len" = true := by decide +kernel
theorem g_row_fault_0_PLACES : glB sc_row_fault "PLACES" = true := by decide +kernel
theorem g_row_fault_0_enumerate : glB sc_row_fault "enumerate" = true := by decide +kernel
theorem t_row_fault_0_2 : stB N_row_fault sc_row_fault 2 "at" = true := by decide +kernel
theorem t_row_fault_0_3 : stB N_row_fault sc_row_fault 3 "mark" = true := by decide +kernel
theorem v_row_fault_0_0 : visB N_row_fault sc_row_fault 0 "table" = true := by decide +kernel
theorem v_row_fault_0_3 : visB N_row_fault sc_row_fault 3 "mark" = true := by decide +kernel
theorem v_row_fault_0_2 : visB N_row_fault sc_row_fault 2 "at" = true := by decide +kernel
theorem fs_row_fault : FnScope N_row_fault ["table", "thing"] sc_row_fault := ⟨rfl, rfl, rfl, by decide +kernel, rfl, by decide +kernel, by decide +kernel⟩
def B_row_fault : Fs := (seqS (ifS (orB (notB (truF (valF (fixF (userF 1 F_is_listing (consA (valF (varD 1)) nilA)))))) (notB (chainB (cmpI fun i j => decide (i ≤ j)) (cmpI fun i j => decide (i ≤ j)) (valF (constF (.int 1))) (valF (fixF (callF lenD (consA (varR 1) nilA)))) (valF (constF (.int 60)))))) (retS (immF (constF (.int (-1))))) skipS)
  (seqS (forS (.tp [(.nm 2), (.nm 3)]) (enumF (consL (varD 1) nilL)) ((ifS (notB (truF (valF (fixF (methF "Table" "has" 1 F_Table_has (varD 0) (consA (valF (varD 3)) nilA)))))) (retVar 2) skipS)))
  (retS (immF (constF .non)))))
def F_row_fault : Fn := fun as => bodyF N_row_fault.length (["table", "thing"] : List Str).length B_row_fault (id as)
/-! need_row -/
abbrev s_need_row : Stmt := top 19
abbrev sc_need_row : Scope := defScope s_need_row
def N_need_row : List Str := ["table", "row", "fault"]
theorem t_need_row_0_2 : stB N_need_row sc_need_row 2 "fault" = true := by decide +kernel
theorem v_need_row_0_0 : visB N_need_row sc_need_row 0 "table" = true := by decide +kernel
theorem v_need_row_0_1 : visB N_need_row sc_need_row 1 "row" = true := by decide +kernel
theorem g_need_row_0_row_fault : glB sc_need_row "row_fault" = true := by decide +kernel
theorem v_need_row_0_2 : visB N_need_row sc_need_row 2 "fault" = true := by decide +kernel
theorem g_need_row_0_tuple : glB sc_need_row "tuple" = true := by decide +kernel
theorem fs_need_row : FnScope N_need_row ["table", "row"] sc_need_row := ⟨rfl, rfl, rfl, by decide +kernel, rfl, by decide +kernel, by decide +kernel⟩
def B_need_row : Fs := (seqS (setS 2 (userF 2 F_row_fault (consA (valF (varD 0)) (consA (valF (varD 1)) nilA))))
  (seqS (ifS (binB isNotD (varR 2) (valF (constF .non))) stuckS skipS)
  (retS (callF tupleD (consA (varR 1) nilA)))))
def F_need_row : Fn := fun as => bodyF N_need_row.length (["table", "row"] : List Str).length B_need_row (id as)
/-! Table_need_mark -/
abbrev s_Table_need_mark : Stmt := inClass (top 37) 5
abbrev sc_Table_need_mark : Scope := defScope s_Table_need_mark
def N_Table_need_mark : List Str := ["self", "thing"]
theorem v_Table_need_mark_0_0 : visB N_Table_need_mark sc_Table_need_mark 0 "self" = true := by decide +kernel
theorem v_Table_need_mark_0_1 : visB N_Table_need_mark sc_Table_need_mark 1 "thing" = true := by decide +kernel
theorem fs_Table_need_mark : FnScope N_Table_need_mark ["self", "thing"] sc_Table_need_mark := ⟨rfl, rfl, rfl, by decide +kernel, rfl, by decide +kernel, by decide +kernel⟩
def B_Table_need_mark : Fs := (ifS (notB (truF (valF (fixF (methF "Table" "has" 1 F_Table_has (varD 0) (consA (valF (varD 1)) nilA)))))) stuckS skipS)
def F_Table_need_mark : Fn := fun as => bodyF N_Table_need_mark.length (["self", "thing"] : List Str).length B_Table_need_mark (id as)
/-! Table_passed -/
abbrev s_Table_passed : Stmt := inClass (top 37) 6
abbrev sc_Table_passed : Scope := defScope s_Table_passed
def N_Table_passed : List Str := ["self", "one", "other"]
theorem v_Table_passed_0_0 : visB N_Table_passed sc_Table_passed 0 "self" = true := by decide +kernel
theorem v_Table_passed_0_1 : visB N_Table_passed sc_Table_passed 1 "one" = true := by decide +kernel
theorem v_Table_passed_0_2 : visB N_Table_passed sc_Table_passed 2 "other" = true := by decide +kernel
theorem fs_Table_passed : FnScope N_Table_passed ["self", "one", "other"] sc_Table_passed := ⟨rfl, rfl, rfl, by decide +kernel, rfl, by decide +kernel, by decide +kernel⟩
def B_Table_passed : Fs := (seqS (dropS (methF "Table" "need_mark" 1 F_Table_need_mark (varD 0) (consA (valF (varD 1)) nilA)))
  (seqS (dropS (methF "Table" "need_mark" 1 F_Table_need_mark (varD 0) (consA (valF (varD 2)) nilA)))
  (retS (binF ixD (valF (fixF (fldF (flP flL) "known" (varR 0)))) (valF (fixF (tupF (consL (varD 1) (consL (varD 2) nilL)))))))))
def F_Table_passed : Fn := fun as => bodyF N_Table_passed.length (["self", "one", "other"] : List Str).length B_Table_passed (id as)
/-! pass_at -/
abbrev s_pass_at : Stmt := top 22
abbrev sc_pass_at : Scope := defScope s_pass_at
def N_pass_at : List Str := ["table", "row", "place"]
theorem v_pass_at_0_1 : visB N_pass_at sc_pass_at 1 "row" = true := by decide +kernel
theorem v_pass_at_0_2 : visB N_pass_at sc_pass_at 2 "place" = true := by decide +kernel
theorem v_pass_at_0_0 : visB N_pass_at sc_pass_at 0 "table" = true := by decide +kernel
theorem fs_pass_at : FnScope N_pass_at ["table", "row", "place"] sc_pass_at := ⟨rfl, rfl, rfl, by decide +kernel, rfl, by decide +kernel, by decide +kernel⟩
def B_pass_at : Fs := (retS (binF addD (valF (fixF (binF addD (valF (fixF (slF (varR 1) noneO (someO (varD 2))))) (valF (fixF (methF "Table" "passed" 2 F_Table_passed (varD 0) (consA (valF (fixF (binF ixD (varR 1) (varR 2)))) (consA (valF (fixF (binF ixD (varR 1) (valF (fixF (binF addD (varR 2) (valF (constF (.int 1))))))))) nilA)))))))) (valF (fixF (slF (varR 1) (someO (fixF (binF addD (varR 2) (valF (constF (.int 2)))))) noneO)))))
def F_pass_at : Fn := fun as => bodyF N_pass_at.length (["table", "row", "place"] : List Str).length B_pass_at (id as)
/-! row_behind -/
abbrev s_row_behind : Stmt := top 23
abbrev sc_row_behind : Scope := defScope s_row_behind
def N_row_behind : List Str := ["table", "row", "word", "found", "place"]
theorem t_row_behind_0_3 : stB N_row_behind sc_row_behind 3 "found" = true := by decide +kernel
theorem v_row_behind_0_0 : visB N_row_behind sc_row_behind 0 "table" = true := by decide +kernel
theorem v_row_behind_0_1 : visB N_row_behind sc_row_behind 1 "row" = true := by decide +kernel
theorem g_row_behind_0_need_row : glB sc_row_behind "need_row" = true := by decide +kernel
theorem v_row_behind_0_3 : visB N_row_behind sc_row_behind 3 "found" = true := by decide +kernel
theorem g_row_behind_0_len : glB sc_row_behind "len" = true := by decide +kernel
theorem v_row_behind_0_2 : visB N_row_behind sc_row_behind 2 "word" = true := by decide +kernel
theorem g_row_behind_0_need_word : glB sc_row_behind "need_word" = true := by decide +kernel
theorem t_row_behind_0_4 : stB N_row_behind sc_row_behind 4 "place" = true := by decide +kernel
theorem v_row_behind_0_4 : visB N_row_behind sc_row_behind 4 "place" = true := by decide +kernel
theorem g_row_behind_0_pass_at : glB sc_row_behind "pass_at" = true := by decide +kernel
theorem fs_row_behind : FnScope N_row_behind ["table", "row", "word"] sc_row_behind := ⟨rfl, rfl, rfl, by decide +kernel, rfl, by decide +kernel, by decide +kernel⟩
def B_row_behind : Fs := (seqS (setS 3 (userF 2 F_need_row (consA (valF (varD 0)) (consA (valF (varD 1)) nilA))))
  (seqS (forS (.nm 4) (seqF (fixF (userF 2 F_need_word (consA (valF (fixF (callF lenD (consA (varR 3) nilA)))) (consA (valF (varD 2)) nilA))))) ((setS 3 (userF 3 F_pass_at (consA (valF (varD 0)) (consA (valF (varD 3)) (consA (valF (varD 4)) nilA)))))))
  (retVar 3)))
def F_row_behind : Fn := fun as => bodyF N_row_behind.length (["table", "row", "word"] : List Str).length B_row_behind (id as)
/-! law -/
abbrev s_law : Stmt := top 44
abbrev sc_law : Scope := defScope s_law
def N_law : List Str := ["_law_script", "_law_pen_here", "_law_turn", "_law_places", "_law_words", "_law_one", "_law_two", "_law_three", "_law_begun", "_law_marks", "_law_table", "_law_line", "_law_k", "_law_word_here", "_law_mark", "_law_other", "_law_runner"]
abbrev bc_law_1 : Scope := { kind := .function, names := [(".0", .local), ("_law_k", .local), ("_law_word", .globalImplicit), ("_law_pen_here", .free), ("_law_places", .free)], isGenerator := false, isCoroutine := false, more := [] }
abbrev rc_law_1 : Scope := relS bc_law_1 sc_law
abbrev bc_law_2 : Scope := { kind := .function, names := [(".0", .local), ("_law_word_here", .local), ("order_of", .globalImplicit), ("_law_places", .free)], isGenerator := false, isCoroutine := false, more := [] }
abbrev rc_law_2 : Scope := relS bc_law_2 sc_law
abbrev bc_law_3 : Scope := { kind := .function, names := [(".0", .local), ("_law_mark", .cell), ("_law_marks", .free)], isGenerator := false, isCoroutine := false, more := [] }
abbrev rc_law_3 : Scope := relS bc_law_3 sc_law
abbrev bc_law_4 : Scope := { kind := .function, names := [(".0", .local), ("_law_other", .local), ("_law_mark", .free)], isGenerator := false, isCoroutine := false, more := [] }
abbrev rc_law_4 : Scope := relS bc_law_4 rc_law_3
abbrev bc_law_5 : Scope := { kind := .function, names := [(".0", .local), ("_law_k", .local), ("_law_pick", .globalImplicit), ("_law_marks", .free), ("_law_pen_here", .free)], isGenerator := false, isCoroutine := false, more := [] }
abbrev rc_law_5 : Scope := relS bc_law_5 sc_law
abbrev bc_law_6 : Scope := { kind := .function, names := [(".0", .local), ("_law_runner", .local), ("_law_line", .free)], isGenerator := false, isCoroutine := false, more := [] }
abbrev rc_law_6 : Scope := relS bc_law_6 sc_law
abbrev bc_law_7 : Scope := { kind := .function, names := [(".0", .local), ("_law_k", .local), ("_law_line", .free)], isGenerator := false, isCoroutine := false, more := [] }
abbrev rc_law_7 : Scope := relS bc_law_7 sc_law
theorem t_law_0_1 : stB N_law sc_law 1 "_law_pen_here" = true := by decide +kernel
theorem v_law_0_0 : visB N_law sc_law 0 "_law_script" = true := by decide +kernel
theorem g_law_0__law_pen : glB sc_law "_law_pen" = true := by decide +kernel
theorem g_law_0_range : glB sc_law "range" = true := by decide +kernel
theorem t_law_0_2 : stB N_law sc_law 2 "_law_turn" = true := by decide +kernel
theorem t_law_0_3 : stB N_law sc_law 3 "_law_places" = true := by decide +kernel
theorem v_law_0_1 : visB N_law sc_law 1 "_law_pen_here" = true := by decide +kernel
theorem g_law_0__law_draw : glB sc_law "_law_draw" = true := by decide +kernel
theorem t_law_1_12 : stB N_law bc_law_1 12 "_law_k" = true := by decide +kernel
theorem v_law_1_1 : visB N_law rc_law_1 1 "_law_pen_here" = true := by decide +kernel
theorem v_law_1_3 : visB N_law rc_law_1 3 "_law_places" = true := by decide +kernel
theorem g_law_1__law_word : glB rc_law_1 "_law_word" = true := by decide +kernel
theorem b_law_1 : blkC N_law sc_law bc_law_1 [("_law_k", 12)] = true := by decide +kernel
theorem l_law_0_4 : locB N_law sc_law 4 "_law_words" = true := by decide +kernel
theorem n_law_1 : ((bc_law_1).names.any fun (n, k) => n == ("_law_words" : Str) && (k == .local || k == .cell)) = false := by decide +kernel
theorem t_law_0_5 : stB N_law sc_law 5 "_law_one" = true := by decide +kernel
theorem t_law_0_6 : stB N_law sc_law 6 "_law_two" = true := by decide +kernel
theorem t_law_0_7 : stB N_law sc_law 7 "_law_three" = true := by decide +kernel
theorem v_law_0_4 : visB N_law sc_law 4 "_law_words" = true := by decide +kernel
theorem t_law_2_13 : stB N_law bc_law_2 13 "_law_word_here" = true := by decide +kernel
theorem v_law_2_3 : visB N_law rc_law_2 3 "_law_places" = true := by decide +kernel
theorem v_law_2_13 : visB N_law rc_law_2 13 "_law_word_here" = true := by decide +kernel
theorem g_law_2_order_of : glB rc_law_2 "order_of" = true := by decide +kernel
theorem b_law_2 : blkC N_law sc_law bc_law_2 [("_law_word_here", 13)] = true := by decide +kernel
theorem v_law_0_3 : visB N_law sc_law 3 "_law_places" = true := by decide +kernel
theorem g_law_0_order_of : glB sc_law "order_of" = true := by decide +kernel
theorem v_law_0_5 : visB N_law sc_law 5 "_law_one" = true := by decide +kernel
theorem v_law_0_6 : visB N_law sc_law 6 "_law_two" = true := by decide +kernel
theorem g_law_0_joined : glB sc_law "joined" = true := by decide +kernel
theorem v_law_0_7 : visB N_law sc_law 7 "_law_three" = true := by decide +kernel
theorem t_law_0_8 : stB N_law sc_law 8 "_law_begun" = true := by decide +kernel
theorem g_law_0_tuple : glB sc_law "tuple" = true := by decide +kernel
theorem g_law_0_undone : glB sc_law "undone" = true := by decide +kernel
theorem v_law_0_8 : visB N_law sc_law 8 "_law_begun" = true := by decide +kernel
theorem t_law_0_9 : stB N_law sc_law 9 "_law_marks" = true := by decide +kernel
theorem g_law_0__law_names : glB sc_law "_law_names" = true := by decide +kernel
theorem t_law_0_10 : stB N_law sc_law 10 "_law_table" = true := by decide +kernel
theorem v_law_0_9 : visB N_law sc_law 9 "_law_marks" = true := by decide +kernel
theorem t_law_3_14 : stB N_law bc_law_3 14 "_law_mark" = true := by decide +kernel
theorem v_law_3_9 : visB N_law rc_law_3 9 "_law_marks" = true := by decide +kernel
theorem t_law_4_15 : stB N_law bc_law_4 15 "_law_other" = true := by decide +kernel
theorem v_law_4_15 : visB N_law rc_law_4 15 "_law_other" = true := by decide +kernel
theorem v_law_4_14 : visB N_law rc_law_4 14 "_law_mark" = true := by decide +kernel
theorem b_law_4 : blkC N_law rc_law_3 bc_law_4 [("_law_other", 15)] = true := by decide +kernel
theorem b_law_3 : blkC N_law sc_law bc_law_3 [("_law_mark", 14)] = true := by decide +kernel
theorem g_law_0_Table : glB sc_law "Table" = true := by decide +kernel
theorem t_law_0_11 : stB N_law sc_law 11 "_law_line" = true := by decide +kernel
theorem t_law_5_12 : stB N_law bc_law_5 12 "_law_k" = true := by decide +kernel
theorem v_law_5_1 : visB N_law rc_law_5 1 "_law_pen_here" = true := by decide +kernel
theorem v_law_5_9 : visB N_law rc_law_5 9 "_law_marks" = true := by decide +kernel
theorem g_law_5__law_pick : glB rc_law_5 "_law_pick" = true := by decide +kernel
theorem b_law_5 : blkC N_law sc_law bc_law_5 [("_law_k", 12)] = true := by decide +kernel
theorem v_law_0_10 : visB N_law sc_law 10 "_law_table" = true := by decide +kernel
theorem v_law_0_11 : visB N_law sc_law 11 "_law_line" = true := by decide +kernel
theorem g_law_0_row_behind : glB sc_law "row_behind" = true := by decide +kernel
theorem t_law_6_16 : stB N_law bc_law_6 16 "_law_runner" = true := by decide +kernel
theorem v_law_6_11 : visB N_law rc_law_6 11 "_law_line" = true := by decide +kernel
theorem v_law_6_16 : visB N_law rc_law_6 16 "_law_runner" = true := by decide +kernel
theorem b_law_6 : blkC N_law sc_law bc_law_6 [("_law_runner", 16)] = true := by decide +kernel
theorem t_law_7_12 : stB N_law bc_law_7 12 "_law_k" = true := by decide +kernel
theorem v_law_7_11 : visB N_law rc_law_7 11 "_law_line" = true := by decide +kernel
theorem v_law_7_12 : visB N_law rc_law_7 12 "_law_k" = true := by decide +kernel
theorem b_law_7 : blkC N_law sc_law bc_law_7 [("_law_k", 12)] = true := by decide +kernel
theorem fs_law : FnScope N_law ["_law_script"] sc_law := ⟨rfl, rfl, rfl, by decide +kernel, rfl, by decide +kernel, by decide +kernel⟩
def B_law : Fs := (seqS (setS 1 (userF 1 F__law_pen (consA (valF (varD 0)) nilA)))
  (seqS (forS (.nm 2) (rngF rng1 (consA (valF (constF (.int 5))) nilA)) ((seqS (setS 3 (binF addD (valF (constF (.int 2))) (valF (fixF (userF 2 F__law_draw (consA (varR 1) (consA (valF (fixF (binF ixD (valF (fixF (lstF (consL (constF (.int 4)) (consL (constF (.int 9)) (consL (constF (.int 59)) nilL)))))) (valF (fixF (userF 2 F__law_draw (consA (varR 1) (consA (valF (constF (.int 3))) nilA)))))))) nilA)))))))
  (seqS (setS 4 (compF (.nm 12) (rngF rng1 (consA (valF (constF (.int 3))) nilA)) yesT (fixF (userF 3 F__law_word (consA (varR 1) (consA (valF (varD 3)) (consA (valF (constF (.int 60))) nilA))))) [12]))
  (seqS (asgS (.tp [(.nm 5), (.nm 6), (.nm 7)]) (fixF (compF (.nm 13) (seqF (varD 4)) yesT (fixF (userF 2 F_order_of (consA (valF (varD 3)) (consA (valF (varD 13)) nilA)))) [13])))
  (seqS (ifS (binB neD (valF (fixF (userF 2 F_order_of (consA (valF (varD 3)) (consA (valF (fixF (binF addD (valF (fixF (binF ixD (varR 4) (valF (constF (.int 0)))))) (valF (fixF (binF ixD (varR 4) (valF (constF (.int 1))))))))) nilA))))) (valF (fixF (userF 2 F_joined (consA (valF (varD 5)) (consA (valF (varD 6)) nilA)))))) (retS (immF (constF (.bl false)))) skipS)
  (seqS (ifS (binB neD (valF (fixF (userF 2 F_joined (consA (valF (fixF (userF 2 F_joined (consA (valF (varD 5)) (consA (valF (varD 6)) nilA))))) (consA (valF (varD 7)) nilA))))) (valF (fixF (userF 2 F_joined (consA (valF (varD 5)) (consA (valF (fixF (userF 2 F_joined (consA (valF (varD 6)) (consA (valF (varD 7)) nilA))))) nilA)))))) (retS (immF (constF (.bl false)))) skipS)
  (seqS (setS 8 (tupRg1 (varD 3)))
  (seqS (ifS (orB (binB neD (valF (fixF (userF 2 F_joined (consA (valF (varD 5)) (consA (valF (fixF (userF 1 F_undone (consA (valF (varD 5)) nilA)))) nilA))))) (varR 8)) (orB (binB neD (valF (fixF (userF 2 F_joined (consA (valF (fixF (userF 1 F_undone (consA (valF (varD 5)) nilA)))) (consA (valF (varD 5)) nilA))))) (varR 8)) (binB neD (valF (fixF (userF 1 F_undone (consA (valF (fixF (userF 1 F_undone (consA (valF (varD 5)) nilA)))) nilA)))) (varR 5)))) (retS (immF (constF (.bl false)))) skipS)
  (seqS (ifS (binB neD (valF (fixF (userF 1 F_undone (consA (valF (fixF (userF 2 F_joined (consA (valF (varD 5)) (consA (valF (varD 6)) nilA))))) nilA)))) (valF (fixF (userF 2 F_joined (consA (valF (fixF (userF 1 F_undone (consA (valF (varD 6)) nilA)))) (consA (valF (fixF (userF 1 F_undone (consA (valF (varD 5)) nilA)))) nilA)))))) (retS (immF (constF (.bl false)))) skipS)
  (seqS (ifS (orB (binB neD (valF (fixF (userF 2 F_order_of (consA (valF (varD 3)) (consA (valF (fixF (rvF (valF (fixF (binF ixD (varR 4) (valF (constF (.int 0))))))))) nilA))))) (valF (fixF (userF 1 F_undone (consA (valF (varD 5)) nilA))))) (binB neD (valF (fixF (userF 2 F_order_of (consA (valF (varD 3)) (consA (valF (fixF (tupF nilL))) nilA))))) (varR 8))) (retS (immF (constF (.bl false)))) skipS)
  (seqS (setS 9 (userF 2 F__law_names (consA (varR 1) (consA (valF (fixF (binF addD (valF (constF (.int 1))) (valF (fixF (userF 2 F__law_draw (consA (varR 1) (consA (valF (constF (.int 6))) nilA)))))))) nilA))))
  (seqS (setS 10 (immF (fixF (makeF "Table" F_Table___init__ (chkL 2 (consL (varD 9) (consL (fixF (compF (.nm 14) (seqF (varD 9)) yesT (fixF (compF (.nm 15) (seqF (varD 9)) yesT (fixF (tupF (consL (varD 15) (consL (varD 14) nilL)))) [15])) [14])) nilL)))))))
  (seqS (setS 11 (callF tupleD (consA (valF (fixF (compF (.nm 12) (rngF rng1 (consA (varR 3) nilA)) yesT (fixF (userF 2 F__law_pick (consA (varR 1) (consA (valF (varD 9)) nilA)))) [12]))) nilA)))
  (seqS (ifS (binB neD (valF (fixF (userF 3 F_row_behind (consA (valF (varD 10)) (consA (valF (varD 11)) (consA (valF (fixF (binF ixD (varR 4) (valF (constF (.int 0)))))) nilA)))))) (valF (fixF (callF tupleD (consA (valF (fixF (compF (.nm 16) (seqF (varD 5)) yesT (fixF (binF ixD (varR 11) (varR 16))) [16]))) nilA))))) (retS (immF (constF (.bl false)))) skipS)
  (ifS (binB neD (valF (fixF (userF 3 F_row_behind (consA (valF (varD 10)) (consA (valF (fixF (userF 3 F_row_behind (consA (valF (varD 10)) (consA (valF (varD 11)) (consA (valF (fixF (binF ixD (varR 4) (valF (constF (.int 0)))))) nilA)))))) (consA (valF (fixF (binF ixD (varR 4) (valF (constF (.int 1)))))) nilA)))))) (valF (fixF (callF tupleD (consA (valF (fixF (compF (.nm 12) (seqF (fixF (userF 2 F_joined (consA (valF (varD 5)) (consA (valF (varD 6)) nilA))))) yesT (fixF (binF ixD (varR 11) (varR 12))) [12]))) nilA))))) (retS (immF (constF (.bl false)))) skipS))))))))))))))))
  (retS (immF (constF (.bl true))))))
def F_law : Fn := fun as => bodyF N_law.length (["_law_script"] : List Str).length B_law (id as)
/-! what the walk leans on -/
structure Txt (Θ : Th) : Prop where
  k_Table : ClB Θ "Table" ["own_marks", "known"]
  n_abs : Θ.mg "abs" = none
  n_all : Θ.mg "all" = none
  n_bool : Θ.mg "bool" = none
  n_enumerate : Θ.mg "enumerate" = none
  n_int : Θ.mg "int" = none
  n_isinstance : Θ.mg "isinstance" = none
  n_len : Θ.mg "len" = none
  n_list : Θ.mg "list" = none
  n_range : Θ.mg "range" = none
  n_set : Θ.mg "set" = none
  n_str : Θ.mg "str" = none
  n_tuple : Θ.mg "tuple" = none
  n_zip : Θ.mg "zip" = none
  c_LETTERS : GlC Θ "LETTERS" (.str "abcdefghijklmnopqrstuvwxyz")
  c_MOST_LETTERS : GlC Θ "MOST_LETTERS" (.int 8)
  c_MOST_MARKS : GlC Θ "MOST_MARKS" (.int 6)
  c_PLACES : GlC Θ "PLACES" (.int 60)
  c_WORD : GlC Θ "WORD" (.int 2000)
  d__law_pen : DefB Θ "_law_pen" "_law_pen" s__law_pen N__law_pen ["_law_script"] 1 [] id id
  d__law_draw : DefB Θ "_law_draw" "_law_draw" s__law_draw N__law_draw ["_law_pen_here", "_law_many"] 2 [] id id
  d__law_word : DefB Θ "_law_word" "_law_word" s__law_word N__law_word ["_law_pen_here", "_law_places", "_law_many"] 3 [] id id
  d_is_whole_1_least_most : DefB Θ "is_whole" "is_whole" s_is_whole N_is_whole ["thing", "least", "most"] 1 ["least", "most"] id id
  d_need_places_1 : DefB Θ "need_places" "need_places" s_need_places N_need_places ["places", "least", "most"] 1 [] (fun vs => vs ++ [V.int 1, V.int 60]) (fun as => as ++ ([D.int 1, D.int 60] : List D).map Ar.imm)
  d_is_listing : DefB Θ "is_listing" "is_listing" s_is_listing N_is_listing ["thing"] 1 [] id id
  d_word_fault : DefB Θ "word_fault" "word_fault" s_word_fault N_word_fault ["places", "thing"] 2 [] id id
  d_need_word : DefB Θ "need_word" "need_word" s_need_word N_need_word ["places", "word"] 2 [] id id
  d_exchanged : DefB Θ "exchanged" "exchanged" s_exchanged N_exchanged ["some", "place"] 2 [] id id
  d_order_of : DefB Θ "order_of" "order_of" s_order_of N_order_of ["places", "word"] 2 [] id id
  d_order_fault : DefB Θ "order_fault" "order_fault" s_order_fault N_order_fault ["thing"] 1 [] id id
  d_need_order : DefB Θ "need_order" "need_order" s_need_order N_need_order ["order"] 1 [] id id
  d_joined : DefB Θ "joined" "joined" s_joined N_joined ["one", "other"] 2 [] id id
  d_undone : DefB Θ "undone" "undone" s_undone N_undone ["order"] 1 [] id id
  d__law_pick : DefB Θ "_law_pick" "_law_pick" s__law_pick N__law_pick ["_law_pen_here", "_law_some"] 2 [] id id
  d__law_names : DefB Θ "_law_names" "_law_names" s__law_names N__law_names ["_law_pen_here", "_law_many"] 2 [] id id
  d_is_name : DefB Θ "is_name" "is_name" s_is_name N_is_name ["thing"] 1 [] id id
  d_are_marks : DefB Θ "are_marks" "are_marks" s_are_marks N_are_marks ["thing"] 1 [] id id
  d_is_pair_of : DefB Θ "is_pair_of" "is_pair_of" s_is_pair_of N_is_pair_of ["marks", "thing"] 2 [] id id
  d_are_pairs : DefB Θ "are_pairs" "are_pairs" s_are_pairs N_are_pairs ["marks", "thing"] 2 [] id id
  d_Table___init__ : MkB Θ "Table" "Table.__init__" s_Table___init__ N_Table___init__ ["self", "marks", "pairs"] 2
  d_Table_has : MethB Θ "Table" "has" "Table.has" s_Table_has N_Table_has ["self", "thing"] 2
  d_row_fault : DefB Θ "row_fault" "row_fault" s_row_fault N_row_fault ["table", "thing"] 2 [] id id
  d_need_row : DefB Θ "need_row" "need_row" s_need_row N_need_row ["table", "row"] 2 [] id id
  d_Table_need_mark : MethB Θ "Table" "need_mark" "Table.need_mark" s_Table_need_mark N_Table_need_mark ["self", "thing"] 2
  d_Table_passed : MethB Θ "Table" "passed" "Table.passed" s_Table_passed N_Table_passed ["self", "one", "other"] 3
  d_pass_at : DefB Θ "pass_at" "pass_at" s_pass_at N_pass_at ["table", "row", "place"] 3 [] id id
  d_row_behind : DefB Θ "row_behind" "row_behind" s_row_behind N_row_behind ["table", "row", "word"] 3 [] id id
  d_law : DefB Θ "law" "law" s_law N_law ["_law_script"] 1 [] id id
theorem Txt.fl {Θ : Th} (T : Txt Θ) : Flds Θ flL := (.cons T.k_Table Flds.nil)
section
variable {Θ : Th} {X : Cx}
theorem w__law_pen (T : Txt Θ) (I : In Θ N__law_pen sc__law_pen sc__law_pen 0 X) : PSts X (defBody s__law_pen) B__law_pen :=
  (psts_one (pst_ret (px_disp (l := [("cells", (fixF (callF listD (consA (valF (fixF (slF (varR 0) noneO (someO (constF (.int 63)))))) nilA)))), ("spot", (constF (.int 0))), ("more", (constF (.int 0)))]) (pps_cons pe_str (pd_fix (s_blt I b_list g__law_pen_0_list T.n_list (pas_cons (pr_val (pd_fix (px_sl (s_r I v__law_pen_0_0) po_noneD (po_someD s_int)))) pas_nil (starEach_cons rfl)) rfl)) (pps_cons pe_str s_int (pps_cons pe_str s_int pps_nil))) rfl rfl (by simp) (by decide))))
theorem h__law_pen (T : Txt Θ) : FnAt Θ "_law_pen" 1 [] 1 F__law_pen := mkFn T.d__law_pen fun X I => w__law_pen T I
theorem w__law_draw (T : Txt Θ) (I : In Θ N__law_draw sc__law_draw sc__law_draw 0 X) : PSts X (defBody s__law_draw) B__law_draw :=
  (psts_cons (pst_if (sb_cmp I c_gt (pr_val (pd_fix (s_ix I (s_r I v__law_draw_0_0) (pr_val s_str) rfl))) (pr_val s_int)) (psts_cons (s_set I t__law_draw_0_2 (s_mod (pr_val (pd_fix (s_ix I (s_r I v__law_draw_0_0) (pr_val s_str) rfl))) (s_r I v__law_draw_0_1)) rfl) (psts_cons (s_dput I (s_r I v__law_draw_0_0) s_str (pd_fix (s_fdiv (pr_val (pd_fix (s_ix I (s_r I v__law_draw_0_0) (pr_val s_str) rfl))) (s_r I v__law_draw_0_1))) rfl) (psts_one (pst_retVar (I.pv v__law_draw_0_2))))) psts_nil) (psts_cons (s_set I t__law_draw_0_3 (s_ix I (s_r I v__law_draw_0_0) (pr_val s_str) rfl) rfl) (psts_cons (s_dput I (s_r I v__law_draw_0_0) s_str (pd_fix (s_add (s_r I v__law_draw_0_3) (pr_val s_int))) rfl) (psts_cons (s_set I t__law_draw_0_4 (px_ite (sb_cmp I c_ne (pr_val (pd_fix (s_ix I (s_r I v__law_draw_0_0) (pr_val s_str) rfl))) (pr_val (pd_fix (px_lst pls_nil)))) (s_ix I (pr_val (pd_fix (s_ix I (s_r I v__law_draw_0_0) (pr_val s_str) rfl))) (pr_val (pd_fix (s_mod (s_r I v__law_draw_0_3) (pr_val (pd_fix (s_blt I b_len g__law_draw_0_len T.n_len (pas_cons (pr_val (pd_fix (s_ix I (s_r I v__law_draw_0_0) (pr_val s_str) rfl))) pas_nil (starEach_cons rfl)) rfl)))))) rfl) (s_add (pr_val (pd_fix (s_mul (pr_val s_int) (s_r I v__law_draw_0_3)))) (pr_val s_int))) rfl) (psts_cons (pst_if (sb_w (pb_and (sb_cmp I c_lt (s_r I v__law_draw_0_3) (pr_val (pd_fix (s_blt I b_len g__law_draw_0_len T.n_len (pas_cons (pr_val (pd_fix (s_ix I (s_r I v__law_draw_0_0) (pr_val s_str) rfl))) pas_nil (starEach_cons rfl)) rfl)))) (pb_and1 (sb_cmp I c_ge (pr_val (pd_fix (s_blt I b_abs g__law_draw_0_abs T.n_abs (pas_cons (s_r I v__law_draw_0_4) pas_nil (starEach_cons rfl)) rfl))) (pr_val (pd_fix (s_pow (pr_val s_int) (pr_val s_int)))))))) (psts_cons (s_dput I (s_r I v__law_draw_0_0) s_str (pd_fix (s_fdiv (pr_val (pd_fix (s_sub (pr_val (pd_fix (s_blt I b_abs g__law_draw_0_abs T.n_abs (pas_cons (s_r I v__law_draw_0_4) pas_nil (starEach_cons rfl)) rfl))) (pr_val (pd_fix (s_pow (pr_val s_int) (pr_val s_int))))))) (s_r I v__law_draw_0_1))) rfl) (psts_one (pst_ret (s_mod (pr_val (pd_fix (s_sub (pr_val (pd_fix (s_blt I b_abs g__law_draw_0_abs T.n_abs (pas_cons (s_r I v__law_draw_0_4) pas_nil (starEach_cons rfl)) rfl))) (pr_val (pd_fix (s_pow (pr_val s_int) (pr_val s_int))))))) (s_r I v__law_draw_0_1))))) psts_nil) (psts_cons (s_set I t__law_draw_0_5 (s_mod (pr_val (pd_fix (s_add (pr_val (pd_fix (s_add (pr_val (pd_fix (s_add (pr_val (pd_fix (s_mul (pr_val (pd_fix (s_mod (s_r I v__law_draw_0_4) (pr_val s_int)))) (pr_val s_int)))) (pr_val (pd_fix (s_mul (pr_val (pd_fix (s_mul (pr_val s_int) (s_r I v__law_draw_0_3)))) (s_r I v__law_draw_0_3))))))) (pr_val (pd_fix (s_mul (pr_val s_int) (s_r I v__law_draw_0_3))))))) (pr_val s_int)))) (pr_val s_int)) rfl) (psts_cons (s_set I t__law_draw_0_5 (s_mod (pr_val (pd_fix (s_add (pr_val (pd_fix (s_add (pr_val (pd_fix (s_add (pr_val (pd_fix (s_mul (s_r I v__law_draw_0_5) (s_r I v__law_draw_0_5)))) (pr_val (pd_fix (s_mul (pr_val s_int) (s_r I v__law_draw_0_5))))))) (pr_val (pd_fix (s_mul (pr_val s_int) (s_r I v__law_draw_0_3))))))) (pr_val s_int)))) (pr_val s_int)) rfl) (psts_one (pst_ret (s_mod (pr_val (pd_fix (s_fdiv (pr_val (pd_fix (s_mod (pr_val (pd_fix (s_mul (s_r I v__law_draw_0_5) (pr_val (pd_fix (s_add (s_r I v__law_draw_0_5) (pr_val s_int))))))) (pr_val s_int)))) (pr_val s_int)))) (s_r I v__law_draw_0_1)))))))))))
theorem h__law_draw (T : Txt Θ) : FnAt Θ "_law_draw" 2 [] 1 F__law_draw := mkFn T.d__law_draw fun X I => w__law_draw T I
theorem w__law_word (T : Txt Θ) (I : In Θ N__law_word sc__law_word sc__law_word 1 X) : PSts X (defBody s__law_word) B__law_word :=
  (psts_one (pst_ret (s_blt I b_tuple g__law_word_0_tuple T.n_tuple (pas_cons (pr_val (pd_fix (s_comp (own := [("_law_turn", 3)]) I (s_rg1 I g__law_word_0_range T.n_range (pas_cons (pr_val (pd_fix (s_mul (pr_val (pd_fix (s_call I (h__law_draw T) (by decide) g__law_word_0__law_draw (pas_cons (s_r I v__law_word_0_0) (pas_cons (pr_val (pd_fix (s_add (s_r I v__law_word_0_2) (pr_val s_int)))) pas_nil (starEach_cons rfl)) (starEach_cons rfl)) rfl (by decide +kernel)))) (pr_val (pd_fix (s_blt I b_int g__law_word_0_int T.n_int (pas_cons (pr_val (sd_cmp I c_gt (s_r I v__law_word_0_1) (pr_val s_int))) pas_nil (starEach_cons rfl)) rfl)))))) pas_nil (starEach_cons rfl)) rfl) b__law_word_1 (fun Y (J1 : In _ N__law_word rc__law_word_1 bc__law_word_1 _ Y) => ⟨(s_nm J1 t__law_word_1_3), s_yes, (pd_fix (s_call J1 (h__law_draw T) (by decide) g__law_word_1__law_draw (pas_cons (s_r J1 v__law_word_1_0) (pas_cons (pr_val (pd_fix (s_sub (s_r J1 v__law_word_1_1) (pr_val s_int)))) pas_nil (starEach_cons rfl)) (starEach_cons rfl)) rfl (by decide +kernel)))⟩) (fun _ => rfl)))) pas_nil (starEach_cons rfl)) rfl)))
theorem h__law_word (T : Txt Θ) : FnAt Θ "_law_word" 3 [] 2 F__law_word := mkFn T.d__law_word fun X I => w__law_word T I
theorem w_is_whole (T : Txt Θ) (I : In Θ N_is_whole sc_is_whole sc_is_whole 0 X) : PSts X (defBody s_is_whole) B_is_whole :=
  (psts_one (pst_ret (px_imm (pd_and (s_isi I (n := "int") g_is_whole_0_isinstance T.n_isinstance g_is_whole_0_int T.n_int (by rfl) (s_r I v_is_whole_0_0) rfl (by decide +kernel) (by decide +kernel)) (pd_and (pd_not (s_isi I (n := "bool") g_is_whole_0_isinstance T.n_isinstance g_is_whole_0_bool T.n_bool (by rfl) (s_r I v_is_whole_0_0) rfl (by decide +kernel) (by decide +kernel))) (pd_one (sd_chain I c_le c_le (s_r I v_is_whole_0_1) (s_r I v_is_whole_0_0) (s_r I v_is_whole_0_2) rfl)))))))
theorem h_is_whole_1_least_most (T : Txt Θ) : FnAt Θ "is_whole" 1 ["least", "most"] 1 F_is_whole_1_least_most := mkFn T.d_is_whole_1_least_most fun X I => w_is_whole T I
theorem w_need_places (T : Txt Θ) (I : In Θ N_need_places sc_need_places sc_need_places 1 X) : PSts X (defBody s_need_places) B_need_places :=
  (psts_cons (pst_if (pb_not (pb_tru (pr_val (pd_fix (s_callK I (ks := ["least", "most"]) (h_is_whole_1_least_most T) (by decide) g_need_places_0_is_whole (pas_cons (pr_val (s_d I v_need_places_0_0)) pas_nil (starEach_cons rfl)) (pks_cons (pr_val (s_d I v_need_places_0_1)) (pks_cons (pr_val (s_d I v_need_places_0_2)) pks_nil)) rfl rfl (by decide +kernel)))) (fun _ => rfl))) (psts_one pst_never) psts_nil) (psts_one (pst_retVar (I.pv v_need_places_0_0))))
theorem h_need_places_1 (T : Txt Θ) : FnAt Θ "need_places" 1 [] 2 F_need_places_1 := mkFn T.d_need_places_1 fun X I => w_need_places T I
theorem w_is_listing (T : Txt Θ) (I : In Θ N_is_listing sc_is_listing sc_is_listing 0 X) : PSts X (defBody s_is_listing) B_is_listing :=
  (psts_one (pst_ret (px_imm (s_isis I g_is_listing_0_isinstance T.n_isinstance (s_tys I (n := "list") g_is_listing_0_list T.n_list (by rfl) (by decide +kernel) (by decide +kernel) (s_tys I (n := "tuple") g_is_listing_0_tuple T.n_tuple (by rfl) (by decide +kernel) (by decide +kernel) .nil)) (s_r I v_is_listing_0_0) rfl (by decide)))))
theorem h_is_listing (T : Txt Θ) : FnAt Θ "is_listing" 1 [] 1 F_is_listing := mkFn T.d_is_listing fun X I => w_is_listing T I
theorem w_word_fault (T : Txt Θ) (I : In Θ N_word_fault sc_word_fault sc_word_fault 1 X) : PSts X (defBody s_word_fault) B_word_fault :=
  (psts_cons (pst_if (sb_w (pb_or (pb_not (pb_tru (pr_val (pd_fix (s_call I (h_is_listing T) (by decide) g_word_fault_0_is_listing (pas_cons (pr_val (s_d I v_word_fault_0_1)) pas_nil (starEach_cons rfl)) rfl (by decide +kernel)))) (fun _ => rfl))) (pb_or1 (sb_cmp I c_gt (pr_val (pd_fix (s_blt I b_len g_word_fault_0_len T.n_len (pas_cons (s_r I v_word_fault_0_1) pas_nil (starEach_cons rfl)) rfl))) (pr_val (s_gint I g_word_fault_0_WORD T.c_WORD (by decide +kernel))))))) (psts_one (pst_ret (px_imm s_neg))) psts_nil) (psts_cons (s_for I (s_enum I g_word_fault_0_enumerate T.n_enumerate (pls_cons (s_d I v_word_fault_0_1) pls_nil (starEach_cons rfl)) rfl) (s_ttup I (s_tcons (s_nm I t_word_fault_0_2) (s_tcons (s_nm I t_word_fault_0_3) pgt_nil rfl) rfl) rfl rfl) (psts_one (pst_if (pb_not (pb_tru (pr_val (pd_fix (s_callK I (ks := ["least", "most"]) (h_is_whole_1_least_most T) (by decide) g_word_fault_0_is_whole (pas_cons (pr_val (s_d I v_word_fault_0_3)) pas_nil (starEach_cons rfl)) (pks_cons (pr_val s_int) (pks_cons (pr_val (pd_fix (s_sub (s_r I v_word_fault_0_0) (pr_val s_int)))) pks_nil)) rfl rfl (by decide +kernel)))) (fun _ => rfl))) (psts_one (pst_retVar (I.pv v_word_fault_0_2))) psts_nil)) (fun _ => rfl)) (psts_one (pst_ret (px_imm s_non)))))
theorem h_word_fault (T : Txt Θ) : FnAt Θ "word_fault" 2 [] 2 F_word_fault := mkFn T.d_word_fault fun X I => w_word_fault T I
theorem w_need_word (T : Txt Θ) (I : In Θ N_need_word sc_need_word sc_need_word 2 X) : PSts X (defBody s_need_word) B_need_word :=
  (psts_cons (s_set I t_need_word_0_2 (s_call I (h_word_fault T) (by decide) g_need_word_0_word_fault (pas_cons (pr_val (s_d I v_need_word_0_0)) (pas_cons (pr_val (s_d I v_need_word_0_1)) pas_nil (starEach_cons rfl)) (starEach_cons rfl)) rfl (by decide +kernel)) rfl) (psts_cons (pst_if (sb_cmp I c_isnot (s_r I v_need_word_0_2) (pr_val s_non)) (psts_one pst_never) psts_nil) (psts_one (pst_ret (s_blt I b_tuple g_need_word_0_tuple T.n_tuple (pas_cons (s_r I v_need_word_0_1) pas_nil (starEach_cons rfl)) rfl)))))
theorem h_need_word (T : Txt Θ) : FnAt Θ "need_word" 2 [] 3 F_need_word := mkFn T.d_need_word fun X I => w_need_word T I
theorem w_exchanged (T : Txt Θ) (I : In Θ N_exchanged sc_exchanged sc_exchanged 0 X) : PSts X (defBody s_exchanged) B_exchanged :=
  (psts_one (pst_ret (s_add (pr_val (pd_fix (s_add (pr_val (pd_fix (px_sl (s_r I v_exchanged_0_0) po_noneD (po_someD (s_d I v_exchanged_0_1))))) (pr_val (pd_fix (px_tup (pls_cons (pd_fix (s_ix I (s_r I v_exchanged_0_0) (pr_val (pd_fix (s_add (s_r I v_exchanged_0_1) (pr_val s_int)))) rfl)) (pls_cons (pd_fix (s_ix I (s_r I v_exchanged_0_0) (s_r I v_exchanged_0_1) rfl)) pls_nil (starEach_cons rfl)) (starEach_cons rfl)))))))) (pr_val (pd_fix (px_sl (s_r I v_exchanged_0_0) (po_someD (pd_fix (s_add (s_r I v_exchanged_0_1) (pr_val s_int)))) po_noneD))))))
theorem h_exchanged (T : Txt Θ) : FnAt Θ "exchanged" 2 [] 1 F_exchanged := mkFn T.d_exchanged fun X I => w_exchanged T I
theorem w_order_of (T : Txt Θ) (I : In Θ N_order_of sc_order_of sc_order_of 3 X) : PSts X (defBody s_order_of) B_order_of :=
  (psts_cons (s_set I t_order_of_0_2 (s_tupRg I g_order_of_0_tuple T.n_tuple g_order_of_0_range T.n_range (pd_fix (s_call I (h_need_places_1 T) (by decide) g_order_of_0_need_places (pas_cons (pr_val (s_d I v_order_of_0_0)) pas_nil (starEach_cons rfl)) rfl (by decide +kernel))) rfl) rfl) (psts_cons (s_for I (pit_seq (pd_fix (s_call I (h_need_word T) (by decide) g_order_of_0_need_word (pas_cons (pr_val (s_d I v_order_of_0_0)) (pas_cons (pr_val (s_d I v_order_of_0_1)) pas_nil (starEach_cons rfl)) (starEach_cons rfl)) rfl (by decide +kernel)))) (s_nm I t_order_of_0_3) (psts_one (s_set I t_order_of_0_2 (s_call I (h_exchanged T) (by decide) g_order_of_0_exchanged (pas_cons (pr_val (s_d I v_order_of_0_2)) (pas_cons (pr_val (s_d I v_order_of_0_3)) pas_nil (starEach_cons rfl)) (starEach_cons rfl)) rfl (by decide +kernel)) rfl)) (fun _ => rfl)) (psts_one (pst_retVar (I.pv v_order_of_0_2)))))
theorem h_order_of (T : Txt Θ) : FnAt Θ "order_of" 2 [] 4 F_order_of := mkFn T.d_order_of fun X I => w_order_of T I
theorem w_order_fault (T : Txt Θ) (I : In Θ N_order_fault sc_order_fault sc_order_fault 1 X) : PSts X (defBody s_order_fault) B_order_fault :=
  (psts_cons (pst_if (sb_w (pb_or (pb_not (pb_tru (pr_val (pd_fix (s_call I (h_is_listing T) (by decide) g_order_fault_0_is_listing (pas_cons (pr_val (s_d I v_order_fault_0_0)) pas_nil (starEach_cons rfl)) rfl (by decide +kernel)))) (fun _ => rfl))) (pb_or1 (pb_not (sb_chain I c_le c_le (pr_val s_int) (pr_val (pd_fix (s_blt I b_len g_order_fault_0_len T.n_len (pas_cons (s_r I v_order_fault_0_0) pas_nil (starEach_cons rfl)) rfl))) (pr_val (s_gint I g_order_fault_0_PLACES T.c_PLACES (by decide +kernel))) rfl))))) (psts_one (pst_ret (px_imm s_neg))) psts_nil) (psts_cons (s_for I (s_enum I g_order_fault_0_enumerate T.n_enumerate (pls_cons (s_d I v_order_fault_0_0) pls_nil (starEach_cons rfl)) rfl) (s_ttup I (s_tcons (s_nm I t_order_fault_0_1) (s_tcons (s_nm I t_order_fault_0_2) pgt_nil rfl) rfl) rfl rfl) (psts_one (pst_if (sb_w (pb_or (pb_not (pb_tru (pr_val (pd_fix (s_callK I (ks := ["least", "most"]) (h_is_whole_1_least_most T) (by decide) g_order_fault_0_is_whole (pas_cons (pr_val (s_d I v_order_fault_0_2)) pas_nil (starEach_cons rfl)) (pks_cons (pr_val s_int) (pks_cons (pr_val (pd_fix (s_sub (pr_val (pd_fix (s_blt I b_len g_order_fault_0_len T.n_len (pas_cons (s_r I v_order_fault_0_0) pas_nil (starEach_cons rfl)) rfl))) (pr_val s_int)))) pks_nil)) rfl rfl (by decide +kernel)))) (fun _ => rfl))) (pb_or1 (sb_in I (s_r I v_order_fault_0_2) (pr_val (pd_fix (px_sl (s_r I v_order_fault_0_0) po_noneD (po_someD (s_d I v_order_fault_0_1))))) (by with_unfolding_all rfl))))) (psts_one (pst_retVar (I.pv v_order_fault_0_1))) psts_nil)) (fun _ => rfl)) (psts_one (pst_ret (px_imm s_non)))))
theorem h_order_fault (T : Txt Θ) : FnAt Θ "order_fault" 1 [] 2 F_order_fault := mkFn T.d_order_fault fun X I => w_order_fault T I
theorem w_need_order (T : Txt Θ) (I : In Θ N_need_order sc_need_order sc_need_order 2 X) : PSts X (defBody s_need_order) B_need_order :=
  (psts_cons (s_set I t_need_order_0_1 (s_call I (h_order_fault T) (by decide) g_need_order_0_order_fault (pas_cons (pr_val (s_d I v_need_order_0_0)) pas_nil (starEach_cons rfl)) rfl (by decide +kernel)) rfl) (psts_cons (pst_if (sb_cmp I c_isnot (s_r I v_need_order_0_1) (pr_val s_non)) (psts_one pst_never) psts_nil) (psts_one (pst_ret (s_blt I b_tuple g_need_order_0_tuple T.n_tuple (pas_cons (s_r I v_need_order_0_0) pas_nil (starEach_cons rfl)) rfl)))))
theorem h_need_order (T : Txt Θ) : FnAt Θ "need_order" 1 [] 3 F_need_order := mkFn T.d_need_order fun X I => w_need_order T I
theorem w_joined (T : Txt Θ) (I : In Θ N_joined sc_joined sc_joined 3 X) : PSts X (defBody s_joined) B_joined :=
  (psts_cons (s_set I t_joined_0_2 (s_call I (h_need_order T) (by decide) g_joined_0_need_order (pas_cons (pr_val (s_d I v_joined_0_0)) pas_nil (starEach_cons rfl)) rfl (by decide +kernel)) rfl) (psts_cons (pst_if (sb_w (pb_and (pb_tru (pr_val (pd_fix (s_call I (h_is_listing T) (by decide) g_joined_0_is_listing (pas_cons (pr_val (s_d I v_joined_0_1)) pas_nil (starEach_cons rfl)) rfl (by decide +kernel)))) (fun _ => rfl)) (pb_and1 (sb_cmp I c_ne (pr_val (pd_fix (s_blt I b_len g_joined_0_len T.n_len (pas_cons (s_r I v_joined_0_1) pas_nil (starEach_cons rfl)) rfl))) (pr_val (pd_fix (s_blt I b_len g_joined_0_len T.n_len (pas_cons (s_r I v_joined_0_2) pas_nil (starEach_cons rfl)) rfl))))))) (psts_one pst_never) psts_nil) (psts_one (pst_ret (s_blt I b_tuple g_joined_0_tuple T.n_tuple (pas_cons (pr_val (pd_fix (s_comp (own := [("place", 3)]) I (pit_seq (pd_fix (s_call I (h_need_order T) (by decide) g_joined_0_need_order (pas_cons (pr_val (s_d I v_joined_0_1)) pas_nil (starEach_cons rfl)) rfl (by decide +kernel)))) b_joined_1 (fun Y (J1 : In _ N_joined rc_joined_1 bc_joined_1 _ Y) => ⟨(s_nm J1 t_joined_1_3), s_yes, (pd_fix (s_ix J1 (s_r J1 v_joined_1_2) (s_r J1 v_joined_1_3) rfl))⟩) (fun _ => rfl)))) pas_nil (starEach_cons rfl)) rfl)))))
theorem h_joined (T : Txt Θ) : FnAt Θ "joined" 2 [] 4 F_joined := mkFn T.d_joined fun X I => w_joined T I
theorem w_undone (T : Txt Θ) (I : In Θ N_undone sc_undone sc_undone 3 X) : PSts X (defBody s_undone) B_undone :=
  (psts_cons (s_set I t_undone_0_1 (s_call I (h_need_order T) (by decide) g_undone_0_need_order (pas_cons (pr_val (s_d I v_undone_0_0)) pas_nil (starEach_cons rfl)) rfl (by decide +kernel)) rfl) (psts_one (pst_ret (s_blt I b_tuple g_undone_0_tuple T.n_tuple (pas_cons (pr_val (pd_fix (s_comp (own := [("runner", 2)]) I (s_rg1 I g_undone_0_range T.n_range (pas_cons (pr_val (pd_fix (s_blt I b_len g_undone_0_len T.n_len (pas_cons (s_r I v_undone_0_1) pas_nil (starEach_cons rfl)) rfl))) pas_nil (starEach_cons rfl)) rfl) b_undone_1 (fun Y (J1 : In _ N_undone rc_undone_1 bc_undone_1 _ Y) => ⟨(s_nm J1 t_undone_1_2), s_yes, (s_index J1 (s_r J1 v_undone_1_1) (s_r J1 v_undone_1_2) rfl rfl rfl)⟩) (fun _ => rfl)))) pas_nil (starEach_cons rfl)) rfl))))
theorem h_undone (T : Txt Θ) : FnAt Θ "undone" 1 [] 4 F_undone := mkFn T.d_undone fun X I => w_undone T I
theorem w__law_pick (T : Txt Θ) (I : In Θ N__law_pick sc__law_pick sc__law_pick 1 X) : PSts X (defBody s__law_pick) B__law_pick :=
  (psts_one (pst_ret (s_ix I (s_r I v__law_pick_0_1) (pr_val (pd_fix (s_call I (h__law_draw T) (by decide) g__law_pick_0__law_draw (pas_cons (s_r I v__law_pick_0_0) (pas_cons (pr_val (pd_fix (s_blt I b_len g__law_pick_0_len T.n_len (pas_cons (s_r I v__law_pick_0_1) pas_nil (starEach_cons rfl)) rfl))) pas_nil (starEach_cons rfl)) (starEach_cons rfl)) rfl (by decide +kernel)))) rfl)))
theorem h__law_pick (T : Txt Θ) : FnAt Θ "_law_pick" 2 [] 2 F__law_pick := mkFn T.d__law_pick fun X I => w__law_pick T I
theorem w__law_names (T : Txt Θ) (I : In Θ N__law_names sc__law_names sc__law_names 2 X) : PSts X (defBody s__law_names) B__law_names :=
  (psts_cons (s_set I t__law_names_0_2 (px_imm s_str) rfl) (psts_cons (s_set I t__law_names_0_4 (px_join s_str (pd_fix (s_comp (own := [("_law_k", 3)]) I (s_rg1 I g__law_names_0_range T.n_range (pas_cons (pr_val (pd_fix (s_add (pr_val s_int) (pr_val (pd_fix (s_call I (h__law_draw T) (by decide) g__law_names_0__law_draw (pas_cons (s_r I v__law_names_0_0) (pas_cons (pr_val s_int) pas_nil (starEach_cons rfl)) (starEach_cons rfl)) rfl (by decide +kernel))))))) pas_nil (starEach_cons rfl)) rfl) b__law_names_1 (fun Y (J1 : In _ N__law_names rc__law_names_1 bc__law_names_1 _ Y) => ⟨(s_nm J1 t__law_names_1_3), s_yes, (pd_fix (s_call J1 (h__law_pick T) (by decide) g__law_names_1__law_pick (pas_cons (s_r J1 v__law_names_1_0) (pas_cons (pr_val (s_d J1 v__law_names_1_2)) pas_nil (starEach_cons rfl)) (starEach_cons rfl)) rfl (by decide +kernel)))⟩) (fun _ => rfl))) rfl rfl rfl) rfl) (psts_cons (s_par3 I l__law_names_0_5 l__law_names_0_6 l__law_names_0_7 (by decide) (by decide) (by decide) (pxs_cons (s_call I (h__law_draw T) (by decide) g__law_names_0__law_draw (pas_cons (s_r I v__law_names_0_0) (pas_cons (pr_val (pd_fix (s_blt I b_len g__law_names_0_len T.n_len (pas_cons (s_r I v__law_names_0_4) pas_nil (starEach_cons rfl)) rfl))) pas_nil (starEach_cons rfl)) (starEach_cons rfl)) rfl (by decide +kernel)) (pxs_cons (s_call I (h__law_draw T) (by decide) g__law_names_0__law_draw (pas_cons (s_r I v__law_names_0_0) (pas_cons (pr_val s_int) pas_nil (starEach_cons rfl)) (starEach_cons rfl)) rfl (by decide +kernel)) (pxs_cons (s_call I (h__law_draw T) (by decide) g__law_names_0__law_draw (pas_cons (s_r I v__law_names_0_0) (pas_cons (pr_val s_int) pas_nil (starEach_cons rfl)) (starEach_cons rfl)) rfl (by decide +kernel)) pxs_nil (starEach_cons rfl)) (starEach_cons rfl)) (starEach_cons rfl)) (sw_of I.sc (by kernel_rfl)) rfl) (psts_cons (s_par2 I l__law_names_0_8 l__law_names_0_9 (by decide) (pxs_cons (s_call I (h__law_pick T) (by decide) g__law_names_0__law_pick (pas_cons (s_r I v__law_names_0_0) (pas_cons (pr_val (pd_fix (px_lst (pls_cons s_int (pls_cons s_int (pls_cons s_int (pls_cons s_int (pls_cons s_int (pls_cons s_int (pls_cons s_int (pls_cons s_int (pls_cons s_int (pls_cons s_int (pls_cons s_int (pls_cons s_int pls_nil (starEach_cons rfl)) (starEach_cons rfl)) (starEach_cons rfl)) (starEach_cons rfl)) (starEach_cons rfl)) (starEach_cons rfl)) (starEach_cons rfl)) (starEach_cons rfl)) (starEach_cons rfl)) (starEach_cons rfl)) (starEach_cons rfl)) (starEach_cons rfl))))) pas_nil (starEach_cons rfl)) (starEach_cons rfl)) rfl (by decide +kernel)) (pxs_cons (px_lst pls_nil) pxs_nil (starEach_cons rfl)) (starEach_cons rfl)) (sw_of I.sc (by kernel_rfl)) rfl) (psts_cons (s_for I (s_rg1 I g__law_names_0_range T.n_range (pas_cons (s_r I v__law_names_0_1) pas_nil (starEach_cons rfl)) rfl) (s_nm I t__law_names_0_3) (psts_cons (s_set I t__law_names_0_10 (px_ite (sb_cmp I c_eq (s_r I v__law_names_0_7) (pr_val s_int)) (px_sl (s_r I v__law_names_0_4) (po_someD (pd_fix (s_add (s_r I v__law_names_0_5) (pr_val s_int)))) po_noneD) (px_sl (pr_val (pd_fix (px_sl (s_r I v__law_names_0_4) (po_someD (pd_fix (s_add (s_r I v__law_names_0_5) (pr_val s_int)))) po_noneD))) po_noneD (po_someD (pd_fix (s_mod (s_r I v__law_names_0_3) (pr_val s_int)))))) rfl) (psts_one (pst_expr (s_append (s_r I v__law_names_0_9) (pls_cons (pd_fix (s_add (pr_val (pd_fix (s_add (pr_val (pd_fix (px_sl (s_r I v__law_names_0_4) po_noneD (po_someD (s_d I v__law_names_0_5))))) (pr_val (pd_fix (s_ix I (s_r I v__law_names_0_2) (pr_val (pd_fix (s_mod (pr_val (pd_fix (s_add (s_r I v__law_names_0_6) (pr_val (pd_fix (s_mul (s_r I v__law_names_0_8) (s_r I v__law_names_0_3))))))) (pr_val s_int)))) rfl)))))) (s_r I v__law_names_0_10))) pls_nil (starEach_cons rfl)) rfl rfl rfl) rfl))) (fun _ => rfl)) (psts_one (pst_retVar (I.pv v__law_names_0_9))))))))
theorem h__law_names (T : Txt Θ) : FnAt Θ "_law_names" 2 [] 3 F__law_names := mkFn T.d__law_names fun X I => w__law_names T I
theorem w_is_name (T : Txt Θ) (I : In Θ N_is_name sc_is_name sc_is_name 0 X) : PSts X (defBody s_is_name) B_is_name :=
  (psts_one (pst_ret (px_imm (pd_and (s_isi I (n := "str") g_is_name_0_isinstance T.n_isinstance g_is_name_0_str T.n_str (by rfl) (s_r I v_is_name_0_0) rfl (by decide +kernel) (by decide +kernel)) (pd_and (sd_chain I c_lt c_le (pr_val s_int) (pr_val (pd_fix (s_blt I b_len g_is_name_0_len T.n_len (pas_cons (s_r I v_is_name_0_0) pas_nil (starEach_cons rfl)) rfl))) (pr_val (s_gint I g_is_name_0_MOST_LETTERS T.c_MOST_LETTERS (by decide +kernel))) rfl) (pd_one (pd_fix (s_blt I b_all g_is_name_0_all T.n_all (pas_cons (pr_val (pd_fix (s_comp (own := [("sign", 1)]) I (pit_seq (s_d I v_is_name_0_0)) b_is_name_1 (fun Y (J1 : In _ N_is_name rc_is_name_1 bc_is_name_1 _ Y) => ⟨(s_nm J1 t_is_name_1_1), s_yes, (sd_in J1 (s_r J1 v_is_name_1_1) (pr_val (s_gstr J1 g_is_name_1_LETTERS T.c_LETTERS (by decide +kernel))) (by with_unfolding_all rfl))⟩) (fun _ => rfl)))) pas_nil (starEach_cons rfl)) rfl))))))))
theorem h_is_name (T : Txt Θ) : FnAt Θ "is_name" 1 [] 1 F_is_name := mkFn T.d_is_name fun X I => w_is_name T I
theorem w_are_marks (T : Txt Θ) (I : In Θ N_are_marks sc_are_marks sc_are_marks 1 X) : PSts X (defBody s_are_marks) B_are_marks :=
  (psts_cons (pst_if (sb_w (pb_or (pb_not (pb_tru (pr_val (pd_fix (s_call I (h_is_listing T) (by decide) g_are_marks_0_is_listing (pas_cons (pr_val (s_d I v_are_marks_0_0)) pas_nil (starEach_cons rfl)) rfl (by decide +kernel)))) (fun _ => rfl))) (pb_or (pb_not (sb_chain I c_le c_le (pr_val s_int) (pr_val (pd_fix (s_blt I b_len g_are_marks_0_len T.n_len (pas_cons (s_r I v_are_marks_0_0) pas_nil (starEach_cons rfl)) rfl))) (pr_val (s_gint I g_are_marks_0_MOST_MARKS T.c_MOST_MARKS (by decide +kernel))) rfl)) (pb_or1 (pb_not (pb_tru (pr_val (pd_fix (s_blt I b_all g_are_marks_0_all T.n_all (pas_cons (pr_val (pd_fix (s_comp (own := [("mark", 1)]) I (pit_seq (s_d I v_are_marks_0_0)) b_are_marks_1 (fun Y (J1 : In _ N_are_marks rc_are_marks_1 bc_are_marks_1 _ Y) => ⟨(s_nm J1 t_are_marks_1_1), s_yes, (pd_fix (s_call J1 (h_is_name T) (by decide) g_are_marks_1_is_name (pas_cons (pr_val (s_d J1 v_are_marks_1_1)) pas_nil (starEach_cons rfl)) rfl (by decide +kernel)))⟩) (fun _ => rfl)))) pas_nil (starEach_cons rfl)) rfl))) (fun _ => rfl))))))) (psts_one (pst_ret (px_imm s_bl))) psts_nil) (psts_one (pst_ret (px_imm (sd_cmp I c_eq (pr_val (pd_fix (s_lenSet I g_are_marks_0_len T.n_len g_are_marks_0_set T.n_set (s_d I v_are_marks_0_0) rfl))) (pr_val (pd_fix (s_blt I b_len g_are_marks_0_len T.n_len (pas_cons (s_r I v_are_marks_0_0) pas_nil (starEach_cons rfl)) rfl))))))))
theorem h_are_marks (T : Txt Θ) : FnAt Θ "are_marks" 1 [] 2 F_are_marks := mkFn T.d_are_marks fun X I => w_are_marks T I
theorem w_is_pair_of (T : Txt Θ) (I : In Θ N_is_pair_of sc_is_pair_of sc_is_pair_of 1 X) : PSts X (defBody s_is_pair_of) B_is_pair_of :=
  (psts_cons (pst_if (sb_w (pb_or (pb_not (pb_tru (pr_val (pd_fix (s_call I (h_is_listing T) (by decide) g_is_pair_of_0_is_listing (pas_cons (pr_val (s_d I v_is_pair_of_0_1)) pas_nil (starEach_cons rfl)) rfl (by decide +kernel)))) (fun _ => rfl))) (pb_or1 (sb_cmp I c_ne (pr_val (pd_fix (s_blt I b_len g_is_pair_of_0_len T.n_len (pas_cons (s_r I v_is_pair_of_0_1) pas_nil (starEach_cons rfl)) rfl))) (pr_val s_int))))) (psts_one (pst_ret (px_imm s_bl))) psts_nil) (psts_one (pst_ret (s_blt I b_all g_is_pair_of_0_all T.n_all (pas_cons (pr_val (pd_fix (s_comp (own := [("mark", 2)]) I (pit_seq (s_d I v_is_pair_of_0_1)) b_is_pair_of_1 (fun Y (J1 : In _ N_is_pair_of rc_is_pair_of_1 bc_is_pair_of_1 _ Y) => ⟨(s_nm J1 t_is_pair_of_1_2), s_yes, (pd_and (s_isi J1 (n := "str") g_is_pair_of_1_isinstance T.n_isinstance g_is_pair_of_1_str T.n_str (by rfl) (s_r J1 v_is_pair_of_1_2) rfl (by decide +kernel) (by decide +kernel)) (pd_one (sd_in J1 (s_r J1 v_is_pair_of_1_2) (s_r J1 v_is_pair_of_1_0) (by with_unfolding_all rfl))))⟩) (fun _ => rfl)))) pas_nil (starEach_cons rfl)) rfl))))
theorem h_is_pair_of (T : Txt Θ) : FnAt Θ "is_pair_of" 2 [] 2 F_is_pair_of := mkFn T.d_is_pair_of fun X I => w_is_pair_of T I
theorem w_are_pairs (T : Txt Θ) (I : In Θ N_are_pairs sc_are_pairs sc_are_pairs 2 X) : PSts X (defBody s_are_pairs) B_are_pairs :=
  (psts_cons (pst_if (sb_w (pb_or (pb_not (pb_tru (pr_val (pd_fix (s_call I (h_is_listing T) (by decide) g_are_pairs_0_is_listing (pas_cons (pr_val (s_d I v_are_pairs_0_1)) pas_nil (starEach_cons rfl)) rfl (by decide +kernel)))) (fun _ => rfl))) (pb_or1 (sb_cmp I c_ne (pr_val (pd_fix (s_blt I b_len g_are_pairs_0_len T.n_len (pas_cons (s_r I v_are_pairs_0_1) pas_nil (starEach_cons rfl)) rfl))) (pr_val (pd_fix (s_blt I b_len g_are_pairs_0_len T.n_len (pas_cons (s_r I v_are_pairs_0_0) pas_nil (starEach_cons rfl)) rfl))))))) (psts_one (pst_ret (px_imm s_bl))) psts_nil) (psts_cons (pst_if (pb_not (pb_tru (pr_val (pd_fix (s_blt I b_all g_are_pairs_0_all T.n_all (pas_cons (pr_val (pd_fix (s_comp (own := [("line", 2)]) I (pit_seq (s_d I v_are_pairs_0_1)) b_are_pairs_1 (fun Y (J1 : In _ N_are_pairs rc_are_pairs_1 bc_are_pairs_1 _ Y) => ⟨(s_nm J1 t_are_pairs_1_2), s_yes, (pd_and (pd_fix (s_call J1 (h_is_listing T) (by decide) g_are_pairs_1_is_listing (pas_cons (pr_val (s_d J1 v_are_pairs_1_2)) pas_nil (starEach_cons rfl)) rfl (by decide +kernel))) (pd_one (sd_cmp J1 c_eq (pr_val (pd_fix (s_blt J1 b_len g_are_pairs_1_len T.n_len (pas_cons (s_r J1 v_are_pairs_1_2) pas_nil (starEach_cons rfl)) rfl))) (pr_val (pd_fix (s_blt J1 b_len g_are_pairs_1_len T.n_len (pas_cons (s_r J1 v_are_pairs_1_0) pas_nil (starEach_cons rfl)) rfl))))))⟩) (fun _ => rfl)))) pas_nil (starEach_cons rfl)) rfl))) (fun _ => rfl))) (psts_one (pst_ret (px_imm s_bl))) psts_nil) (psts_one (pst_ret (s_blt I b_all g_are_pairs_0_all T.n_all (pas_cons (pr_val (pd_fix (s_comp2 (own := [("line", 2), ("pair", 3)]) I (pit_seq (s_d I v_are_pairs_0_1)) b_are_pairs_2 (by decide) (fun Y (J2 : In _ N_are_pairs rc_are_pairs_2 bc_are_pairs_2 _ Y) => ⟨(s_nm J2 t_are_pairs_2_2), s_yes, (pd_fix (s_call J2 (h_is_pair_of T) (by decide) g_are_pairs_2_is_pair_of (pas_cons (pr_val (s_d J2 v_are_pairs_2_0)) (pas_cons (pr_val (s_d J2 v_are_pairs_2_3)) pas_nil (starEach_cons rfl)) (starEach_cons rfl)) rfl (by decide +kernel))), (pit_seq (s_d J2 v_are_pairs_2_2)), (s_nm J2 t_are_pairs_2_3), s_yes⟩) (fun _ => rfl) (fun _ _ => rfl)))) pas_nil (starEach_cons rfl)) rfl)))))
theorem h_are_pairs (T : Txt Θ) : FnAt Θ "are_pairs" 2 [] 3 F_are_pairs := mkFn T.d_are_pairs fun X I => w_are_pairs T I
theorem w_Table___init__ (T : Txt Θ) (I : In Θ N_Table___init__ sc_Table___init__ sc_Table___init__ 3 X) : PSts X (defBody s_Table___init__) B_Table___init__ :=
  (psts_cons (pst_if (pb_not (pb_tru (pr_val (pd_fix (s_call I (h_are_marks T) (by decide) g_Table___init___0_are_marks (pas_cons (pr_val (s_d I v_Table___init___0_1)) pas_nil (starEach_cons rfl)) rfl (by decide +kernel)))) (fun _ => rfl))) (psts_one pst_never) psts_nil) (psts_cons (s_fldS I T.fl (s_r I v_Table___init___0_0) (pd_fix (s_blt I b_tuple g_Table___init___0_tuple T.n_tuple (pas_cons (s_r I v_Table___init___0_1) pas_nil (starEach_cons rfl)) rfl)) rfl) (psts_cons (pst_if (pb_not (pb_tru (pr_val (pd_fix (s_call I (h_are_pairs T) (by decide) g_Table___init___0_are_pairs (pas_cons (pr_val (pd_fix (s_fld I T.fl (s_r I v_Table___init___0_0) rfl))) (pas_cons (pr_val (s_d I v_Table___init___0_2)) pas_nil (starEach_cons rfl)) (starEach_cons rfl)) rfl (by decide +kernel)))) (fun _ => rfl))) (psts_one pst_never) psts_nil) (s_known I T.fl v_Table___init___0_0 v_Table___init___0_0 v_Table___init___0_0 v_Table___init___0_0 g_Table___init___0_zip T.n_zip (s_d I v_Table___init___0_2) (s_d I v_Table___init___0_4) (pd_fix (s_blt I b_tuple g_Table___init___0_tuple T.n_tuple (pas_cons (s_r I v_Table___init___0_6) pas_nil (starEach_cons rfl)) rfl)) (pls_cons (s_d I v_Table___init___0_3) (pls_cons (s_d I v_Table___init___0_5) pls_nil (starEach_cons rfl)) (starEach_cons rfl)) (s_ttup I (s_tcons (s_nm I t_Table___init___0_3) (s_tcons (s_nm I t_Table___init___0_4) pgt_nil rfl) rfl) rfl rfl) (s_ttup I (s_tcons (s_nm I t_Table___init___0_5) (s_tcons (s_nm I t_Table___init___0_6) pgt_nil rfl) rfl) rfl rfl) rfl rfl rfl rfl (fun _ => rfl) (fun _ => rfl)))))
theorem h_Table___init__ (T : Txt Θ) : MkAt Θ "Table" 2 4 F_Table___init__ := mkMk T.d_Table___init__ fun X I => w_Table___init__ T I
theorem w_Table_has (T : Txt Θ) (I : In Θ N_Table_has sc_Table_has sc_Table_has 0 X) : PSts X (defBody s_Table_has) B_Table_has :=
  (psts_one (pst_ret (px_imm (pd_and (s_isi I (n := "str") g_Table_has_0_isinstance T.n_isinstance g_Table_has_0_str T.n_str (by rfl) (s_r I v_Table_has_0_1) rfl (by decide +kernel) (by decide +kernel)) (pd_one (sd_in I (s_r I v_Table_has_0_1) (pr_val (pd_fix (s_fld I T.fl (s_r I v_Table_has_0_0) rfl))) (by with_unfolding_all rfl)))))))
theorem h_Table_has (T : Txt Θ) : MethAt Θ "Table" "has" 2 1 F_Table_has := mkMeth T.d_Table_has fun X I => w_Table_has T I
theorem w_row_fault (T : Txt Θ) (I : In Θ N_row_fault sc_row_fault sc_row_fault 1 X) : PSts X (defBody s_row_fault) B_row_fault :=
  (psts_cons (pst_if (sb_w (pb_or (pb_not (pb_tru (pr_val (pd_fix (s_call I (h_is_listing T) (by decide) g_row_fault_0_is_listing (pas_cons (pr_val (s_d I v_row_fault_0_1)) pas_nil (starEach_cons rfl)) rfl (by decide +kernel)))) (fun _ => rfl))) (pb_or1 (pb_not (sb_chain I c_le c_le (pr_val s_int) (pr_val (pd_fix (s_blt I b_len g_row_fault_0_len T.n_len (pas_cons (s_r I v_row_fault_0_1) pas_nil (starEach_cons rfl)) rfl))) (pr_val (s_gint I g_row_fault_0_PLACES T.c_PLACES (by decide +kernel))) rfl))))) (psts_one (pst_ret (px_imm s_neg))) psts_nil) (psts_cons (s_for I (s_enum I g_row_fault_0_enumerate T.n_enumerate (pls_cons (s_d I v_row_fault_0_1) pls_nil (starEach_cons rfl)) rfl) (s_ttup I (s_tcons (s_nm I t_row_fault_0_2) (s_tcons (s_nm I t_row_fault_0_3) pgt_nil rfl) rfl) rfl rfl) (psts_one (pst_if (pb_not (pb_tru (pr_val (pd_fix (s_meth I (h_Table_has T) (by decide) (s_d I v_row_fault_0_0) (pas_cons (pr_val (s_d I v_row_fault_0_3)) pas_nil (starEach_cons rfl)) rfl rfl rfl (by decide)))) (fun _ => rfl))) (psts_one (pst_retVar (I.pv v_row_fault_0_2))) psts_nil)) (fun _ => rfl)) (psts_one (pst_ret (px_imm s_non)))))
theorem h_row_fault (T : Txt Θ) : FnAt Θ "row_fault" 2 [] 2 F_row_fault := mkFn T.d_row_fault fun X I => w_row_fault T I
theorem w_need_row (T : Txt Θ) (I : In Θ N_need_row sc_need_row sc_need_row 2 X) : PSts X (defBody s_need_row) B_need_row :=
  (psts_cons (s_set I t_need_row_0_2 (s_call I (h_row_fault T) (by decide) g_need_row_0_row_fault (pas_cons (pr_val (s_d I v_need_row_0_0)) (pas_cons (pr_val (s_d I v_need_row_0_1)) pas_nil (starEach_cons rfl)) (starEach_cons rfl)) rfl (by decide +kernel)) rfl) (psts_cons (pst_if (sb_cmp I c_isnot (s_r I v_need_row_0_2) (pr_val s_non)) (psts_one pst_never) psts_nil) (psts_one (pst_ret (s_blt I b_tuple g_need_row_0_tuple T.n_tuple (pas_cons (s_r I v_need_row_0_1) pas_nil (starEach_cons rfl)) rfl)))))
theorem h_need_row (T : Txt Θ) : FnAt Θ "need_row" 2 [] 3 F_need_row := mkFn T.d_need_row fun X I => w_need_row T I
theorem w_Table_need_mark (T : Txt Θ) (I : In Θ N_Table_need_mark sc_Table_need_mark sc_Table_need_mark 1 X) : PSts X (defBody s_Table_need_mark) B_Table_need_mark :=
  (psts_one (pst_if (pb_not (pb_tru (pr_val (pd_fix (s_meth I (h_Table_has T) (by decide) (s_d I v_Table_need_mark_0_0) (pas_cons (pr_val (s_d I v_Table_need_mark_0_1)) pas_nil (starEach_cons rfl)) rfl rfl rfl (by decide)))) (fun _ => rfl))) (psts_one pst_never) psts_nil))
theorem h_Table_need_mark (T : Txt Θ) : MethAt Θ "Table" "need_mark" 2 2 F_Table_need_mark := mkMeth T.d_Table_need_mark fun X I => w_Table_need_mark T I
theorem w_Table_passed (T : Txt Θ) (I : In Θ N_Table_passed sc_Table_passed sc_Table_passed 2 X) : PSts X (defBody s_Table_passed) B_Table_passed :=
  (psts_cons (pst_expr (s_meth I (h_Table_need_mark T) (by decide) (s_d I v_Table_passed_0_0) (pas_cons (pr_val (s_d I v_Table_passed_0_1)) pas_nil (starEach_cons rfl)) rfl rfl rfl (by decide)) rfl) (psts_cons (pst_expr (s_meth I (h_Table_need_mark T) (by decide) (s_d I v_Table_passed_0_0) (pas_cons (pr_val (s_d I v_Table_passed_0_2)) pas_nil (starEach_cons rfl)) rfl rfl rfl (by decide)) rfl) (psts_one (pst_ret (s_ix I (pr_val (pd_fix (s_fld I T.fl (s_r I v_Table_passed_0_0) rfl))) (pr_val (pd_fix (px_tup (pls_cons (s_d I v_Table_passed_0_1) (pls_cons (s_d I v_Table_passed_0_2) pls_nil (starEach_cons rfl)) (starEach_cons rfl))))) rfl)))))
theorem h_Table_passed (T : Txt Θ) : MethAt Θ "Table" "passed" 3 3 F_Table_passed := mkMeth T.d_Table_passed fun X I => w_Table_passed T I
theorem w_pass_at (T : Txt Θ) (I : In Θ N_pass_at sc_pass_at sc_pass_at 3 X) : PSts X (defBody s_pass_at) B_pass_at :=
  (psts_one (pst_ret (s_add (pr_val (pd_fix (s_add (pr_val (pd_fix (px_sl (s_r I v_pass_at_0_1) po_noneD (po_someD (s_d I v_pass_at_0_2))))) (pr_val (pd_fix (s_meth I (h_Table_passed T) (by decide) (s_d I v_pass_at_0_0) (pas_cons (pr_val (pd_fix (s_ix I (s_r I v_pass_at_0_1) (s_r I v_pass_at_0_2) rfl))) (pas_cons (pr_val (pd_fix (s_ix I (s_r I v_pass_at_0_1) (pr_val (pd_fix (s_add (s_r I v_pass_at_0_2) (pr_val s_int)))) rfl))) pas_nil (starEach_cons rfl)) (starEach_cons rfl)) rfl rfl rfl (by decide))))))) (pr_val (pd_fix (px_sl (s_r I v_pass_at_0_1) (po_someD (pd_fix (s_add (s_r I v_pass_at_0_2) (pr_val s_int)))) po_noneD))))))
theorem h_pass_at (T : Txt Θ) : FnAt Θ "pass_at" 3 [] 4 F_pass_at := mkFn T.d_pass_at fun X I => w_pass_at T I
theorem w_row_behind (T : Txt Θ) (I : In Θ N_row_behind sc_row_behind sc_row_behind 4 X) : PSts X (defBody s_row_behind) B_row_behind :=
  (psts_cons (s_set I t_row_behind_0_3 (s_call I (h_need_row T) (by decide) g_row_behind_0_need_row (pas_cons (pr_val (s_d I v_row_behind_0_0)) (pas_cons (pr_val (s_d I v_row_behind_0_1)) pas_nil (starEach_cons rfl)) (starEach_cons rfl)) rfl (by decide +kernel)) rfl) (psts_cons (s_for I (pit_seq (pd_fix (s_call I (h_need_word T) (by decide) g_row_behind_0_need_word (pas_cons (pr_val (pd_fix (s_blt I b_len g_row_behind_0_len T.n_len (pas_cons (s_r I v_row_behind_0_3) pas_nil (starEach_cons rfl)) rfl))) (pas_cons (pr_val (s_d I v_row_behind_0_2)) pas_nil (starEach_cons rfl)) (starEach_cons rfl)) rfl (by decide +kernel)))) (s_nm I t_row_behind_0_4) (psts_one (s_set I t_row_behind_0_3 (s_call I (h_pass_at T) (by decide) g_row_behind_0_pass_at (pas_cons (pr_val (s_d I v_row_behind_0_0)) (pas_cons (pr_val (s_d I v_row_behind_0_3)) (pas_cons (pr_val (s_d I v_row_behind_0_4)) pas_nil (starEach_cons rfl)) (starEach_cons rfl)) (starEach_cons rfl)) rfl (by decide +kernel)) rfl)) (fun _ => rfl)) (psts_one (pst_retVar (I.pv v_row_behind_0_3)))))
theorem h_row_behind (T : Txt Θ) : FnAt Θ "row_behind" 3 [] 5 F_row_behind := mkFn T.d_row_behind fun X I => w_row_behind T I
theorem w_law (T : Txt Θ) (I : In Θ N_law sc_law sc_law 5 X) : PSts X (defBody s_law) B_law :=
  (psts_cons (s_set I t_law_0_1 (s_call I (h__law_pen T) (by decide) g_law_0__law_pen (pas_cons (pr_val (s_d I v_law_0_0)) pas_nil (starEach_cons rfl)) rfl (by decide +kernel)) rfl) (psts_cons (s_for I (s_rg1 I g_law_0_range T.n_range (pas_cons (pr_val s_int) pas_nil (starEach_cons rfl)) rfl) (s_nm I t_law_0_2) (psts_cons (s_set I t_law_0_3 (s_add (pr_val s_int) (pr_val (pd_fix (s_call I (h__law_draw T) (by decide) g_law_0__law_draw (pas_cons (s_r I v_law_0_1) (pas_cons (pr_val (pd_fix (s_ix I (pr_val (pd_fix (px_lst (pls_cons s_int (pls_cons s_int (pls_cons s_int pls_nil (starEach_cons rfl)) (starEach_cons rfl)) (starEach_cons rfl))))) (pr_val (pd_fix (s_call I (h__law_draw T) (by decide) g_law_0__law_draw (pas_cons (s_r I v_law_0_1) (pas_cons (pr_val s_int) pas_nil (starEach_cons rfl)) (starEach_cons rfl)) rfl (by decide +kernel)))) rfl))) pas_nil (starEach_cons rfl)) (starEach_cons rfl)) rfl (by decide +kernel))))) rfl) (psts_cons (s_setComp (own := [("_law_k", 12)]) I l_law_0_4 rfl rfl n_law_1 (s_rg1 I g_law_0_range T.n_range (pas_cons (pr_val s_int) pas_nil (starEach_cons rfl)) rfl) b_law_1 (fun Y (J1 : In _ N_law rc_law_1 bc_law_1 _ Y) => ⟨(s_nm J1 t_law_1_12), s_yes, (pd_fix (s_call J1 (h__law_word T) (by decide) g_law_1__law_word (pas_cons (s_r J1 v_law_1_1) (pas_cons (pr_val (s_d J1 v_law_1_3)) (pas_cons (pr_val s_int) pas_nil (starEach_cons rfl)) (starEach_cons rfl)) (starEach_cons rfl)) rfl (by decide +kernel)))⟩) (fun _ => rfl)) (psts_cons (s_asg (pd_fix (s_comp (own := [("_law_word_here", 13)]) I (pit_seq (s_d I v_law_0_4)) b_law_2 (fun Y (J2 : In _ N_law rc_law_2 bc_law_2 _ Y) => ⟨(s_nm J2 t_law_2_13), s_yes, (pd_fix (s_call J2 (h_order_of T) (by decide) g_law_2_order_of (pas_cons (pr_val (s_d J2 v_law_2_3)) (pas_cons (pr_val (s_d J2 v_law_2_13)) pas_nil (starEach_cons rfl)) (starEach_cons rfl)) rfl (by decide +kernel)))⟩) (fun _ => rfl))) (s_ttup I (s_tcons (s_nm I t_law_0_5) (s_tcons (s_nm I t_law_0_6) (s_tcons (s_nm I t_law_0_7) pgt_nil rfl) rfl) rfl) rfl rfl) (by with_unfolding_all rfl) (by with_unfolding_all rfl) rfl) (psts_cons (pst_if (sb_cmp I c_ne (pr_val (pd_fix (s_call I (h_order_of T) (by decide) g_law_0_order_of (pas_cons (pr_val (s_d I v_law_0_3)) (pas_cons (pr_val (pd_fix (s_add (pr_val (pd_fix (s_ix I (s_r I v_law_0_4) (pr_val s_int) rfl))) (pr_val (pd_fix (s_ix I (s_r I v_law_0_4) (pr_val s_int) rfl)))))) pas_nil (starEach_cons rfl)) (starEach_cons rfl)) rfl (by decide +kernel)))) (pr_val (pd_fix (s_call I (h_joined T) (by decide) g_law_0_joined (pas_cons (pr_val (s_d I v_law_0_5)) (pas_cons (pr_val (s_d I v_law_0_6)) pas_nil (starEach_cons rfl)) (starEach_cons rfl)) rfl (by decide +kernel))))) (psts_one (pst_ret (px_imm s_bl))) psts_nil) (psts_cons (pst_if (sb_cmp I c_ne (pr_val (pd_fix (s_call I (h_joined T) (by decide) g_law_0_joined (pas_cons (pr_val (pd_fix (s_call I (h_joined T) (by decide) g_law_0_joined (pas_cons (pr_val (s_d I v_law_0_5)) (pas_cons (pr_val (s_d I v_law_0_6)) pas_nil (starEach_cons rfl)) (starEach_cons rfl)) rfl (by decide +kernel)))) (pas_cons (pr_val (s_d I v_law_0_7)) pas_nil (starEach_cons rfl)) (starEach_cons rfl)) rfl (by decide +kernel)))) (pr_val (pd_fix (s_call I (h_joined T) (by decide) g_law_0_joined (pas_cons (pr_val (s_d I v_law_0_5)) (pas_cons (pr_val (pd_fix (s_call I (h_joined T) (by decide) g_law_0_joined (pas_cons (pr_val (s_d I v_law_0_6)) (pas_cons (pr_val (s_d I v_law_0_7)) pas_nil (starEach_cons rfl)) (starEach_cons rfl)) rfl (by decide +kernel)))) pas_nil (starEach_cons rfl)) (starEach_cons rfl)) rfl (by decide +kernel))))) (psts_one (pst_ret (px_imm s_bl))) psts_nil) (psts_cons (s_set I t_law_0_8 (s_tupRg I g_law_0_tuple T.n_tuple g_law_0_range T.n_range (s_d I v_law_0_3) rfl) rfl) (psts_cons (pst_if (sb_w (pb_or (sb_cmp I c_ne (pr_val (pd_fix (s_call I (h_joined T) (by decide) g_law_0_joined (pas_cons (pr_val (s_d I v_law_0_5)) (pas_cons (pr_val (pd_fix (s_call I (h_undone T) (by decide) g_law_0_undone (pas_cons (pr_val (s_d I v_law_0_5)) pas_nil (starEach_cons rfl)) rfl (by decide +kernel)))) pas_nil (starEach_cons rfl)) (starEach_cons rfl)) rfl (by decide +kernel)))) (s_r I v_law_0_8)) (pb_or (sb_cmp I c_ne (pr_val (pd_fix (s_call I (h_joined T) (by decide) g_law_0_joined (pas_cons (pr_val (pd_fix (s_call I (h_undone T) (by decide) g_law_0_undone (pas_cons (pr_val (s_d I v_law_0_5)) pas_nil (starEach_cons rfl)) rfl (by decide +kernel)))) (pas_cons (pr_val (s_d I v_law_0_5)) pas_nil (starEach_cons rfl)) (starEach_cons rfl)) rfl (by decide +kernel)))) (s_r I v_law_0_8)) (pb_or1 (sb_cmp I c_ne (pr_val (pd_fix (s_call I (h_undone T) (by decide) g_law_0_undone (pas_cons (pr_val (pd_fix (s_call I (h_undone T) (by decide) g_law_0_undone (pas_cons (pr_val (s_d I v_law_0_5)) pas_nil (starEach_cons rfl)) rfl (by decide +kernel)))) pas_nil (starEach_cons rfl)) rfl (by decide +kernel)))) (s_r I v_law_0_5)))))) (psts_one (pst_ret (px_imm s_bl))) psts_nil) (psts_cons (pst_if (sb_cmp I c_ne (pr_val (pd_fix (s_call I (h_undone T) (by decide) g_law_0_undone (pas_cons (pr_val (pd_fix (s_call I (h_joined T) (by decide) g_law_0_joined (pas_cons (pr_val (s_d I v_law_0_5)) (pas_cons (pr_val (s_d I v_law_0_6)) pas_nil (starEach_cons rfl)) (starEach_cons rfl)) rfl (by decide +kernel)))) pas_nil (starEach_cons rfl)) rfl (by decide +kernel)))) (pr_val (pd_fix (s_call I (h_joined T) (by decide) g_law_0_joined (pas_cons (pr_val (pd_fix (s_call I (h_undone T) (by decide) g_law_0_undone (pas_cons (pr_val (s_d I v_law_0_6)) pas_nil (starEach_cons rfl)) rfl (by decide +kernel)))) (pas_cons (pr_val (pd_fix (s_call I (h_undone T) (by decide) g_law_0_undone (pas_cons (pr_val (s_d I v_law_0_5)) pas_nil (starEach_cons rfl)) rfl (by decide +kernel)))) pas_nil (starEach_cons rfl)) (starEach_cons rfl)) rfl (by decide +kernel))))) (psts_one (pst_ret (px_imm s_bl))) psts_nil) (psts_cons (pst_if (sb_w (pb_or (sb_cmp I c_ne (pr_val (pd_fix (s_call I (h_order_of T) (by decide) g_law_0_order_of (pas_cons (pr_val (s_d I v_law_0_3)) (pas_cons (pr_val (pd_fix (px_rev (pr_val (pd_fix (s_ix I (s_r I v_law_0_4) (pr_val s_int) rfl)))))) pas_nil (starEach_cons rfl)) (starEach_cons rfl)) rfl (by decide +kernel)))) (pr_val (pd_fix (s_call I (h_undone T) (by decide) g_law_0_undone (pas_cons (pr_val (s_d I v_law_0_5)) pas_nil (starEach_cons rfl)) rfl (by decide +kernel))))) (pb_or1 (sb_cmp I c_ne (pr_val (pd_fix (s_call I (h_order_of T) (by decide) g_law_0_order_of (pas_cons (pr_val (s_d I v_law_0_3)) (pas_cons (pr_val (pd_fix (px_tup pls_nil))) pas_nil (starEach_cons rfl)) (starEach_cons rfl)) rfl (by decide +kernel)))) (s_r I v_law_0_8))))) (psts_one (pst_ret (px_imm s_bl))) psts_nil) (psts_cons (s_set I t_law_0_9 (s_call I (h__law_names T) (by decide) g_law_0__law_names (pas_cons (s_r I v_law_0_1) (pas_cons (pr_val (pd_fix (s_add (pr_val s_int) (pr_val (pd_fix (s_call I (h__law_draw T) (by decide) g_law_0__law_draw (pas_cons (s_r I v_law_0_1) (pas_cons (pr_val s_int) pas_nil (starEach_cons rfl)) (starEach_cons rfl)) rfl (by decide +kernel))))))) pas_nil (starEach_cons rfl)) (starEach_cons rfl)) rfl (by decide +kernel)) rfl) (psts_cons (s_set I t_law_0_10 (px_imm (pd_fix (s_make I (h_Table___init__ T) (by decide) g_law_0_Table (pls_cons (s_d I v_law_0_9) (pls_cons (pd_fix (s_comp (own := [("_law_mark", 14)]) I (pit_seq (s_d I v_law_0_9)) b_law_3 (fun Y (J3 : In _ N_law rc_law_3 bc_law_3 _ Y) => ⟨(s_nm J3 t_law_3_14), s_yes, (pd_fix (s_comp (own := [("_law_other", 15)]) J3 (pit_seq (s_d J3 v_law_3_9)) b_law_4 (fun Y (J4 : In _ N_law rc_law_4 bc_law_4 _ Y) => ⟨(s_nm J4 t_law_4_15), s_yes, (pd_fix (px_tup (pls_cons (s_d J4 v_law_4_15) (pls_cons (s_d J4 v_law_4_14) pls_nil (starEach_cons rfl)) (starEach_cons rfl))))⟩) (fun _ => rfl)))⟩) (fun _ => rfl))) pls_nil (starEach_cons rfl)) (starEach_cons rfl)) rfl (by decide +kernel)))) rfl) (psts_cons (s_set I t_law_0_11 (s_blt I b_tuple g_law_0_tuple T.n_tuple (pas_cons (pr_val (pd_fix (s_comp (own := [("_law_k", 12)]) I (s_rg1 I g_law_0_range T.n_range (pas_cons (s_r I v_law_0_3) pas_nil (starEach_cons rfl)) rfl) b_law_5 (fun Y (J5 : In _ N_law rc_law_5 bc_law_5 _ Y) => ⟨(s_nm J5 t_law_5_12), s_yes, (pd_fix (s_call J5 (h__law_pick T) (by decide) g_law_5__law_pick (pas_cons (s_r J5 v_law_5_1) (pas_cons (pr_val (s_d J5 v_law_5_9)) pas_nil (starEach_cons rfl)) (starEach_cons rfl)) rfl (by decide +kernel)))⟩) (fun _ => rfl)))) pas_nil (starEach_cons rfl)) rfl) rfl) (psts_cons (pst_if (sb_cmp I c_ne (pr_val (pd_fix (s_call I (h_row_behind T) (by decide) g_law_0_row_behind (pas_cons (pr_val (s_d I v_law_0_10)) (pas_cons (pr_val (s_d I v_law_0_11)) (pas_cons (pr_val (pd_fix (s_ix I (s_r I v_law_0_4) (pr_val s_int) rfl))) pas_nil (starEach_cons rfl)) (starEach_cons rfl)) (starEach_cons rfl)) rfl (by decide +kernel)))) (pr_val (pd_fix (s_blt I b_tuple g_law_0_tuple T.n_tuple (pas_cons (pr_val (pd_fix (s_comp (own := [("_law_runner", 16)]) I (pit_seq (s_d I v_law_0_5)) b_law_6 (fun Y (J6 : In _ N_law rc_law_6 bc_law_6 _ Y) => ⟨(s_nm J6 t_law_6_16), s_yes, (pd_fix (s_ix J6 (s_r J6 v_law_6_11) (s_r J6 v_law_6_16) rfl))⟩) (fun _ => rfl)))) pas_nil (starEach_cons rfl)) rfl)))) (psts_one (pst_ret (px_imm s_bl))) psts_nil) (psts_one (pst_if (sb_cmp I c_ne (pr_val (pd_fix (s_call I (h_row_behind T) (by decide) g_law_0_row_behind (pas_cons (pr_val (s_d I v_law_0_10)) (pas_cons (pr_val (pd_fix (s_call I (h_row_behind T) (by decide) g_law_0_row_behind (pas_cons (pr_val (s_d I v_law_0_10)) (pas_cons (pr_val (s_d I v_law_0_11)) (pas_cons (pr_val (pd_fix (s_ix I (s_r I v_law_0_4) (pr_val s_int) rfl))) pas_nil (starEach_cons rfl)) (starEach_cons rfl)) (starEach_cons rfl)) rfl (by decide +kernel)))) (pas_cons (pr_val (pd_fix (s_ix I (s_r I v_law_0_4) (pr_val s_int) rfl))) pas_nil (starEach_cons rfl)) (starEach_cons rfl)) (starEach_cons rfl)) rfl (by decide +kernel)))) (pr_val (pd_fix (s_blt I b_tuple g_law_0_tuple T.n_tuple (pas_cons (pr_val (pd_fix (s_comp (own := [("_law_k", 12)]) I (pit_seq (pd_fix (s_call I (h_joined T) (by decide) g_law_0_joined (pas_cons (pr_val (s_d I v_law_0_5)) (pas_cons (pr_val (s_d I v_law_0_6)) pas_nil (starEach_cons rfl)) (starEach_cons rfl)) rfl (by decide +kernel)))) b_law_7 (fun Y (J7 : In _ N_law rc_law_7 bc_law_7 _ Y) => ⟨(s_nm J7 t_law_7_12), s_yes, (pd_fix (s_ix J7 (s_r J7 v_law_7_11) (s_r J7 v_law_7_12) rfl))⟩) (fun _ => rfl)))) pas_nil (starEach_cons rfl)) rfl)))) (psts_one (pst_ret (px_imm s_bl))) psts_nil))))))))))))))) (fun _ => rfl)) (psts_one (pst_ret (px_imm s_bl)))))
theorem h_law (T : Txt Θ) : FnAt Θ "law" 1 [] 6 F_law := mkFn T.d_law fun X I => w_law T I
end
theorem txt_mk {P : Program} {w : World} {K : PySem.W.Frag} {mg : Str → Option Value} {h base : Heap} (X : K.In h) (G : h.Ns mainGlobals mg) {t_LETTERS : Nat} {t_MOST_LETTERS : Nat} {t_MOST_MARKS : Nat} {t_PLACES : Nat} {t_WORD : Nat} {C_Table : Addr} {f_Table___init__ : Addr} {od_Table___init__ an_Table___init__ : Option Addr} {sl_Table___init__ : Array (Option Value)} {oc_Table___init__ kV_Table___init__ dc_Table___init__ pm_Table___init__ cd_Table___init__ ct_Table___init__ : Value} {f_Table_has : Addr} {od_Table_has an_Table_has : Option Addr} {sl_Table_has : Array (Option Value)} {oc_Table_has kV_Table_has dc_Table_has pm_Table_has cd_Table_has ct_Table_has : Value} {f_Table_need_mark : Addr} {od_Table_need_mark an_Table_need_mark : Option Addr} {sl_Table_need_mark : Array (Option Value)} {oc_Table_need_mark kV_Table_need_mark dc_Table_need_mark pm_Table_need_mark cd_Table_need_mark ct_Table_need_mark : Value} {f_Table_passed : Addr} {od_Table_passed an_Table_passed : Option Addr} {sl_Table_passed : Array (Option Value)} {oc_Table_passed kV_Table_passed dc_Table_passed pm_Table_passed cd_Table_passed ct_Table_passed : Value} {f__law_pen : Addr} {od__law_pen an__law_pen : Option Addr} {sl__law_pen : Array (Option Value)} {oc__law_pen kV__law_pen dc__law_pen pm__law_pen cd__law_pen ct__law_pen : Value} {f__law_draw : Addr} {od__law_draw an__law_draw : Option Addr} {sl__law_draw : Array (Option Value)} {oc__law_draw kV__law_draw dc__law_draw pm__law_draw cd__law_draw ct__law_draw : Value} {f__law_word : Addr} {od__law_word an__law_word : Option Addr} {sl__law_word : Array (Option Value)} {oc__law_word kV__law_word dc__law_word pm__law_word cd__law_word ct__law_word : Value} {f_is_whole : Addr} {od_is_whole an_is_whole : Option Addr} {sl_is_whole : Array (Option Value)} {oc_is_whole kV_is_whole dc_is_whole pm_is_whole cd_is_whole ct_is_whole : Value} {T_need_places : Addr} {oT_need_places : Value} {dT_need_places : Option Addr} {iT_need_places : Array Value} {nT_need_places : Nat} {sT_need_places : Array (Option Value)} {f_need_places : Addr} {od_need_places an_need_places : Option Addr} {sl_need_places : Array (Option Value)} {oc_need_places kV_need_places dc_need_places pm_need_places cd_need_places ct_need_places : Value} {f_is_listing : Addr} {od_is_listing an_is_listing : Option Addr} {sl_is_listing : Array (Option Value)} {oc_is_listing kV_is_listing dc_is_listing pm_is_listing cd_is_listing ct_is_listing : Value} {f_word_fault : Addr} {od_word_fault an_word_fault : Option Addr} {sl_word_fault : Array (Option Value)} {oc_word_fault kV_word_fault dc_word_fault pm_word_fault cd_word_fault ct_word_fault : Value} {f_need_word : Addr} {od_need_word an_need_word : Option Addr} {sl_need_word : Array (Option Value)} {oc_need_word kV_need_word dc_need_word pm_need_word cd_need_word ct_need_word : Value} {f_exchanged : Addr} {od_exchanged an_exchanged : Option Addr} {sl_exchanged : Array (Option Value)} {oc_exchanged kV_exchanged dc_exchanged pm_exchanged cd_exchanged ct_exchanged : Value} {f_order_of : Addr} {od_order_of an_order_of : Option Addr} {sl_order_of : Array (Option Value)} {oc_order_of kV_order_of dc_order_of pm_order_of cd_order_of ct_order_of : Value} {f_order_fault : Addr} {od_order_fault an_order_fault : Option Addr} {sl_order_fault : Array (Option Value)} {oc_order_fault kV_order_fault dc_order_fault pm_order_fault cd_order_fault ct_order_fault : Value} {f_need_order : Addr} {od_need_order an_need_order : Option Addr} {sl_need_order : Array (Option Value)} {oc_need_order kV_need_order dc_need_order pm_need_order cd_need_order ct_need_order : Value} {f_joined : Addr} {od_joined an_joined : Option Addr} {sl_joined : Array (Option Value)} {oc_joined kV_joined dc_joined pm_joined cd_joined ct_joined : Value} {f_undone : Addr} {od_undone an_undone : Option Addr} {sl_undone : Array (Option Value)} {oc_undone kV_undone dc_undone pm_undone cd_undone ct_undone : Value} {f__law_pick : Addr} {od__law_pick an__law_pick : Option Addr} {sl__law_pick : Array (Option Value)} {oc__law_pick kV__law_pick dc__law_pick pm__law_pick cd__law_pick ct__law_pick : Value} {f__law_names : Addr} {od__law_names an__law_names : Option Addr} {sl__law_names : Array (Option Value)} {oc__law_names kV__law_names dc__law_names pm__law_names cd__law_names ct__law_names : Value} {f_is_name : Addr} {od_is_name an_is_name : Option Addr} {sl_is_name : Array (Option Value)} {oc_is_name kV_is_name dc_is_name pm_is_name cd_is_name ct_is_name : Value} {f_are_marks : Addr} {od_are_marks an_are_marks : Option Addr} {sl_are_marks : Array (Option Value)} {oc_are_marks kV_are_marks dc_are_marks pm_are_marks cd_are_marks ct_are_marks : Value} {f_is_pair_of : Addr} {od_is_pair_of an_is_pair_of : Option Addr} {sl_is_pair_of : Array (Option Value)} {oc_is_pair_of kV_is_pair_of dc_is_pair_of pm_is_pair_of cd_is_pair_of ct_is_pair_of : Value} {f_are_pairs : Addr} {od_are_pairs an_are_pairs : Option Addr} {sl_are_pairs : Array (Option Value)} {oc_are_pairs kV_are_pairs dc_are_pairs pm_are_pairs cd_are_pairs ct_are_pairs : Value} {f_row_fault : Addr} {od_row_fault an_row_fault : Option Addr} {sl_row_fault : Array (Option Value)} {oc_row_fault kV_row_fault dc_row_fault pm_row_fault cd_row_fault ct_row_fault : Value} {f_need_row : Addr} {od_need_row an_need_row : Option Addr} {sl_need_row : Array (Option Value)} {oc_need_row kV_need_row dc_need_row pm_need_row cd_need_row ct_need_row : Value} {f_pass_at : Addr} {od_pass_at an_pass_at : Option Addr} {sl_pass_at : Array (Option Value)} {oc_pass_at kV_pass_at dc_pass_at pm_pass_at cd_pass_at ct_pass_at : Value} {f_row_behind : Addr} {od_row_behind an_row_behind : Option Addr} {sl_row_behind : Array (Option Value)} {oc_row_behind kV_row_behind dc_row_behind pm_row_behind cd_row_behind ct_row_behind : Value} {f_law : Addr} {od_law an_law : Option Addr} {sl_law : Array (Option Value)} {oc_law kV_law dc_law pm_law cd_law ct_law : Value}
    (z_abs : PySem.W.nsIn K mainGlobals "abs" = some none)
    (z_all : PySem.W.nsIn K mainGlobals "all" = some none)
    (z_bool : PySem.W.nsIn K mainGlobals "bool" = some none)
    (z_enumerate : PySem.W.nsIn K mainGlobals "enumerate" = some none)
    (z_int : PySem.W.nsIn K mainGlobals "int" = some none)
    (z_isinstance : PySem.W.nsIn K mainGlobals "isinstance" = some none)
    (z_len : PySem.W.nsIn K mainGlobals "len" = some none)
    (z_list : PySem.W.nsIn K mainGlobals "list" = some none)
    (z_range : PySem.W.nsIn K mainGlobals "range" = some none)
    (z_set : PySem.W.nsIn K mainGlobals "set" = some none)
    (z_str : PySem.W.nsIn K mainGlobals "str" = some none)
    (z_tuple : PySem.W.nsIn K mainGlobals "tuple" = some none)
    (z_zip : PySem.W.nsIn K mainGlobals "zip" = some none)
    (q_LETTERS : PySem.W.nsIn K mainGlobals "LETTERS" = some (some (.str "abcdefghijklmnopqrstuvwxyz" t_LETTERS)))
    (q_MOST_LETTERS : PySem.W.nsIn K mainGlobals "MOST_LETTERS" = some (some (.int 8 t_MOST_LETTERS)))
    (q_MOST_MARKS : PySem.W.nsIn K mainGlobals "MOST_MARKS" = some (some (.int 6 t_MOST_MARKS)))
    (q_PLACES : PySem.W.nsIn K mainGlobals "PLACES" = some (some (.int 60 t_PLACES)))
    (q_WORD : PySem.W.nsIn K mainGlobals "WORD" = some (some (.int 2000 t_WORD)))
    (c_Table : PySem.W.nsIn K mainGlobals "Table" = some (some (.ref C_Table)))
    (pg_Table : PySem.W.plainGet K C_Table Str.empty = true)
    (hd_Table : PySem.W.hasDictIn K C_Table = true)
    (po_Table : PySem.W.plainOver K C_Table = true)
    (sa_Table : PySem.W.findIn K (.ref C_Table) "__setattr__" = some (some (.builtin "object.__setattr__")))
    (na_Table_own_marks : PySem.W.findIn K (.ref C_Table) "own_marks" = some none)
    (na_Table_known : PySem.W.findIn K (.ref C_Table) "known" = some none)
    (mk_Table : PySem.W.makesIn K C_Table = true)
    (kc_Table : PySem.W.keepIn K (.ref C_Table) = true)
    (a_Table___init__ : PySem.W.findIn K (.ref C_Table) "__init__" = some (some (.ref f_Table___init__)))
    (i_Table___init__ : PySem.W.isFn K (.ref f_Table___init__) = true)
    (l_Table___init__ : K.lookup f_Table___init__ = some ⟨oc_Table___init__, od_Table___init__, .func (PySem.W.fnOf "__init__" "Table.__init__" (defArgs s_Table___init__) (defBody s_Table___init__) (defScope s_Table___init__) .none kV_Table___init__ dc_Table___init__ pm_Table___init__ an_Table___init__ cd_Table___init__ ct_Table___init__), sl_Table___init__⟩)
    (k_Table___init__ : PySem.W.codeIn K cd_Table___init__ "Table.__init__" = true)
    (p_Table___init__ : PySem.W.keepIn K (.ref f_Table___init__) = true)
    (a_Table_has : PySem.W.findIn K (.ref C_Table) "has" = some (some (.ref f_Table_has)))
    (i_Table_has : PySem.W.isFn K (.ref f_Table_has) = true)
    (l_Table_has : K.lookup f_Table_has = some ⟨oc_Table_has, od_Table_has, .func (PySem.W.fnOf "has" "Table.has" (defArgs s_Table_has) (defBody s_Table_has) (defScope s_Table_has) .none kV_Table_has dc_Table_has pm_Table_has an_Table_has cd_Table_has ct_Table_has), sl_Table_has⟩)
    (k_Table_has : PySem.W.codeIn K cd_Table_has "Table.has" = true)
    (p_Table_has : PySem.W.keepIn K (.ref f_Table_has) = true)
    (a_Table_need_mark : PySem.W.findIn K (.ref C_Table) "need_mark" = some (some (.ref f_Table_need_mark)))
    (i_Table_need_mark : PySem.W.isFn K (.ref f_Table_need_mark) = true)
    (l_Table_need_mark : K.lookup f_Table_need_mark = some ⟨oc_Table_need_mark, od_Table_need_mark, .func (PySem.W.fnOf "need_mark" "Table.need_mark" (defArgs s_Table_need_mark) (defBody s_Table_need_mark) (defScope s_Table_need_mark) .none kV_Table_need_mark dc_Table_need_mark pm_Table_need_mark an_Table_need_mark cd_Table_need_mark ct_Table_need_mark), sl_Table_need_mark⟩)
    (k_Table_need_mark : PySem.W.codeIn K cd_Table_need_mark "Table.need_mark" = true)
    (p_Table_need_mark : PySem.W.keepIn K (.ref f_Table_need_mark) = true)
    (a_Table_passed : PySem.W.findIn K (.ref C_Table) "passed" = some (some (.ref f_Table_passed)))
    (i_Table_passed : PySem.W.isFn K (.ref f_Table_passed) = true)
    (l_Table_passed : K.lookup f_Table_passed = some ⟨oc_Table_passed, od_Table_passed, .func (PySem.W.fnOf "passed" "Table.passed" (defArgs s_Table_passed) (defBody s_Table_passed) (defScope s_Table_passed) .none kV_Table_passed dc_Table_passed pm_Table_passed an_Table_passed cd_Table_passed ct_Table_passed), sl_Table_passed⟩)
    (k_Table_passed : PySem.W.codeIn K cd_Table_passed "Table.passed" = true)
    (p_Table_passed : PySem.W.keepIn K (.ref f_Table_passed) = true)
    (a__law_pen : PySem.W.nsIn K mainGlobals "_law_pen" = some (some (.ref f__law_pen)))
    (l__law_pen : K.lookup f__law_pen = some ⟨oc__law_pen, od__law_pen, .func (PySem.W.fnOf "_law_pen" "_law_pen" (defArgs s__law_pen) (defBody s__law_pen) (defScope s__law_pen) .none kV__law_pen dc__law_pen pm__law_pen an__law_pen cd__law_pen ct__law_pen), sl__law_pen⟩)
    (k__law_pen : PySem.W.codeIn K cd__law_pen "_law_pen" = true)
    (p__law_pen : PySem.W.keepIn K (.ref f__law_pen) = true)
    (a__law_draw : PySem.W.nsIn K mainGlobals "_law_draw" = some (some (.ref f__law_draw)))
    (l__law_draw : K.lookup f__law_draw = some ⟨oc__law_draw, od__law_draw, .func (PySem.W.fnOf "_law_draw" "_law_draw" (defArgs s__law_draw) (defBody s__law_draw) (defScope s__law_draw) .none kV__law_draw dc__law_draw pm__law_draw an__law_draw cd__law_draw ct__law_draw), sl__law_draw⟩)
    (k__law_draw : PySem.W.codeIn K cd__law_draw "_law_draw" = true)
    (p__law_draw : PySem.W.keepIn K (.ref f__law_draw) = true)
    (a__law_word : PySem.W.nsIn K mainGlobals "_law_word" = some (some (.ref f__law_word)))
    (l__law_word : K.lookup f__law_word = some ⟨oc__law_word, od__law_word, .func (PySem.W.fnOf "_law_word" "_law_word" (defArgs s__law_word) (defBody s__law_word) (defScope s__law_word) .none kV__law_word dc__law_word pm__law_word an__law_word cd__law_word ct__law_word), sl__law_word⟩)
    (k__law_word : PySem.W.codeIn K cd__law_word "_law_word" = true)
    (p__law_word : PySem.W.keepIn K (.ref f__law_word) = true)
    (a_is_whole : PySem.W.nsIn K mainGlobals "is_whole" = some (some (.ref f_is_whole)))
    (l_is_whole : K.lookup f_is_whole = some ⟨oc_is_whole, od_is_whole, .func (PySem.W.fnOf "is_whole" "is_whole" (defArgs s_is_whole) (defBody s_is_whole) (defScope s_is_whole) .none kV_is_whole dc_is_whole pm_is_whole an_is_whole cd_is_whole ct_is_whole), sl_is_whole⟩)
    (k_is_whole : PySem.W.codeIn K cd_is_whole "is_whole" = true)
    (p_is_whole : PySem.W.keepIn K (.ref f_is_whole) = true)
    (a_need_places : PySem.W.nsIn K mainGlobals "need_places" = some (some (.ref f_need_places)))
    (l_need_places : K.lookup f_need_places = some ⟨oc_need_places, od_need_places, .func (PySem.W.fnOf "need_places" "need_places" (defArgs s_need_places) (defBody s_need_places) (defScope s_need_places) (.ref T_need_places) kV_need_places dc_need_places pm_need_places an_need_places cd_need_places ct_need_places), sl_need_places⟩)
    (k_need_places : PySem.W.codeIn K cd_need_places "need_places" = true)
    (p_need_places : PySem.W.keepIn K (.ref f_need_places) = true)
    (lT_need_places : K.lookup T_need_places = some ⟨oT_need_places, dT_need_places, .seq iT_need_places nT_need_places, sT_need_places⟩)
    (r_need_places : Vals [V.int 1, V.int 60] iT_need_places.toList)
    (a_is_listing : PySem.W.nsIn K mainGlobals "is_listing" = some (some (.ref f_is_listing)))
    (l_is_listing : K.lookup f_is_listing = some ⟨oc_is_listing, od_is_listing, .func (PySem.W.fnOf "is_listing" "is_listing" (defArgs s_is_listing) (defBody s_is_listing) (defScope s_is_listing) .none kV_is_listing dc_is_listing pm_is_listing an_is_listing cd_is_listing ct_is_listing), sl_is_listing⟩)
    (k_is_listing : PySem.W.codeIn K cd_is_listing "is_listing" = true)
    (p_is_listing : PySem.W.keepIn K (.ref f_is_listing) = true)
    (a_word_fault : PySem.W.nsIn K mainGlobals "word_fault" = some (some (.ref f_word_fault)))
    (l_word_fault : K.lookup f_word_fault = some ⟨oc_word_fault, od_word_fault, .func (PySem.W.fnOf "word_fault" "word_fault" (defArgs s_word_fault) (defBody s_word_fault) (defScope s_word_fault) .none kV_word_fault dc_word_fault pm_word_fault an_word_fault cd_word_fault ct_word_fault), sl_word_fault⟩)
    (k_word_fault : PySem.W.codeIn K cd_word_fault "word_fault" = true)
    (p_word_fault : PySem.W.keepIn K (.ref f_word_fault) = true)
    (a_need_word : PySem.W.nsIn K mainGlobals "need_word" = some (some (.ref f_need_word)))
    (l_need_word : K.lookup f_need_word = some ⟨oc_need_word, od_need_word, .func (PySem.W.fnOf "need_word" "need_word" (defArgs s_need_word) (defBody s_need_word) (defScope s_need_word) .none kV_need_word dc_need_word pm_need_word an_need_word cd_need_word ct_need_word), sl_need_word⟩)
    (k_need_word : PySem.W.codeIn K cd_need_word "need_word" = true)
    (p_need_word : PySem.W.keepIn K (.ref f_need_word) = true)
    (a_exchanged : PySem.W.nsIn K mainGlobals "exchanged" = some (some (.ref f_exchanged)))
    (l_exchanged : K.lookup f_exchanged = some ⟨oc_exchanged, od_exchanged, .func (PySem.W.fnOf "exchanged" "exchanged" (defArgs s_exchanged) (defBody s_exchanged) (defScope s_exchanged) .none kV_exchanged dc_exchanged pm_exchanged an_exchanged cd_exchanged ct_exchanged), sl_exchanged⟩)
    (k_exchanged : PySem.W.codeIn K cd_exchanged "exchanged" = true)
    (p_exchanged : PySem.W.keepIn K (.ref f_exchanged) = true)
    (a_order_of : PySem.W.nsIn K mainGlobals "order_of" = some (some (.ref f_order_of)))
    (l_order_of : K.lookup f_order_of = some ⟨oc_order_of, od_order_of, .func (PySem.W.fnOf "order_of" "order_of" (defArgs s_order_of) (defBody s_order_of) (defScope s_order_of) .none kV_order_of dc_order_of pm_order_of an_order_of cd_order_of ct_order_of), sl_order_of⟩)
    (k_order_of : PySem.W.codeIn K cd_order_of "order_of" = true)
    (p_order_of : PySem.W.keepIn K (.ref f_order_of) = true)
    (a_order_fault : PySem.W.nsIn K mainGlobals "order_fault" = some (some (.ref f_order_fault)))
    (l_order_fault : K.lookup f_order_fault = some ⟨oc_order_fault, od_order_fault, .func (PySem.W.fnOf "order_fault" "order_fault" (defArgs s_order_fault) (defBody s_order_fault) (defScope s_order_fault) .none kV_order_fault dc_order_fault pm_order_fault an_order_fault cd_order_fault ct_order_fault), sl_order_fault⟩)
    (k_order_fault : PySem.W.codeIn K cd_order_fault "order_fault" = true)
    (p_order_fault : PySem.W.keepIn K (.ref f_order_fault) = true)
    (a_need_order : PySem.W.nsIn K mainGlobals "need_order" = some (some (.ref f_need_order)))
    (l_need_order : K.lookup f_need_order = some ⟨oc_need_order, od_need_order, .func (PySem.W.fnOf "need_order" "need_order" (defArgs s_need_order) (defBody s_need_order) (defScope s_need_order) .none kV_need_order dc_need_order pm_need_order an_need_order cd_need_order ct_need_order), sl_need_order⟩)
    (k_need_order : PySem.W.codeIn K cd_need_order "need_order" = true)
    (p_need_order : PySem.W.keepIn K (.ref f_need_order) = true)
    (a_joined : PySem.W.nsIn K mainGlobals "joined" = some (some (.ref f_joined)))
    (l_joined : K.lookup f_joined = some ⟨oc_joined, od_joined, .func (PySem.W.fnOf "joined" "joined" (defArgs s_joined) (defBody s_joined) (defScope s_joined) .none kV_joined dc_joined pm_joined an_joined cd_joined ct_joined), sl_joined⟩)
    (k_joined : PySem.W.codeIn K cd_joined "joined" = true)
    (p_joined : PySem.W.keepIn K (.ref f_joined) = true)
    (a_undone : PySem.W.nsIn K mainGlobals "undone" = some (some (.ref f_undone)))
    (l_undone : K.lookup f_undone = some ⟨oc_undone, od_undone, .func (PySem.W.fnOf "undone" "undone" (defArgs s_undone) (defBody s_undone) (defScope s_undone) .none kV_undone dc_undone pm_undone an_undone cd_undone ct_undone), sl_undone⟩)
    (k_undone : PySem.W.codeIn K cd_undone "undone" = true)
    (p_undone : PySem.W.keepIn K (.ref f_undone) = true)
    (a__law_pick : PySem.W.nsIn K mainGlobals "_law_pick" = some (some (.ref f__law_pick)))
    (l__law_pick : K.lookup f__law_pick = some ⟨oc__law_pick, od__law_pick, .func (PySem.W.fnOf "_law_pick" "_law_pick" (defArgs s__law_pick) (defBody s__law_pick) (defScope s__law_pick) .none kV__law_pick dc__law_pick pm__law_pick an__law_pick cd__law_pick ct__law_pick), sl__law_pick⟩)
    (k__law_pick : PySem.W.codeIn K cd__law_pick "_law_pick" = true)
    (p__law_pick : PySem.W.keepIn K (.ref f__law_pick) = true)
    (a__law_names : PySem.W.nsIn K mainGlobals "_law_names" = some (some (.ref f__law_names)))
    (l__law_names : K.lookup f__law_names = some ⟨oc__law_names, od__law_names, .func (PySem.W.fnOf "_law_names" "_law_names" (defArgs s__law_names) (defBody s__law_names) (defScope s__law_names) .none kV__law_names dc__law_names pm__law_names an__law_names cd__law_names ct__law_names), sl__law_names⟩)
    (k__law_names : PySem.W.codeIn K cd__law_names "_law_names" = true)
    (p__law_names : PySem.W.keepIn K (.ref f__law_names) = true)
    (a_is_name : PySem.W.nsIn K mainGlobals "is_name" = some (some (.ref f_is_name)))
    (l_is_name : K.lookup f_is_name = some ⟨oc_is_name, od_is_name, .func (PySem.W.fnOf "is_name" "is_name" (defArgs s_is_name) (defBody s_is_name) (defScope s_is_name) .none kV_is_name dc_is_name pm_is_name an_is_name cd_is_name ct_is_name), sl_is_name⟩)
    (k_is_name : PySem.W.codeIn K cd_is_name "is_name" = true)
    (p_is_name : PySem.W.keepIn K (.ref f_is_name) = true)
    (a_are_marks : PySem.W.nsIn K mainGlobals "are_marks" = some (some (.ref f_are_marks)))
    (l_are_marks : K.lookup f_are_marks = some ⟨oc_are_marks, od_are_marks, .func (PySem.W.fnOf "are_marks" "are_marks" (defArgs s_are_marks) (defBody s_are_marks) (defScope s_are_marks) .none kV_are_marks dc_are_marks pm_are_marks an_are_marks cd_are_marks ct_are_marks), sl_are_marks⟩)
    (k_are_marks : PySem.W.codeIn K cd_are_marks "are_marks" = true)
    (p_are_marks : PySem.W.keepIn K (.ref f_are_marks) = true)
    (a_is_pair_of : PySem.W.nsIn K mainGlobals "is_pair_of" = some (some (.ref f_is_pair_of)))
    (l_is_pair_of : K.lookup f_is_pair_of = some ⟨oc_is_pair_of, od_is_pair_of, .func (PySem.W.fnOf "is_pair_of" "is_pair_of" (defArgs s_is_pair_of) (defBody s_is_pair_of) (defScope s_is_pair_of) .none kV_is_pair_of dc_is_pair_of pm_is_pair_of an_is_pair_of cd_is_pair_of ct_is_pair_of), sl_is_pair_of⟩)
    (k_is_pair_of : PySem.W.codeIn K cd_is_pair_of "is_pair_of" = true)
    (p_is_pair_of : PySem.W.keepIn K (.ref f_is_pair_of) = true)
    (a_are_pairs : PySem.W.nsIn K mainGlobals "are_pairs" = some (some (.ref f_are_pairs)))
    (l_are_pairs : K.lookup f_are_pairs = some ⟨oc_are_pairs, od_are_pairs, .func (PySem.W.fnOf "are_pairs" "are_pairs" (defArgs s_are_pairs) (defBody s_are_pairs) (defScope s_are_pairs) .none kV_are_pairs dc_are_pairs pm_are_pairs an_are_pairs cd_are_pairs ct_are_pairs), sl_are_pairs⟩)
    (k_are_pairs : PySem.W.codeIn K cd_are_pairs "are_pairs" = true)
    (p_are_pairs : PySem.W.keepIn K (.ref f_are_pairs) = true)
    (a_row_fault : PySem.W.nsIn K mainGlobals "row_fault" = some (some (.ref f_row_fault)))
    (l_row_fault : K.lookup f_row_fault = some ⟨oc_row_fault, od_row_fault, .func (PySem.W.fnOf "row_fault" "row_fault" (defArgs s_row_fault) (defBody s_row_fault) (defScope s_row_fault) .none kV_row_fault dc_row_fault pm_row_fault an_row_fault cd_row_fault ct_row_fault), sl_row_fault⟩)
    (k_row_fault : PySem.W.codeIn K cd_row_fault "row_fault" = true)
    (p_row_fault : PySem.W.keepIn K (.ref f_row_fault) = true)
    (a_need_row : PySem.W.nsIn K mainGlobals "need_row" = some (some (.ref f_need_row)))
    (l_need_row : K.lookup f_need_row = some ⟨oc_need_row, od_need_row, .func (PySem.W.fnOf "need_row" "need_row" (defArgs s_need_row) (defBody s_need_row) (defScope s_need_row) .none kV_need_row dc_need_row pm_need_row an_need_row cd_need_row ct_need_row), sl_need_row⟩)
    (k_need_row : PySem.W.codeIn K cd_need_row "need_row" = true)
    (p_need_row : PySem.W.keepIn K (.ref f_need_row) = true)
    (a_pass_at : PySem.W.nsIn K mainGlobals "pass_at" = some (some (.ref f_pass_at)))
    (l_pass_at : K.lookup f_pass_at = some ⟨oc_pass_at, od_pass_at, .func (PySem.W.fnOf "pass_at" "pass_at" (defArgs s_pass_at) (defBody s_pass_at) (defScope s_pass_at) .none kV_pass_at dc_pass_at pm_pass_at an_pass_at cd_pass_at ct_pass_at), sl_pass_at⟩)
    (k_pass_at : PySem.W.codeIn K cd_pass_at "pass_at" = true)
    (p_pass_at : PySem.W.keepIn K (.ref f_pass_at) = true)
    (a_row_behind : PySem.W.nsIn K mainGlobals "row_behind" = some (some (.ref f_row_behind)))
    (l_row_behind : K.lookup f_row_behind = some ⟨oc_row_behind, od_row_behind, .func (PySem.W.fnOf "row_behind" "row_behind" (defArgs s_row_behind) (defBody s_row_behind) (defScope s_row_behind) .none kV_row_behind dc_row_behind pm_row_behind an_row_behind cd_row_behind ct_row_behind), sl_row_behind⟩)
    (k_row_behind : PySem.W.codeIn K cd_row_behind "row_behind" = true)
    (p_row_behind : PySem.W.keepIn K (.ref f_row_behind) = true)
    (a_law : PySem.W.nsIn K mainGlobals "law" = some (some (.ref f_law)))
    (l_law : K.lookup f_law = some ⟨oc_law, od_law, .func (PySem.W.fnOf "law" "law" (defArgs s_law) (defBody s_law) (defScope s_law) .none kV_law dc_law pm_law an_law cd_law ct_law), sl_law⟩)
    (k_law : PySem.W.codeIn K cd_law "law" = true)
    (p_law : PySem.W.keepIn K (.ref f_law) = true) : Txt ⟨P, w, K, mg, base⟩ where
  n_abs := PySem.W.mg_none_of X G z_abs
  n_all := PySem.W.mg_none_of X G z_all
  n_bool := PySem.W.mg_none_of X G z_bool
  n_enumerate := PySem.W.mg_none_of X G z_enumerate
  n_int := PySem.W.mg_none_of X G z_int
  n_isinstance := PySem.W.mg_none_of X G z_isinstance
  n_len := PySem.W.mg_none_of X G z_len
  n_list := PySem.W.mg_none_of X G z_list
  n_range := PySem.W.mg_none_of X G z_range
  n_set := PySem.W.mg_none_of X G z_set
  n_str := PySem.W.mg_none_of X G z_str
  n_tuple := PySem.W.mg_none_of X G z_tuple
  n_zip := PySem.W.mg_none_of X G z_zip
  c_LETTERS := ⟨⟨_, PySem.W.mg_of X G q_LETTERS, ⟨_, rfl⟩⟩⟩
  c_MOST_LETTERS := ⟨⟨_, PySem.W.mg_of X G q_MOST_LETTERS, ⟨_, rfl⟩⟩⟩
  c_MOST_MARKS := ⟨⟨_, PySem.W.mg_of X G q_MOST_MARKS, ⟨_, rfl⟩⟩⟩
  c_PLACES := ⟨⟨_, PySem.W.mg_of X G q_PLACES, ⟨_, rfl⟩⟩⟩
  c_WORD := ⟨⟨_, PySem.W.mg_of X G q_WORD, ⟨_, rfl⟩⟩⟩
  k_Table := clB (Θ := ⟨P, w, K, mg, base⟩) X G c_Table ⟨pg_Table, hd_Table, po_Table, sa_Table⟩ (by simp only [List.mem_cons, List.not_mem_nil, or_false]; rintro f (rfl|rfl) <;> assumption)
  d__law_pen := defB (Θ := ⟨P, w, K, mg, base⟩) X G a__law_pen l__law_pen k__law_pen p__law_pen fs__law_pen rfl fun us ws l1 l2 => match us, ws, l1, l2 with | [_], [], _, _ => rfl
  d__law_draw := defB (Θ := ⟨P, w, K, mg, base⟩) X G a__law_draw l__law_draw k__law_draw p__law_draw fs__law_draw rfl fun us ws l1 l2 => match us, ws, l1, l2 with | [_, _], [], _, _ => rfl
  d__law_word := defB (Θ := ⟨P, w, K, mg, base⟩) X G a__law_word l__law_word k__law_word p__law_word fs__law_word rfl fun us ws l1 l2 => match us, ws, l1, l2 with | [_, _, _], [], _, _ => rfl
  d_is_whole_1_least_most := defB (Θ := ⟨P, w, K, mg, base⟩) X G a_is_whole l_is_whole k_is_whole p_is_whole fs_is_whole rfl fun us ws l1 l2 => match us, ws, l1, l2 with | [_], [_, _], _, _ => rfl
  d_need_places_1 := defBd (Θ := ⟨P, w, K, mg, base⟩) (j := 0) X G a_need_places l_need_places k_need_places p_need_places lT_need_places r_need_places fs_need_places rfl rfl (fun W H => (.cons (.int 1) (.cons (.int 60) .nil))) fun us vs l1 l2 => match us, vs, l1, l2 with | [_], [_, _], _, _ => ⟨_, rfl, rfl⟩
  d_is_listing := defB (Θ := ⟨P, w, K, mg, base⟩) X G a_is_listing l_is_listing k_is_listing p_is_listing fs_is_listing rfl fun us ws l1 l2 => match us, ws, l1, l2 with | [_], [], _, _ => rfl
  d_word_fault := defB (Θ := ⟨P, w, K, mg, base⟩) X G a_word_fault l_word_fault k_word_fault p_word_fault fs_word_fault rfl fun us ws l1 l2 => match us, ws, l1, l2 with | [_, _], [], _, _ => rfl
  d_need_word := defB (Θ := ⟨P, w, K, mg, base⟩) X G a_need_word l_need_word k_need_word p_need_word fs_need_word rfl fun us ws l1 l2 => match us, ws, l1, l2 with | [_, _], [], _, _ => rfl
  d_exchanged := defB (Θ := ⟨P, w, K, mg, base⟩) X G a_exchanged l_exchanged k_exchanged p_exchanged fs_exchanged rfl fun us ws l1 l2 => match us, ws, l1, l2 with | [_, _], [], _, _ => rfl
  d_order_of := defB (Θ := ⟨P, w, K, mg, base⟩) X G a_order_of l_order_of k_order_of p_order_of fs_order_of rfl fun us ws l1 l2 => match us, ws, l1, l2 with | [_, _], [], _, _ => rfl
  d_order_fault := defB (Θ := ⟨P, w, K, mg, base⟩) X G a_order_fault l_order_fault k_order_fault p_order_fault fs_order_fault rfl fun us ws l1 l2 => match us, ws, l1, l2 with | [_], [], _, _ => rfl
  d_need_order := defB (Θ := ⟨P, w, K, mg, base⟩) X G a_need_order l_need_order k_need_order p_need_order fs_need_order rfl fun us ws l1 l2 => match us, ws, l1, l2 with | [_], [], _, _ => rfl
  d_joined := defB (Θ := ⟨P, w, K, mg, base⟩) X G a_joined l_joined k_joined p_joined fs_joined rfl fun us ws l1 l2 => match us, ws, l1, l2 with | [_, _], [], _, _ => rfl
  d_undone := defB (Θ := ⟨P, w, K, mg, base⟩) X G a_undone l_undone k_undone p_undone fs_undone rfl fun us ws l1 l2 => match us, ws, l1, l2 with | [_], [], _, _ => rfl
  d__law_pick := defB (Θ := ⟨P, w, K, mg, base⟩) X G a__law_pick l__law_pick k__law_pick p__law_pick fs__law_pick rfl fun us ws l1 l2 => match us, ws, l1, l2 with | [_, _], [], _, _ => rfl
  d__law_names := defB (Θ := ⟨P, w, K, mg, base⟩) X G a__law_names l__law_names k__law_names p__law_names fs__law_names rfl fun us ws l1 l2 => match us, ws, l1, l2 with | [_, _], [], _, _ => rfl
  d_is_name := defB (Θ := ⟨P, w, K, mg, base⟩) X G a_is_name l_is_name k_is_name p_is_name fs_is_name rfl fun us ws l1 l2 => match us, ws, l1, l2 with | [_], [], _, _ => rfl
  d_are_marks := defB (Θ := ⟨P, w, K, mg, base⟩) X G a_are_marks l_are_marks k_are_marks p_are_marks fs_are_marks rfl fun us ws l1 l2 => match us, ws, l1, l2 with | [_], [], _, _ => rfl
  d_is_pair_of := defB (Θ := ⟨P, w, K, mg, base⟩) X G a_is_pair_of l_is_pair_of k_is_pair_of p_is_pair_of fs_is_pair_of rfl fun us ws l1 l2 => match us, ws, l1, l2 with | [_, _], [], _, _ => rfl
  d_are_pairs := defB (Θ := ⟨P, w, K, mg, base⟩) X G a_are_pairs l_are_pairs k_are_pairs p_are_pairs fs_are_pairs rfl fun us ws l1 l2 => match us, ws, l1, l2 with | [_, _], [], _, _ => rfl
  d_Table___init__ := mkB (Θ := ⟨P, w, K, mg, base⟩) X G c_Table mk_Table kc_Table a_Table___init__ i_Table___init__ l_Table___init__ k_Table___init__ p_Table___init__ fs_Table___init__ rfl fun us l1 => match us, l1 with | [_, _, _], _ => rfl
  d_Table_has := methB (Θ := ⟨P, w, K, mg, base⟩) X G c_Table ⟨pg_Table, hd_Table, po_Table, sa_Table⟩ a_Table_has i_Table_has l_Table_has k_Table_has p_Table_has fs_Table_has rfl fun us l1 => match us, l1 with | [_, _], _ => rfl
  d_row_fault := defB (Θ := ⟨P, w, K, mg, base⟩) X G a_row_fault l_row_fault k_row_fault p_row_fault fs_row_fault rfl fun us ws l1 l2 => match us, ws, l1, l2 with | [_, _], [], _, _ => rfl
  d_need_row := defB (Θ := ⟨P, w, K, mg, base⟩) X G a_need_row l_need_row k_need_row p_need_row fs_need_row rfl fun us ws l1 l2 => match us, ws, l1, l2 with | [_, _], [], _, _ => rfl
  d_Table_need_mark := methB (Θ := ⟨P, w, K, mg, base⟩) X G c_Table ⟨pg_Table, hd_Table, po_Table, sa_Table⟩ a_Table_need_mark i_Table_need_mark l_Table_need_mark k_Table_need_mark p_Table_need_mark fs_Table_need_mark rfl fun us l1 => match us, l1 with | [_, _], _ => rfl
  d_Table_passed := methB (Θ := ⟨P, w, K, mg, base⟩) X G c_Table ⟨pg_Table, hd_Table, po_Table, sa_Table⟩ a_Table_passed i_Table_passed l_Table_passed k_Table_passed p_Table_passed fs_Table_passed rfl fun us l1 => match us, l1 with | [_, _, _], _ => rfl
  d_pass_at := defB (Θ := ⟨P, w, K, mg, base⟩) X G a_pass_at l_pass_at k_pass_at p_pass_at fs_pass_at rfl fun us ws l1 l2 => match us, ws, l1, l2 with | [_, _, _], [], _, _ => rfl
  d_row_behind := defB (Θ := ⟨P, w, K, mg, base⟩) X G a_row_behind l_row_behind k_row_behind p_row_behind fs_row_behind rfl fun us ws l1 l2 => match us, ws, l1, l2 with | [_, _, _], [], _, _ => rfl
  d_law := defB (Θ := ⟨P, w, K, mg, base⟩) X G a_law l_law k_law p_law fs_law rfl fun us ws l1 l2 => match us, ws, l1, l2 with | [_], [], _, _ => rfl
theorem room_law : Room 6 callerA := ⟨rfl, by decide, by decide⟩
end Ev
/-! text Tpen -/
set_option Elab.async false
set_option linter.all false
set_option maxRecDepth 100000
set_option maxHeartbeats 4000000
namespace Ev
open PySem L2
theorem draw_ok {cells : List Int} {s m many : Int} (h0 : 0 ≤ s) (hs : s < 2 ^ 40) (h1 : 1 ≤ many) (h2 : many < 2 ^ 29) :
    Ok (F__law_draw [.own (pen cells s m), .imm (.int many)]) fun y => ∃ z s' m' : Int, y = (.imm (.int z), [pen cells s' m']) ∧ 0 ≤ z ∧ z < many ∧ 0 ≤ s' ∧ s' ≤ s + 1 := by
  have e1 : ∀ i : Int, modI i many = some (i % many) := fun i => mod_pos (by omega)
  have e2 : ∀ i : Int, fdivI i many = some (i / many) := fun i => fdiv_pos (by omega) (by omega)
  have e3 : ∀ i : Int, fdivI i 32 = some (i / 32) := fun i => fdiv_pos (by omega) (by omega)
  have z1 : ∀ i : Int, 0 ≤ i % many ∧ i % many < many := fun i => ⟨Int.emod_nonneg _ (by omega), Int.emod_lt_of_pos _ (by omega)⟩
  have f1 : ∀ i j : Int, mulI (i % 2147483647) j = some (i % 2147483647 * j) := fun i j => mulI_l (by omega) (by omega)
  have f2 : ∀ i : Int, mulI 48271 i = some (48271 * i) := fun i => mulI_l (by omega) (by omega)
  have f3 : ∀ i : Int, mulI i s = some (i * s) := fun i => mulI_r (by omega) (by omega)
  have f4 : ∀ i : Int, mulI 30011 i = some (30011 * i) := fun i => mulI_l (by omega) (by omega)
  have f5 : ∀ i j : Int, mulI (i % 2147483629) j = some (i % 2147483629 * j) := fun i j => mulI_l (by omega) (by omega)
  have f6 : ∀ i : Int, mulI 40692 i = some (40692 * i) := fun i => mulI_l (by omega) (by omega)
  have f7 : ∀ i : Int, mulI 7 i = some (7 * i) := fun i => mulI_l (by omega) (by omega)
  have f8 : ∀ i j : Int, mulI (i % 2147483587) j = some (i % 2147483587 * j) := fun i j => mulI_l (by omega) (by omega)
  have f9 : ∀ i : Int, mulI 37 i = some (37 * i) := fun i => mulI_l (by omega) (by omega)
  have p1 : powI 10 18 = some 1000000000000000000 := by decide +kernel
  have small : ∀ (i : Int), 0 ≤ i % many ∧ i % many < many := z1
  unfold F__law_draw
  by_cases hc : cells = []
  · subst hc
    simp [slots, N__law_draw, B__law_draw, Ok_if, e1, e2, e3, f1, f2, f3, f4, f5, f6, f7, f8, f9, p1]
    refine ⟨fun _ => ⟨m % many, s, ⟨rfl, _, rfl⟩, (z1 m).1, (z1 m).2, h0, by omega⟩, fun _ => ⟨fun _ => ?_, fun _ => ?_⟩⟩ <;>
      first
      | omega
      | exact ⟨_, s + 1, ⟨rfl, _, rfl⟩, (z1 _).1, (z1 _).2, by omega, by omega⟩
  · have hl : 0 < cells.length := List.length_pos_iff.mpr hc
    have e4 : modI s (cells.length : Int) = some (s % (cells.length : Int)) := mod_pos (by omega)
    have hb : 0 ≤ s % (cells.length : Int) ∧ s % (cells.length : Int) < cells.length := ⟨Int.emod_nonneg _ (by omega), Int.emod_lt_of_pos _ (by omega)⟩
    obtain ⟨c, ha⟩ : ∃ c : Int, atI (cells.map D.int) (s % (cells.length : Int)) = some (D.int c) := by
      obtain ⟨j, hj⟩ := Int.eq_ofNat_of_zero_le hb.1
      have hj2 : j < cells.length := by omega
      refine ⟨cells[j], ?_⟩
      rw [atI_map, hj, atI_nat' hj2]
      rfl
    simp [slots, N__law_draw, B__law_draw, Ok_if, e1, e2, e3, e4, f1, f2, f3, f4, f5, f6, f7, f8, f9, p1, hc, ha]
    refine ⟨fun _ => ⟨m % many, s, ⟨rfl, _, rfl⟩, (z1 m).1, (z1 m).2, h0, by omega⟩, fun _ => ⟨fun _ => ⟨fun _ => ?_, fun _ => ?_⟩, fun _ => ?_⟩⟩ <;>
      exact ⟨_, s + 1, ⟨rfl, _, rfl⟩, (z1 _).1, (z1 _).2, by omega, by omega⟩
/-- the pen at hand: s0 begun at most -/
def PenAt (cells : List Int) (b : Int) (c : C) : Prop := ∃ s m : Int, c = pen cells s m ∧ 0 ≤ s ∧ s ≤ b
theorem PenAt.mono {cells : List Int} {b b' : Int} {c : C} (h : PenAt cells b c) (hb : b ≤ b') : PenAt cells b' c := by
  obtain ⟨s, m, e, h1, h2⟩ := h
  exact ⟨s, m, e, h1, by omega⟩
theorem draw_at {cells : List Int} {b many : Int} {c : C} (h : PenAt cells b c) (hb : b < 2 ^ 40) (h1 : 1 ≤ many) (h2 : many < 2 ^ 29) :
    Ok (F__law_draw [.own c, .imm (.int many)]) fun y => ∃ (z : Nat) (c' : C), y = (.imm (.int z), [c']) ∧ (z : Int) < many ∧ PenAt cells (b + 1) c' := by
  obtain ⟨s, m, rfl, h3, h4⟩ := h
  refine (draw_ok (m := m) h3 (by omega) h1 h2).imp fun y ⟨z, s', m', e, q1, q2, q3, q4⟩ => ?_
  obtain ⟨n, rfl⟩ := Int.eq_ofNat_of_zero_le q1
  exact ⟨n, _, e, q2, s', m', rfl, q3, by omega⟩
theorem PenAt.dct {cells : List Int} {b : Int} {c : C} (h : PenAt cells b c) : ∃ kvs, c = .dct false kvs := by
  obtain ⟨s, m, rfl, _, _⟩ := h
  exact ⟨_, rfl⟩
theorem pen_ok {ns : List Int} : Ok (F__law_pen [.imm (.scr ns)]) fun y => ∃ (cells : List Int) (c : C), y = (.own c, []) ∧ PenAt cells 0 c := by
  unfold F__law_pen
  simp [slots, N__law_pen, B__law_pen]
  exact ⟨⟨by decide +kernel, by decide +kernel⟩, _, 0, 0, rfl, by omega, by omega⟩
end Ev
/-! text Tword -/
set_option Elab.async false
set_option linter.all false
set_option maxRecDepth 100000
set_option maxHeartbeats 4000000
namespace Ev
open PySem L2
theorem word_ok {cells : List Int} {b places many : Int} {c : C} (h : PenAt cells b c) (hb : b < 2 ^ 39) (h1 : 1 ≤ places) (h2 : places ≤ 1000) (h3 : 0 ≤ many) (h4 : many ≤ 1000) :
    Ok (F__law_word [.own c, .imm (.int places), .imm (.int many)]) fun y => ∃ (w : List Nat) (c' : C), y = (.imm (.tup (nts w)), [c']) ∧ (w.length : Int) ≤ many ∧ (∀ p ∈ w, (p : Int) + 1 < places) ∧ PenAt cells (b + 2000) c' := by
  unfold F__law_word
  simp [slots, N__law_word, B__law_word]
  refine (draw_at h (by omega) (show (1 : Int) ≤ many + 1 by omega) (by omega)).imp fun y ⟨z, c1, ey, hz, hp⟩ => ?_
  subst ey
  have g0 : mulI z 0 = some 0 := by rw [mulI_r (by decide) (by decide)]; simp
  have g1 : mulI z 1 = some (z : Int) := by rw [mulI_r (by decide) (by decide)]; simp
  by_cases hpl : 1 < places
  · have r1 : rng1 [.int (z : Int)] = some (nts (List.range z)) := rng1_n (by omega)
    simp [hpl, g1, r1]
    refine ⟨by omega, (lc_draws (fun c => [.par c, .imm (.int places), .imm (.int many), .un]) (fun w : Nat => D.int (w : Nat)) (fun p c => PenAt cells (b + 1 + p) c) (fun w => (w : Int) + 1 < places) (fun p c hpz hI => ?_) (by simpa using hp)).imp fun y ⟨w, c', ey, hl, hw, hp'⟩ => ?_⟩
    · simp
      refine (draw_at hI (by omega) (show (1 : Int) ≤ places - 1 by omega) (by omega)).imp fun y ⟨z', c2, ey, hz', hp2⟩ => ?_
      subst ey
      simp
      exact ⟨z', rfl, by omega, hp2.mono (by omega)⟩
    · subst ey
      simp [backE, List.range_succ]
      exact ⟨w, c', ⟨rfl, rfl⟩, by omega, hw, hp'.mono (by omega)⟩
  · have r1 : rng1 [.int 0] = some [] := rng1_nat (n := 0) (by decide)
    simp [hpl, g0, r1, backE, List.range_succ]
    exact ⟨[], c1, ⟨rfl, rfl⟩, by simpa using h3, by simp, hp.mono (by omega)⟩
end Ev
/-! text Twhole -/
set_option Elab.async false
set_option linter.all false
set_option maxRecDepth 100000
set_option maxHeartbeats 4000000
namespace Ev
open PySem L2
theorem whole_ok {i lo hi : Int} : F_is_whole_1_least_most [.imm (.int i), .imm (.int lo), .imm (.int hi)] = some (.imm (.bl (decide (lo ≤ i) && decide (i ≤ hi))), []) := by
  apply ok_eq
  unfold F_is_whole_1_least_most
  simp [slots, N_is_whole, B_is_whole, Ok_if]
  omega
theorem whole_true {i lo hi : Int} (h1 : lo ≤ i) (h2 : i ≤ hi) : F_is_whole_1_least_most [.imm (.int i), .imm (.int lo), .imm (.int hi)] = some (.imm (.bl true), []) := by
  rw [whole_ok, decide_eq_true h1, decide_eq_true h2]
  rfl
end Ev
/-! text Tlisting -/
set_option Elab.async false
set_option linter.all false
set_option maxRecDepth 100000
set_option maxHeartbeats 4000000
namespace Ev
open PySem L2
theorem listing_ok {d : D} {xs : List D} (h : d = .lst xs ∨ d = .tup xs) : F_is_listing [.imm d] = some (.imm (.bl true), []) := by
  apply ok_eq
  unfold F_is_listing
  rcases h with rfl | rfl <;> simp [slots, N_is_listing, B_is_listing]
end Ev
/-! text Texch -/
set_option Elab.async false
set_option linter.all false
set_option maxRecDepth 100000
set_option maxHeartbeats 4000000
namespace Ev
open PySem L2
theorem exchanged_ok {l : List Nat} {p : Nat} (hl : l.length ≤ 1000) (hp : p + 1 < l.length) : F_exchanged [.imm (.tup (nts l)), .imm (.int p)] = some (.imm (.tup (nts (exch l p))), []) := by
  apply ok_eq
  unfold F_exchanged
  simp [slots, N_exchanged, B_exchanged, cut_to_n, cut_from2, nts_at1 hp, nts_at (show p < l.length by omega)]
  exact ⟨by omega, by omega, exch_nts' hp⟩
end Ev
/-! text Tplaces -/
set_option Elab.async false
set_option linter.all false
set_option maxRecDepth 100000
set_option maxHeartbeats 4000000
namespace Ev
open PySem L2
theorem places_ok {n : Nat} (h1 : 1 ≤ n) (h2 : n ≤ 60) : F_need_places_1 [.imm (.int n)] = some (.imm (.int n), []) := by
  apply ok_eq
  unfold F_need_places_1
  have e := whole_true (i := (n : Int)) (lo := 1) (hi := 60) (by omega) (by omega)
  simp [slots, N_need_places, B_need_places, e]
end Ev
/-! text Twordf -/
set_option Elab.async false
set_option linter.all false
set_option maxRecDepth 100000
set_option maxHeartbeats 4000000
namespace Ev
open PySem L2
theorem fault_ok {n : Nat} {w : List Nat} {d : D} (hd : d = .lst (nts w) ∨ d = .tup (nts w)) (hw : WordOk n w) (hl : w.length ≤ 2000) : F_word_fault [.imm (.int n), .imm d] = some (.imm .non, []) := by
  apply ok_eq
  unfold F_word_fault
  have e0 := listing_ok hd
  have e1 : enI [d] = some (enD (nts w)) := by rcases hd with rfl | rfl <;> rfl
  have e2 : lenD [d] = some (.imm (.int w.length)) := by rcases hd with rfl | rfl <;> simp
  have e3 : ¬ ((2000 : Int) < (w.length : Nat)) := by omega
  simp [slots, N_word_fault, B_word_fault, e0, e1, e2, e3]
  refine (loop_en (fun k v ρ => ∃ x y : Sl, ρ = [.imm (.int n), .imm d, x, y] ∧ isPar (some x) = false ∧ isPar (some y) = false ∧ WordOk n v) ?_ ⟨_, _, rfl, rfl, rfl, hw⟩).imp ?_
  · rintro k p v ρ ⟨x, y, rfl, hx, hy, hv⟩
    have hp := hv p List.mem_cons_self
    have e4 := whole_true (i := (p : Int)) (lo := 0) (hi := (n : Int) - 2) (by omega) (by omega)
    simp [hx, hy, e4]
    exact ⟨_, _, ⟨rfl, rfl⟩, rfl, rfl, fun q hq => hv q (List.mem_cons_of_mem _ hq)⟩
  · rintro ⟨fl, ρ⟩ ⟨e, x, y, e2, hx, hy, hv⟩
    dsimp only at e e2
    subst e e2
    simp
theorem word_need {n : Nat} {w : List Nat} {d : D} (hd : d = .lst (nts w) ∨ d = .tup (nts w)) (hw : WordOk n w) (hl : w.length ≤ 2000) : F_need_word [.imm (.int n), .imm d] = some (.imm (.tup (nts w)), []) := by
  apply ok_eq
  unfold F_need_word
  have e0 := fault_ok hd hw hl
  have e1 : tupleD [d] = some (.imm (.tup (nts w))) := by rcases hd with rfl | rfl <;> rfl
  have e2 : isNotD .non .non = some false := by rfl
  simp [slots, N_need_word, B_need_word, e0, e1, e2]
end Ev
/-! text Torder -/
set_option Elab.async false
set_option linter.all false
set_option maxRecDepth 100000
set_option maxHeartbeats 4000000
namespace Ev
open PySem L2
theorem order_of_ok {n : Nat} {w : List Nat} {d : D} (h1 : 1 ≤ n) (h2 : n ≤ 60) (hd : d = .lst (nts w) ∨ d = .tup (nts w)) (hw : WordOk n w) (hl : w.length ≤ 2000) : F_order_of [.imm (.int n), .imm d] = some (.imm (.tup (nts (stand n w))), []) := by
  apply ok_eq
  unfold F_order_of
  have e0 := places_ok h1 h2
  have e1 := word_need hd hw hl
  simp [slots, N_order_of, B_order_of, e0]
  refine ⟨rgOk_nat (by omega), ?_⟩
  simp [rgI_n, e1]
  refine (loop_nts (fun v ρ => ∃ (l : List Nat) (x : Sl), ρ = [.imm (.int n), .imm d, .imm (.tup (nts l)), x] ∧ isPar (some x) = false ∧ l.length = n ∧ WordOk n v ∧ runs l v = stand n w) ?_ ⟨_, _, rfl, rfl, by simp, hw, rfl⟩).imp ?_
  · rintro p v ρ ⟨l, x, rfl, hx, hl, hv, hr⟩
    have hp : p + 1 < l.length := by rw [hl]; exact hv p List.mem_cons_self
    simp [hx, exchanged_ok (l := l) (p := p) (by omega) hp]
    exact ⟨exch l p, _, ⟨rfl, rfl⟩, rfl, (exch_len l p).trans hl, fun q hq => hv q (List.mem_cons_of_mem _ hq), hr⟩
  · rintro ⟨fl, ρ⟩ ⟨e, l, x, e2, hx, hl, hv, hr⟩
    dsimp only at e e2
    subst e e2
    simp
    exact congrArg nts hr
end Ev
/-! text Torders -/
set_option Elab.async false
set_option linter.all false
set_option maxRecDepth 100000
set_option maxHeartbeats 4000000
namespace Ev
open PySem L2
theorem ofault_ok {n : Nat} {l : List Nat} {d : D} (h1 : 1 ≤ n) (h2 : n ≤ 60) (hd : d = .lst (nts l) ∨ d = .tup (nts l)) (hl : l.Perm (List.range n)) : F_order_fault [.imm d] = some (.imm .non, []) := by
  apply ok_eq
  unfold F_order_fault
  have hlen := perm_len hl
  have e0 := listing_ok hd
  have e1 : enI [d] = some (enD (nts l)) := by rcases hd with rfl | rfl <;> rfl
  have e2 : lenD [d] = some (.imm (.int (n : Nat))) := by rcases hd with rfl | rfl <;> simp [hlen]
  have e3 : (1 : Int) ≤ (n : Nat) := by omega
  have e4 : ((n : Nat) : Int) ≤ 60 := by omega
  simp [slots, N_order_fault, B_order_fault, e0, e1, e2, e3, e4]
  refine (loop_en (fun k v ρ => ∃ x y : Sl, ρ = [.imm d, x, y] ∧ isPar (some x) = false ∧ isPar (some y) = false ∧ l = l.take k ++ v ∧ k + v.length = n) ?_ ⟨_, _, rfl, rfl, rfl, rfl, by simpa using hlen⟩).imp ?_
  · rintro k p v ρ ⟨x, y, rfl, hx, hy, hv, hk⟩
    have hpl : p ∈ l := by rw [hv]; simp
    have hp := perm_lt hl hpl
    have hnd := perm_nodup hl
    have hni : ¬ p ∈ l.take k := fun z => by
      rw [hv, List.nodup_append] at hnd
      exact hnd.2.2 p z p List.mem_cons_self rfl
    have e5 := whole_true (i := (p : Int)) (lo := 0) (hi := (n : Int) - 1) (by omega) (by omega)
    have hk2 : l.take (k + 1) = l.take k ++ [p] := by
      have hkl : (l.take k).length = k := by rw [List.length_take]; omega
      have : (l.take k ++ p :: v).take (k + 1) = l.take k ++ [p] := by
        rw [List.take_append, hkl, List.take_of_length_le (by omega), Nat.add_sub_cancel_left]
        rfl
      rw [← hv] at this
      exact this
    have fin : ∃ x y : Sl, [Sl.imm d, Sl.imm (.int (k : Nat)), Sl.imm (.int (p : Nat))] = [Sl.imm d, x, y] ∧ isPar (some x) = false ∧ isPar (some y) = false ∧ l = l.take (k + 1) ++ v ∧ k + 1 + v.length = n := ⟨_, _, rfl, rfl, rfl, by rw [hk2, List.append_assoc]; exact hv, by simp at hk; omega⟩
    rcases hd with rfl | rfl
    · simp [hx, hy, e5, hlen, cut_to_n, in_nlst, hni]
      simpa using fin
    · simp [hx, hy, e5, hlen, cut_to_n, in_ntup, hni]
      simpa using fin
  · rintro ⟨fl, ρ⟩ ⟨e, x, y, e2, hx, hy, hv, hk⟩
    dsimp only at e e2
    subst e e2
    simp
theorem order_need {n : Nat} {l : List Nat} {d : D} (h1 : 1 ≤ n) (h2 : n ≤ 60) (hd : d = .lst (nts l) ∨ d = .tup (nts l)) (hl : l.Perm (List.range n)) : F_need_order [.imm d] = some (.imm (.tup (nts l)), []) := by
  apply ok_eq
  unfold F_need_order
  have e0 := ofault_ok h1 h2 hd hl
  have e1 : tupleD [d] = some (.imm (.tup (nts l))) := by rcases hd with rfl | rfl <;> rfl
  have e2 : isNotD .non .non = some false := by rfl
  simp [slots, N_need_order, B_need_order, e0, e1, e2]
theorem joined_ok {n : Nat} {l v : List Nat} {d e : D} (h1 : 1 ≤ n) (h2 : n ≤ 60) (hd : d = .lst (nts l) ∨ d = .tup (nts l)) (he : e = .lst (nts v) ∨ e = .tup (nts v)) (hl : l.Perm (List.range n)) (hv : v.Perm (List.range n)) :
    F_joined [.imm d, .imm e] = some (.imm (.tup (nts (v.map fun i => l.getD i 0))), []) := by
  apply ok_eq
  unfold F_joined
  have e0 := order_need h1 h2 hd hl
  have e1 := order_need h1 h2 he hv
  have e2 := listing_ok he
  have e3 : lenD [e] = some (.imm (.int (n : Nat))) := by rcases he with rfl | rfl <;> simp [perm_len hv]
  simp [slots, N_joined, B_joined, e0, e1, e2, e3, perm_len hl, perm_len hv]
  refine ⟨by omega, (lc_nts (fun i => D.int ((l.getD i 0 : Nat) : Int)) ?_).imp ?_⟩
  · intro p hp
    have hpl : p < l.length := by rw [perm_len hl]; exact perm_lt hv hp
    simp [nts_at hpl]
    simp [hpl]
  · rintro z rfl
    simp [backE, List.range_succ]
    unfold nts
    simp
theorem undone_ok {n : Nat} {l : List Nat} {d : D} (h1 : 1 ≤ n) (h2 : n ≤ 60) (hd : d = .lst (nts l) ∨ d = .tup (nts l)) (hl : l.Perm (List.range n)) :
    F_undone [.imm d] = some (.imm (.tup (nts ((List.range n).map fun r => place r l))), []) := by
  apply ok_eq
  unfold F_undone
  have e0 := order_need h1 h2 hd hl
  have e1 := rng1_n (n := n) (by omega)
  simp [slots, N_undone, B_undone, e0, e1, perm_len hl]
  refine ⟨by omega, (lc_nts (fun r => D.int ((place r l : Nat) : Int)) ?_).imp ?_⟩
  · intro p hp
    have hpl : p ∈ l := hl.mem_iff.mpr hp
    simp [idx_n hpl, isLst, isTup]
  · rintro z rfl
    simp [backE, List.range_succ]
    unfold nts
    simp
end Ev
/-! text Tpick -/
set_option Elab.async false
set_option linter.all false
set_option maxRecDepth 100000
set_option maxHeartbeats 4000000
namespace Ev
open PySem L2
theorem pick_ok {cells : List Int} {b : Int} {c : C} {d : D} {n : Nat} (f : Nat → D) (h : PenAt cells b c) (hb : b < 2 ^ 39) (hl : lenD [d] = some (.imm (.int (n : Nat)))) (h1 : 1 ≤ n) (h2 : n < 1000000) (hx : ∀ z, z < n → ixD d (.int (z : Nat)) = some (.imm (f z))) :
    Ok (F__law_pick [.own c, .imm d]) fun y => ∃ (z : Nat) (c' : C), y = (.imm (f z), [c']) ∧ z < n ∧ PenAt cells (b + 1) c' := by
  unfold F__law_pick
  simp [slots, N__law_pick, B__law_pick, hl]
  refine (draw_at h (by omega) (show (1 : Int) ≤ (n : Nat) by omega) (by omega)).imp fun y ⟨z, c1, ey, hz, hp⟩ => ?_
  subst ey
  simp [hx z (by omega)]
  exact ⟨z, c1, ⟨rfl, rfl⟩, by omega, hp⟩
theorem pick_own {cells : List Int} {b : Int} {c : C} {xs : List D} (h : PenAt cells b c) (hb : b < 2 ^ 39) (h1 : 1 ≤ xs.length) (h2 : xs.length < 1000000) :
    Ok (F__law_pick [.own c, .own (.lst xs)]) fun y => ∃ (z : Nat) (hz : z < xs.length) (c' : C), y = (.imm xs[z], [c', .lst xs]) ∧ PenAt cells (b + 1) c' := by
  unfold F__law_pick
  simp [slots, N__law_pick, B__law_pick]
  refine (draw_at h (by omega) (show (1 : Int) ≤ (xs.length : Nat) by omega) (by omega)).imp fun y ⟨z, c1, ey, hz, hp⟩ => ?_
  subst ey
  have hz2 : z < xs.length := by omega
  simp [atI_nat' hz2]
  exact ⟨z, hz2, c1, ⟨rfl, rfl⟩, hp⟩
end Ev
/-! text Tnames -/
set_option Elab.async false
set_option linter.all false
set_option maxRecDepth 100000
set_option maxHeartbeats 4000000
namespace Ev
open PySem L2
theorem names_ok {cells : List Int} {b : Int} {c : C} {n : Nat} (h : PenAt cells b c) (hb : b < 2 ^ 38) (hn : n ≤ 26) :
    Ok (F__law_names [.own c, .imm (.int (n : Nat))]) fun y => ∃ (nm : List Str) (c' : C), y = (.own (.lst (nm.map D.str)), [c']) ∧ nm.length = n ∧ nm.Nodup ∧ (∀ m ∈ nm, IsName m) ∧ PenAt cells (b + 2000) c' := by
  unfold F__law_names
  simp [slots, N__law_names, B__law_names, List.replicate]
  refine (draw_at h (by omega) (show (1 : Int) ≤ 8 by decide) (by decide)).imp fun y ⟨z0, c0, ey, hz0, hp0⟩ => ?_
  subst ey
  have r1 : rng1 [.int (1 + (z0 : Int))] = some (nts (List.range (z0 + 1))) := by
    have := rng1_n (n := z0 + 1) (by omega)
    rw [show (1 + (z0 : Int)) = ((z0 + 1 : Nat) : Int) by omega]
    exact this
  simp [r1]
  refine ⟨by omega, ?_⟩
  refine (lc_draws (fun c => [.par c, .imm (.int (n : Nat)), .imm (.str (sT abc)), .un, .un, .un, .un, .un, .un, .un, .un]) (fun c : Nat => D.str (sT [c])) (fun p c => PenAt cells (b + 1 + p) c) (fun c => c ∈ abc) (fun p c hpz hI => ?_) (by simpa using hp0)).imp fun y ⟨st, c1, ey, hsl, hsa, hp1⟩ => ?_
  · simp
    refine (pick_ok (n := 26) (fun z => D.str (sT [abc.getD z 0])) hI (by omega) (len_signs (by decide)) (by decide) (by decide) fun z hz => ?_).imp fun y ⟨z, c1, ey, hz, hp1⟩ => ?_
    · rw [ix_signs (by simpa using hz) (by decide)]
      rw [List.getD_eq_getElem?_getD, List.getElem?_eq_getElem (show z < abc.length by simpa using hz)]
      rfl
    · subst ey
      simp only [Option.map_some]
      obtain ⟨g, hg⟩ : ∃ g, g = abc.getD z 0 := ⟨_, rfl⟩
      rw [← hg]
      simp
      refine ⟨?_, hp1.mono (by omega)⟩
      rw [hg, abc_get hz, abc_mem]
      omega
  subst ey
  simp [hsl, backE, List.range_succ, join_ok (xs := st) (by omega), len_signs (l := st) (by omega)]
  refine (draw_at hp1 (by omega) (show (1 : Int) ≤ (z0 : Int) + 1 by omega) (by omega)).imp fun y ⟨z1, c2, ey, hz1, hp2⟩ => ?_
  subst ey
  simp
  refine (draw_at hp2 (by omega) (show (1 : Int) ≤ 26 by decide) (by decide)).imp fun y ⟨z2, c3, ey, hz2, hp3⟩ => ?_
  subst ey
  simp
  refine (draw_at hp3 (by omega) (show (1 : Int) ≤ 2 by decide) (by decide)).imp fun y ⟨z3, c4, ey, hz3, hp4⟩ => ?_
  subst ey
  simp
  refine (pick_ok (n := 12) (fun z => D.int ((steps12.getD z 0 : Nat) : Int)) hp4 (by omega) rfl (by decide) (by decide) fun z hz => ?_).imp fun y ⟨z4, c5, ey, hz4, hp5⟩ => ?_
  · have : z = 0 ∨ z = 1 ∨ z = 2 ∨ z = 3 ∨ z = 4 ∨ z = 5 ∨ z = 6 ∨ z = 7 ∨ z = 8 ∨ z = 9 ∨ z = 10 ∨ z = 11 := by omega
    rcases this with rfl | rfl | rfl | rfl | rfl | rfl | rfl | rfl | rfl | rfl | rfl | rfl <;> rfl
  subst ey
  have hst : steps12.getD z4 0 ∈ steps12 := by
    have : z4 < steps12.length := hz4
    simp [List.getD, this]
  generalize steps12.getD z4 0 = step at hst
  have hstep : step < 26 := by
    unfold steps12 at hst
    simp only [List.mem_cons, List.not_mem_nil, or_false] at hst
    omega
  simp [rng1_n (n := n) (by omega)]
  refine (loop_nts (fun v ρ => ∃ (k : Nat) (x3 x10 : Sl), ρ = [.par c5, .imm (.int (n : Nat)), .imm (.str (sT abc)), x3, .imm (.str (sT st)), .imm (.int (z1 : Nat)), .imm (.int (z2 : Nat)), .imm (.int (z3 : Nat)), .imm (.int (step : Nat)), .own (.lst ((namesTo st z1 z2 step z3 k).map D.str)), x10] ∧
      isPar (some x3) = false ∧ isPar (some x10) = false ∧ v = List.range' k (n - k) ∧ k ≤ n) ?_ ⟨0, .un, .un, rfl, rfl, rfl, by simp [List.range_eq_range'], by omega⟩).imp ?_
  · rintro p v ρ ⟨k, x3, x10, rfl, h3, h10, hv, hk⟩
    have hkn : k < n := by
      rcases Nat.lt_or_ge k n with q | q
      · exact q
      · rw [show n - k = 0 by omega] at hv; cases hv
    obtain ⟨m, hm⟩ : ∃ m, n - k = m + 1 := ⟨n - k - 1, by omega⟩
    rw [hm] at hv
    have : p = k ∧ v = List.range' (k + 1) m := by
      have : k :: List.range' (k + 1) m = p :: v := hv.symm ▸ rfl
      cases this
      exact ⟨rfl, rfl⟩
    obtain ⟨rfl, rfl⟩ := this
    have hz1s : z1 < st.length := by omega
    have c1 : cutD st (some ((z1 : Int) + 1)) none = st.drop (z1 + 1) := cut_from st (z1 + 1)
    have m1 : mulI (step : Int) (p : Int) = some ((step : Int) * p) := mulI_l (by omega) (by omega)
    have h26 : (z2 + step * p) % 26 < abc.length := Nat.mod_lt _ (by decide)
    have ix : ixD (.str (sT abc)) (.int (((z2 : Int) + (step : Int) * (p : Int)) % 26)) = some (.imm (.str (sT [abc.getD ((z2 + step * p) % 26) 0]))) := by
      rw [show ((z2 : Int) + (step : Int) * (p : Int)) % 26 = (((z2 + step * p) % 26 : Nat) : Int) by push_cast; rfl, ix_signs h26 (by decide)]
      rw [List.getD_eq_getElem?_getD, List.getElem?_eq_getElem h26]
      rfl
    have tl1 : (st.take z1).length ≤ 8 := by rw [List.length_take]; omega
    have tl2 : (st.drop (z1 + 1)).length ≤ 8 := by rw [List.length_drop]; omega
    have nmt : (namesTo st z1 z2 step z3 p).map D.str ++ [D.str (sT (nameK st z1 z2 step z3 p))] = (namesTo st z1 z2 step z3 (p + 1)).map D.str := by
      unfold namesTo
      rw [List.range_succ, List.map_append, List.map_append]
      rfl
    have nml : ((namesTo st z1 z2 step z3 p).map D.str).length = p := by unfold namesTo; simp
    have a1 : addD (.str (sT (st.take z1))) (.str (sT [abc.getD ((z2 + step * p) % 26) 0])) = some (.imm (.str (sT (st.take z1 ++ [abc.getD ((z2 + step * p) % 26) 0])))) := add_signs (by simp; omega)
    have fin : n - (p + 1) = m := by omega
    have sl1 : slD (.str (sT st)) (some ((z1 : Int) + 1)) none = some (.imm (.str (sT (st.drop (z1 + 1))))) := by rw [sl_signs (by omega), c1]
    have sl2 : slD (.str (sT st)) none (some (z1 : Int)) = some (.imm (.str (sT (st.take z1)))) := by rw [sl_signs (by omega), cut_to]
    have key2 : ∀ tail : List Nat, tail.length ≤ 8 → nameK st z1 z2 step z3 p = st.take z1 ++ [abc.getD ((z2 + step * p) % 26) 0] ++ tail →
        addD (.str (sT (st.take z1 ++ [abc.getD ((z2 + step * p) % 26) 0]))) (.str (sT tail)) = some (.imm (.str (sT (nameK st z1 z2 step z3 p)))) := fun tail ht e => by
      rw [add_signs (by simp; omega), e]
    obtain ⟨g, hg⟩ : ∃ g, g = abc.getD ((z2 + step * p) % 26) 0 := ⟨_, rfl⟩
    rw [← hg] at ix a1 key2
    by_cases ht : z3 = 0
    · subst ht
      have k2 := key2 (st.drop (z1 + 1)) tl2 (by unfold nameK; rw [if_pos rfl, hg])
      simp [h3, h10, sl1, sl2, m1, ix, a1, k2, appendG, nml, show p < 16777216 by omega]
      exact ⟨p + 1, _, _, ⟨rfl, nmt, rfl⟩, rfl, rfl, ⟨fin.symm, .inr rfl⟩, by omega⟩
    · have hne : ¬ ((z3 : Int) = 0) := by omega
      have k2 := key2 ((st.drop (z1 + 1)).take (p % 3)) (by rw [List.length_take]; omega) (by unfold nameK; rw [if_neg ht, hg])
      have sl3 : slD (.str (sT (st.drop (z1 + 1)))) none (some ((p : Int) % 3)) = some (.imm (.str (sT ((st.drop (z1 + 1)).take (p % 3))))) := by
        rw [sl_signs (by omega), show (p : Int) % 3 = ((p % 3 : Nat) : Int) by push_cast; rfl, cut_to]
      simp [h3, h10, sl1, sl2, m1, ix, a1, k2, hne, ht, sl3, appendG, nml, show p < 16777216 by omega]
      exact ⟨p + 1, _, _, ⟨rfl, nmt, rfl⟩, rfl, rfl, ⟨fin.symm, .inr rfl⟩, by omega⟩
  · rintro ⟨fl, ρ⟩ ⟨e, k, x3, x10, e2, h3, h10, hv, hk⟩
    dsimp only at e e2
    subst e e2
    have : k = n := by
      have := congrArg List.length hv
      simp at this
      omega
    subst this
    simp
    have hz1s : z1 < st.length := by omega
    refine ⟨_, c5, ⟨rfl, rfl⟩, by unfold namesTo; simp, names_nodup hz1s hst hn, ?_, hp5.mono (by omega)⟩
    intro m hm
    unfold namesTo at hm
    obtain ⟨j, hj, rfl⟩ := List.mem_map.mp hm
    exact name_is hsa (by omega) hz1s
end Ev
/-! text Ttab -/
set_option Elab.async false
set_option linter.all false
set_option maxRecDepth 100000
set_option maxHeartbeats 4000000
namespace Ev
open PySem L2
theorem isname_ok {m : Str} (h : IsName m) : F_is_name [.imm (.str m)] = some (.imm (.bl true), []) := by
  obtain ⟨l, rfl, h1, h2, h3⟩ := h
  apply ok_eq
  unfold F_is_name
  have e1 : (0 : Int) < l.length := by omega
  have e2 : (l.length : Int) ≤ 8 := by omega
  simp [slots, N_is_name, B_is_name, len_signs (l := l) (by omega), h1, e2, h3, show 0 < l.length by omega]
  refine ⟨by omega, (lc_map (g := fun c => D.str (sT [c])) (fun _ => D.bl true) ?_).imp ?_⟩
  · intro c hc
    simp [in_signs, h3 c hc]
  · rintro z rfl
    simp [backE, List.range_succ, all_map]
theorem aremarks_ok {nm : List Str} {d : D} (hd : d = .lst (nm.map .str) ∨ d = .tup (nm.map .str)) (h1 : 1 ≤ nm.length) (h2 : nm.length ≤ 6) (hn : nm.Nodup) (hm : ∀ m ∈ nm, IsName m) : F_are_marks [.imm d] = some (.imm (.bl true), []) := by
  apply ok_eq
  unfold F_are_marks
  have e0 := listing_ok hd
  have e1 : lenD [d] = some (.imm (.int (nm.length : Nat))) := by rcases hd with rfl | rfl <;> simp
  have e2 : seqI d = some (nm.map .str) := by rcases hd with rfl | rfl <;> rfl
  have e3 : (1 : Int) ≤ (nm.length : Nat) := by omega
  have e4 : ((nm.length : Nat) : Int) ≤ 6 := by omega
  simp [slots, N_are_marks, B_are_marks, e0, e1, e2, e3, e4]
  refine ⟨by omega, (lc_map (g := D.str) (fun _ => D.bl true) ?_).imp ?_⟩
  · intro m q
    simp [isname_ok (hm m q)]
  · rintro z rfl
    simp [backE, List.range_succ, all_map, e1]
    rcases hd with rfl | rfl
    · simp [dedup_len hn]; omega
    · simp [dedup_len hn]; omega
theorem anyF_strs (x : Str) : ∀ l : List Str, anyF (.str x) (l.map D.str) = some (decide (x ∈ l))
  | [] => by simp [anyF]
  | y :: l => by
    rw [List.map_cons]
    unfold anyF
    rw [anyF_strs x l]
    have e : eqF (.str y) (.str x) = some (decide (y = x)) := by
      show some (eqV (V.str y) (V.str x)) = _
      have : eqV (V.str y) (V.str x) = decide (y = x) := by
        first
        | rfl
        | simp [eqV]
      rw [this]
    rw [e]
    simp only [Option.bind_some, Option.map_some]
    congr 1
    by_cases h : y = x
    · simp [h]
    · have h' : ¬ x = y := fun z => h z.symm
      simp [h, h']
theorem in_strs (x : Str) (l : List Str) : inD (.str x) (.tup (l.map D.str)) = some (decide (x ∈ l)) := anyF_strs x l
theorem pairof_ok {nm : List Str} {d : D} {p : Str × Str} (h : PairL d p) (h1 : p.1 ∈ nm) (h2 : p.2 ∈ nm) : F_is_pair_of [.imm (.tup (nm.map .str)), .imm d] = some (.imm (.bl true), []) := by
  apply ok_eq
  unfold F_is_pair_of
  have hd : d = .lst ([p.1, p.2].map D.str) ∨ d = .tup ([p.1, p.2].map D.str) := h.symm
  have e0 := listing_ok hd
  have e1 : lenD [d] = some (.imm (.int 2)) := by rcases hd with rfl | rfl <;> rfl
  have e2 : seqI d = some ([p.1, p.2].map .str) := by rcases hd with rfl | rfl <;> rfl
  have a2 : allLD [.lst ([p.1, p.2].map (fun _ => D.bl true))] = some (.imm (.bl true)) := all_map _
  simp only [List.map_cons, List.map_nil] at a2 e2
  simp [slots, N_is_pair_of, B_is_pair_of, e0, e1, e2, in_strs, h1, h2, backE, List.range_succ, a2]
theorem arepairs_ok {nm : List Str} {d : D} {rows : List (List (Str × Str))} (h : LinesL d rows) (hl : rows.length = nm.length) (h6 : nm.length ≤ 6) (hr : ∀ r ∈ rows, r.length = nm.length ∧ ∀ p ∈ r, p.1 ∈ nm ∧ p.2 ∈ nm) :
    F_are_pairs [.imm (.tup (nm.map .str)), .imm d] = some (.imm (.bl true), []) := by
  apply ok_eq
  unfold F_are_pairs
  obtain ⟨ds, hd, h2⟩ := h
  have e0 := listing_ok hd
  have hdl : ds.length = nm.length := h2.len.trans hl
  have e1 : lenD [d] = some (.imm (.int (nm.length : Nat))) := by rcases hd with rfl | rfl <;> simp [hdl]
  have e2 : seqI d = some ds := by rcases hd with rfl | rfl <;> rfl
  simp [slots, N_are_pairs, B_are_pairs, e0, e1, e2]
  refine ⟨by omega, ?_⟩
  refine (lc_list (fun _ => D.bl true) ?_).imp ?_
  · intro e he
    obtain ⟨ps, hps, es, hes, h3⟩ := h2.mem e he
    have e5 := listing_ok hes
    have e6 : lenD [e] = some (.imm (.int (nm.length : Nat))) := by
      have : es.length = nm.length := h3.len.trans (hr ps hps).1
      rcases hes with rfl | rfl <;> simp [this]
    simp [e5, e6]
  rintro z rfl
  simp [backE, List.range_succ, all_map, e2]
  refine (lc2_rel (fun es acc ρ => (∀ e ∈ es, e ∈ ds) ∧ (∃ k, acc = List.replicate k (D.bl true) ∧ k + es.length * nm.length = nm.length * nm.length) ∧ ρ = [.imm (.tup (nm.map .str)), .imm d, .un, .un]) ?_ ds [] _ ⟨fun _ h => h, ⟨0, rfl, by rw [hdl]; omega⟩, rfl⟩).imp ?_
  · rintro e es acc ρ ⟨hes0, ⟨k, rfl, hk⟩, rfl⟩
    obtain ⟨ps, hps, fs, hfs, h3⟩ := h2.mem e (hes0 e List.mem_cons_self)
    have e6 : seqI e = some fs := by rcases hfs with rfl | rfl <;> rfl
    have hfl : fs.length = nm.length := h3.len.trans (hr ps hps).1
    simp [e6]
    refine (lc_list (fun _ => D.bl true) ?_).imp ?_
    · intro f hf
      obtain ⟨p, hp, hpl⟩ := h3.mem f hf
      obtain ⟨_, hin⟩ := hr ps hps
      simp [pairof_ok hpl (hin p hp).1 (hin p hp).2]
    rintro z rfl
    refine ⟨fun x hx => hes0 x (List.mem_cons_of_mem _ hx), ⟨k + fs.length, ?_, ?_⟩, rfl⟩
    · rw [← List.replicate_append_replicate]
      dsimp only
      rw [List.map_const']
    · rw [hfl]
      rw [List.length_cons, Nat.succ_mul] at hk
      omega
  · rintro ⟨z, ρ⟩ ⟨_, ⟨k, hk, hk2⟩, hρ⟩
    simp at hk hk2
    dsimp only at hρ
    subst hρ
    rw [hk]
    have : nm.length * nm.length ≤ 6 * 6 := Nat.mul_le_mul h6 h6
    simp [backE, List.range_succ, all_rep]
    omega
theorem fl_om : flP flL "Table" "own_marks" = true := by decide +kernel
theorem fl_kn : flP flL "Table" "known" = true := by decide +kernel
theorem table_ok {nm : List Str} {dm dp : D} {rows : List (List (Str × Str))} (hd : dm = .lst (nm.map .str) ∨ dm = .tup (nm.map .str)) (h1 : 1 ≤ nm.length) (h2 : nm.length ≤ 6) (hn : nm.Nodup) (hm : ∀ m ∈ nm, IsName m)
    (hp : LinesL dp rows) (hl : rows.length = nm.length) (hr : ∀ r ∈ rows, r.length = nm.length ∧ ∀ p ∈ r, p.1 ∈ nm ∧ p.2 ∈ nm) :
    F_Table___init__ [.own (.ins "Table" []), .imm dm, .imm dp] = some (.imm .non, [.ins "Table" (tabF nm rows)]) := by
  apply ok_eq
  unfold F_Table___init__
  have e1 := aremarks_ok hd h1 h2 hn hm
  have e2 : tupleD [dm] = some (.imm (.tup (nm.map .str))) := by rcases hd with rfl | rfl <;> rfl
  have e3 := arepairs_ok hp hl h2 hr
  obtain ⟨ds, hds, hall⟩ := hp
  have e4 : zipI [.tup (nm.map D.str), dp] = some (zipD (nm.map .str) ds) := zipI_line hds
  have h36 : nm.length * nm.length ≤ 6 * 6 := Nat.mul_le_mul h2 h2
  obtain ⟨y3, y4, y5, y6, ⟨k3, k4, k5, k6⟩, hk⟩ := kOut_ok (m := dm) (p := dp) hn nm ds rows .un .un .un .un [] rfl rfl rfl rfl hn hall hl.symm (fun r q => (hr r q).1) (by simp; omega) fun _ _ _ => rfl
  have key : knownS (flP flL) "own_marks" "known" tgA tgB (varD 2) (varD 4) fvT fkT [.par (.ins "Table" [("own_marks", .tup (nm.map .str))]), .imm dm, .imm dp, .un, .un, .un, .un] =
      some (.nx, [.par (.ins "Table" (tabF nm rows)), .imm dm, .imm dp, y3, y4, y5, y6]) := by
    unfold knownS
    dsimp only
    have lk : List.lookup ("own_marks" : Str) [(("own_marks" : Str), D.tup (nm.map .str))] = some (.tup (nm.map .str)) := by simp [List.lookup]
    have ln : List.lookup ("known" : Str) [(("own_marks" : Str), D.tup (nm.map .str))] = none := by
      have : (("known" : Str) == ("own_marks" : Str)) = false := by decide +kernel
      simp [List.lookup, this]
    rw [if_pos ⟨rfl, fl_om, fl_kn, by decide +kernel, ln, (show 1 < 1000 by decide), by decide, by decide⟩, lk]
    dsimp only
    have v2 : varD 2 [.un, .imm dm, .imm dp, .un, .un, .un, .un] = some (dp, [.un, .imm dm, .imm dp, .un, .un, .un, .un]) := rfl
    rw [v2, Option.bind_some]
    dsimp only
    rw [e4, Option.bind_some]
    have hk' := hk
    unfold envT at hk'
    rw [hk', Option.bind_some]
    rfl
  simp [slots, N_Table___init__, B_Table___init__, e1, e2, fl_om, putFD, List.lookup, e3]
  exact Ok.eq key (by simp)
end Ev
/-! text Tmark -/
set_option Elab.async false
set_option linter.all false
set_option maxRecDepth 100000
set_option maxHeartbeats 4000000
namespace Ev
open PySem L2
theorem lk_om {a b : D} : List.lookup ("own_marks" : Str) [(("own_marks" : Str), a), (("known" : Str), b)] = some a := by simp [List.lookup]
theorem lk_kn {a b : D} : List.lookup ("known" : Str) [(("own_marks" : Str), a), (("known" : Str), b)] = some b := by
  have : (("known" : Str) == ("own_marks" : Str)) = false := by decide +kernel
  simp [List.lookup, this]
theorem lk_no {m : Str} {a b : D} (h1 : (m == ("own_marks" : Str)) = false) (h2 : (m == ("known" : Str)) = false) : List.lookup m [(("own_marks" : Str), a), (("known" : Str), b)] = none := by
  simp [List.lookup, h1, h2]
theorem no_has {t : Tb} : t.fs.lookup ("has" : Str) = none := lk_no (by decide +kernel) (by decide +kernel)
theorem no_need {t : Tb} : t.fs.lookup ("need_mark" : Str) = none := lk_no (by decide +kernel) (by decide +kernel)
theorem no_passed {t : Tb} : t.fs.lookup ("passed" : Str) = none := lk_no (by decide +kernel) (by decide +kernel)
theorem no_marks {t : Tb} : t.fs.lookup ("marks" : Str) = none := lk_no (by decide +kernel) (by decide +kernel)
theorem no_pairs {t : Tb} : t.fs.lookup ("pairs" : Str) = none := lk_no (by decide +kernel) (by decide +kernel)
theorem fs_om {t : Tb} : t.fs.lookup ("own_marks" : Str) = some (.tup (t.nm.map .str)) := lk_om
theorem fs_kn {t : Tb} : t.fs.lookup ("known" : Str) = some (.dct true (knK t.nm t.nm t.rows)) := lk_kn
theorem tab_obj (t : Tb) : t.tab = .obj "Table" t.fs := rfl
theorem has_ok {t : Tb} {i : Nat} (hi : i < t.n) : F_Table_has [.imm (.obj "Table" t.fs), .imm (t.md i)] = some (.imm (.bl true), []) := by
  apply ok_eq
  unfold F_Table_has Tb.md
  simp [slots, N_Table_has, B_Table_has, fl_om, fs_om, in_strs, TbS_mem hi]
theorem needm_ok {t : Tb} {i : Nat} (hi : i < t.n) : F_Table_need_mark [.imm (.obj "Table" t.fs), .imm (t.md i)] = some (.imm .non, []) := by
  apply ok_eq
  unfold F_Table_need_mark
  simp [slots, N_Table_need_mark, B_Table_need_mark, has_ok hi, no_has]
theorem passed_ok {t : Tb} (o : TbOk t) {i j : Nat} (hi : i < t.n) (hj : j < t.n) : F_Table_passed [.imm (.obj "Table" t.fs), .imm (t.md i), .imm (t.md j)] = some (.imm (.tup [t.md (t.f i j).1, t.md (t.f i j).2]), []) := by
  apply ok_eq
  unfold F_Table_passed
  simp [slots, N_Table_passed, B_Table_passed, needm_ok hi, needm_ok hj, no_need, fl_kn, fs_kn, Tb.ix o hi hj]
end Ev
/-! text Trowf -/
set_option Elab.async false
set_option linter.all false
set_option maxRecDepth 100000
set_option maxHeartbeats 4000000
namespace Ev
open PySem L2
/-- enumerate of anything told by f -/
theorem loop_enM {α : Type} {f : α → D} {i j : Nat} {B : Fs} (P : Nat → List α → Env → Prop) (step : ∀ k p w ρ, P k (p :: w) ρ → Ok (asg (.tp [.nm i, .nm j]) (.tup [.int (k : Nat), f p]) ρ) fun ρ1 => Ok (B ρ1) fun y => y.1 = .nx ∧ P (k + 1) w y.2) {w : List α} {ρ : Env} (h : P 0 w ρ) :
    Ok (loopF (.tp [.nm i, .nm j]) B (enD (w.map f)) ρ) fun y => y.1 = .nx ∧ P w.length [] y.2 := by
  rw [enD_from]
  refine (loopF_rel (fun ds ρ => ∃ k v, ds = enFrom k (v.map f) ∧ k + v.length = w.length ∧ P k v ρ) (fun fl ρ => fl = .nx ∧ P w.length [] ρ) ?_ ?_ _ ρ ⟨0, w, rfl, by omega, h⟩)
  · rintro d ds ρ ⟨k, v, e, hk, hp⟩
    cases v with
    | nil => cases e
    | cons p v =>
      rw [List.map_cons] at e
      cases e
      refine (step k p v ρ hp).imp fun ρ1 h1 => h1.imp fun y ⟨h2, h3⟩ => ?_
      obtain ⟨fl, ρ2⟩ := y
      dsimp only at h2
      subst h2
      exact ⟨k + 1, v, rfl, by simp at hk; omega, h3⟩
  · rintro ρ ⟨k, v, e, hk, hp⟩
    cases v with
    | nil =>
      refine ⟨rfl, ?_⟩
      have : k = w.length := by simpa using hk
      rw [← this]
      exact hp
    | cons p v => cases e
theorem rowf_ok {t : Tb} {l : List Nat} {d : D} (hd : d = .lst (l.map t.md) ∨ d = .tup (l.map t.md)) (h1 : 1 ≤ l.length) (h2 : l.length ≤ 60) (hl : ∀ x ∈ l, x < t.n) : F_row_fault [.imm (.obj "Table" t.fs), .imm d] = some (.imm .non, []) := by
  apply ok_eq
  unfold F_row_fault
  have e0 := listing_ok hd
  have e1 : enI [d] = some (enD (l.map t.md)) := by rcases hd with rfl | rfl <;> rfl
  have e2 : lenD [d] = some (.imm (.int l.length)) := by rcases hd with rfl | rfl <;> simp
  have e3 : (1 : Int) ≤ (l.length : Nat) := by omega
  have e4 : ((l.length : Nat) : Int) ≤ 60 := by omega
  simp [slots, N_row_fault, B_row_fault, e0, e1, e2, e3, e4]
  refine (loop_enM (f := t.md) (fun k v ρ => ∃ x y : Sl, ρ = [.imm (.obj "Table" t.fs), .imm d, x, y] ∧ isPar (some x) = false ∧ isPar (some y) = false ∧ ∀ x ∈ v, x < t.n) ?_ ⟨_, _, rfl, rfl, rfl, hl⟩).imp ?_
  · rintro k p v ρ ⟨x, y, rfl, hx, hy, hv⟩
    have hp := hv p List.mem_cons_self
    simp [hx, hy, no_has, has_ok hp]
    exact ⟨_, _, ⟨rfl, rfl⟩, rfl, rfl, fun q hq => hv q (List.mem_cons_of_mem _ hq)⟩
  · rintro ⟨fl, ρ⟩ ⟨e, x, y, e2, hx, hy, hv⟩
    dsimp only at e e2
    subst e e2
    simp
theorem row_need {t : Tb} {l : List Nat} {d : D} (hd : d = .lst (l.map t.md) ∨ d = .tup (l.map t.md)) (h1 : 1 ≤ l.length) (h2 : l.length ≤ 60) (hl : ∀ x ∈ l, x < t.n) : F_need_row [.imm (.obj "Table" t.fs), .imm d] = some (.imm (.tup (l.map t.md)), []) := by
  apply ok_eq
  unfold F_need_row
  have e0 := rowf_ok hd h1 h2 hl
  have e1 : tupleD [d] = some (.imm (.tup (l.map t.md))) := by rcases hd with rfl | rfl <;> rfl
  have e2 : isNotD .non .non = some false := by rfl
  simp [slots, N_need_row, B_need_row, e0, e1, e2]
end Ev
/-! text Tpass -/
set_option Elab.async false
set_option linter.all false
set_option maxRecDepth 100000
set_option maxHeartbeats 4000000
namespace Ev
open PySem L2
theorem map_cut_to {α : Type} (f : α → D) (xs : List α) (p : Nat) : cutD (xs.map f) none (some (p : Int)) = (xs.take p).map f := by rw [cut_to, List.map_take]
theorem map_cut_from {α : Type} (f : α → D) (xs : List α) (p : Nat) : cutD (xs.map f) (some (p : Int)) none = (xs.drop p).map f := by rw [cut_from, List.map_drop]
theorem map_cut_from1 {α : Type} (f : α → D) (xs : List α) (p : Nat) : cutD (xs.map f) (some ((p : Int) + 1)) none = (xs.drop (p + 1)).map f := map_cut_from f xs (p + 1)
theorem map_cut_from2 {α : Type} (f : α → D) (xs : List α) (p : Nat) : cutD (xs.map f) (some ((p : Int) + 2)) none = (xs.drop (p + 2)).map f := map_cut_from f xs (p + 2)
theorem passat_ok {t : Tb} (o : TbOk t) {l : List Nat} {p : Nat} (hl : ∀ x ∈ l, x < t.n) (h2 : l.length ≤ 1000) (hp : p + 1 < l.length) : F_pass_at [.imm (.obj "Table" t.fs), .imm (.tup (l.map t.md)), .imm (.int (p : Nat))] = some (.imm (.tup ((passA t.f l p).map t.md)), []) := by
  apply ok_eq
  unfold F_pass_at
  have a1 : l[p] < t.n := hl _ (List.getElem_mem _)
  have a2 : l[p + 1] < t.n := hl _ (List.getElem_mem _)
  have e := passA_cut t.f l p hp
  simp [slots, N_pass_at, B_pass_at, map_cut_to, map_cut_from2, map_at1 hp, map_at (show p < l.length by omega), no_passed, passed_ok o a1 a2]
  refine ⟨by omega, by omega, ?_⟩
  rw [← e]
  simp
end Ev
/-! text Tbehind -/
set_option Elab.async false
set_option linter.all false
set_option maxRecDepth 100000
set_option maxHeartbeats 4000000
namespace Ev
open PySem L2
theorem behind_ok {t : Tb} (o : TbOk t) {l w : List Nat} {d e : D} (hd : d = .lst (l.map t.md) ∨ d = .tup (l.map t.md)) (he : e = .lst (nts w) ∨ e = .tup (nts w)) (h1 : 1 ≤ l.length) (h2 : l.length ≤ 60) (hl : ∀ x ∈ l, x < t.n) (hw : WordOk l.length w) (hwl : w.length ≤ 2000) :
    F_row_behind [.imm (.obj "Table" t.fs), .imm d, .imm e] = some (.imm (.tup ((goA t.f l w).map t.md)), []) := by
  apply ok_eq
  unfold F_row_behind
  have e0 := row_need hd h1 h2 hl
  have e1 := word_need (n := l.length) he hw hwl
  simp [slots, N_row_behind, B_row_behind, e0, e1]
  refine (loop_nts (fun v ρ => ∃ (k : List Nat) (x : Sl), ρ = [.imm (.obj "Table" t.fs), .imm d, .imm e, .imm (.tup (k.map t.md)), x] ∧ isPar (some x) = false ∧ k.length = l.length ∧ (∀ x ∈ k, x < t.n) ∧ WordOk l.length v ∧ goA t.f k v = goA t.f l w) ?_ ⟨l, _, rfl, rfl, rfl, hl, hw, rfl⟩).imp ?_
  · rintro p v ρ ⟨k, x, rfl, hx, hk, hkl, hv, hg⟩
    have hp : p + 1 < k.length := by rw [hk]; exact hv p List.mem_cons_self
    simp [hx, passat_ok o hkl (by omega) hp]
    exact ⟨passA t.f k p, _, ⟨rfl, rfl⟩, rfl, (passA_len _ _ _).trans hk, passA_lt (fun i j hi hj => o.lt hi hj) k p hkl, fun q hq => hv q (List.mem_cons_of_mem _ hq), hg⟩
  · rintro ⟨fl, ρ⟩ ⟨e, k, x, e2, hx, hk, hkl, hv, hg⟩
    dsimp only at e e2
    subst e e2
    simp
    exact congrArg (List.map t.md) hg
end Ev
/-! text U12 -/
set_option Elab.async false
set_option linter.all false
set_option maxRecDepth 100000
set_option maxHeartbeats 4000000
namespace Ev
open PySem L2
def NP (x : Sl) : Prop := isPar (some x) = false
theorem word_nat {n : Nat} {w : List Nat} (h : ∀ p ∈ w, (p : Int) + 1 < (n : Nat)) : WordOk n w := fun p hp => by have := h p hp; omega
theorem stand_prm (n : Nat) (w : List Nat) : (stand n w).Perm (List.range n) := runs_perm w _
theorem jn {n : Nat} (h1 : 1 ≤ n) (h2 : n ≤ 60) (w v : List Nat) : F_joined [.imm (.tup (nts (stand n w))), .imm (.tup (nts (stand n v)))] = some (.imm (.tup (nts (stand n (w ++ v)))), []) := by
  rw [joined_ok h1 h2 (.inr rfl) (.inr rfl) (stand_prm n w) (stand_prm n v), stand_joined]
theorem un {n : Nat} (h1 : 1 ≤ n) (h2 : n ≤ 60) (w : List Nat) : F_undone [.imm (.tup (nts (stand n w)))] = some (.imm (.tup (nts (stand n w.reverse))), []) := by
  rw [undone_ok h1 h2 (.inr rfl) (stand_prm n w), stand_undone]
theorem stand_back (n : Nat) (w : List Nat) : stand n (w ++ w.reverse) = List.range n := by
  unfold stand
  rw [runs_app]
  exact runs_back w _
theorem stand_back' (n : Nat) (w : List Nat) : stand n (w.reverse ++ w) = List.range n := by
  have := stand_back n w.reverse
  rwa [List.reverse_reverse] at this
theorem pick3' (z : Nat) (h : (z : Int) < 3) : ∃ m : Nat, atI [D.int 4, D.int 9, D.int 59] (z : Int) = some (.int (m : Nat)) ∧ 1 ≤ m ∧ m ≤ 59 := by
  have : z = 0 ∨ z = 1 ∨ z = 2 := by omega
  rcases this with rfl | rfl | rfl
  · exact ⟨4, rfl, by decide, by decide⟩
  · exact ⟨9, rfl, by decide, by decide⟩
  · exact ⟨59, rfl, by decide, by decide⟩
/-! marks that just pass on -/
def swapT (nm : List Str) : Tb := ⟨nm, (List.range nm.length).map fun i => (List.range nm.length).map fun j => (j, i)⟩
theorem nm_eq (t : Tb) : t.nm = (List.range t.n).map t.ms := by
  apply List.ext_getElem?
  intro i
  by_cases h : i < t.n
  · rw [List.getElem?_map, List.getElem?_range h, List.getElem?_eq_getElem h]
    show some _ = some (t.ms i)
    rw [TbS_get h]
  · rw [List.getElem?_eq_none (Nat.le_of_not_lt h), List.getElem?_eq_none (by simp; exact Nat.le_of_not_lt h)]
theorem swap_sq (n : Nat) : TbSq n ((List.range n).map fun i => (List.range n).map fun j => (j, i)) := by
  refine ⟨by simp, fun r hr => ?_⟩
  obtain ⟨i, hi, rfl⟩ := List.mem_map.mp hr
  refine ⟨by simp, fun p hp => ?_⟩
  obtain ⟨j, hj, rfl⟩ := List.mem_map.mp hp
  exact ⟨List.mem_range.mp hj, List.mem_range.mp hi⟩
theorem swap_f {nm : List Str} {i j : Nat} (hi : i < nm.length) (hj : j < nm.length) : (swapT nm).f i j = (j, i) := by
  unfold swapT Tb.f
  dsimp only
  rw [List.getD_eq_getElem?_getD, List.getD_eq_getElem?_getD, List.getElem?_map, List.getElem?_range hi]
  simp [hj]
theorem swap_rows (nm : List Str) : (swapT nm).rows = nm.map fun m => nm.map fun o => (o, m) := by
  have e := nm_eq (swapT nm)
  have e' : nm = (List.range nm.length).map (swapT nm).ms := e
  unfold Tb.rows
  show ((List.range nm.length).map fun i => (List.range nm.length).map fun j => (j, i)).map _ = _
  conv => rhs; rw [e']
  rw [List.map_map, List.map_map]
  refine List.map_congr_left fun i _ => ?_
  show ((List.range nm.length).map fun j => (j, i)).map _ = ((List.range nm.length).map _).map _
  rw [List.map_map, List.map_map]
  rfl
theorem swap_lines (nm : List Str) : LinesL (.lst (nm.map fun m => .lst (nm.map fun o => .tup [.str o, .str m]))) (swapT nm).rows := by
  rw [swap_rows]
  refine ⟨_, .inl rfl, All2.map' _ _ (fun m => ⟨_, .inl rfl, All2.map' _ _ (fun o => .inl rfl) nm⟩) nm⟩
theorem go_swap {nm : List Str} (o : TbOk (swapT nm)) {l w : List Nat} (hl : ∀ x ∈ l, x < nm.length) : goA (swapT nm).f l w = runs l w := by
  rw [← goA_runs]
  exact goA_cong (fun i j hi hj => o.lt hi hj) (fun i j hi hj => swap_f hi hj) w l hl
theorem runs_of (l w : List Nat) : runs l w = (stand l.length w).map (fun i => l.getD i 0) := runs_joined l w
theorem law_true : ∀ ns : List Int, ns.length ≤ 63 → F_law [.imm (.scr ns)] = some (.imm (.bl true), []) := by
  intro ns hns
  apply ok_eq
  unfold F_law
  have r5 : rng1 [.int 5] = some (nts (List.range 5)) := rng1_n (n := 5) (by decide)
  have r3 : rng1 [.int 3] = some [.int 0, .int 1, .int 2] := by rfl
  simp [slots, N_law, B_law, List.replicate]
  refine pen_ok.imp fun y ⟨cells, c0, ey, hp0⟩ => ?_
  subst ey
  simp [r5]
  refine (loop_nts (fun v ρ => ∃ (c : C) (x2 x3 x4 x5 x6 x7 x8 x9 x10 x11 x12 x13 x14 x15 x16 : Sl), ρ = [.imm (.scr ns), .own c, x2, x3, x4, x5, x6, x7, x8, x9, x10, x11, x12, x13, x14, x15, x16] ∧
      (NP x2 ∧ NP x3 ∧ NP x4 ∧ NP x5 ∧ NP x6 ∧ NP x7 ∧ NP x8 ∧ NP x9 ∧ NP x10 ∧ NP x11) ∧ ∃ k : Nat, k + v.length = 5 ∧ PenAt cells (k * 20000) c) ?_ ⟨c0, .un, .un, .un, .un, .un, .un, .un, .un, .un, .un, .un, .un, .un, .un, .un, rfl, ⟨rfl, rfl, rfl, rfl, rfl, rfl, rfl, rfl, rfl, rfl⟩, 0, rfl, hp0.mono (by decide)⟩).imp ?_
  · rintro t v ρ ⟨c, x2, x3, x4, x5, x6, x7, x8, x9, x10, x11, x12, x13, x14, x15, x16, rfl, ⟨n2, n3, n4, n5, n6, n7, n8, n9, n10, n11⟩, k, hk, hp⟩
    have hk6 : k < 5 := by simp at hk; omega
    unfold NP at n2 n3 n4 n5 n6 n7 n8 n9 n10 n11
    simp [n2]
    refine (draw_at hp (by omega) (by decide) (by decide)).imp fun y ⟨z0, c1, ey, hz0, hp1⟩ => ?_
    subst ey
    obtain ⟨m, hm1, hm2, hm3⟩ := pick3' z0 hz0
    simp [hm1]
    refine (draw_at hp1 (by omega) (by omega) (by omega)).imp fun y ⟨z1, c2, ey, hz1, hp2⟩ => ?_
    subst ey
    obtain ⟨n, hn⟩ : ∃ n : Nat, n = z1 + 2 := ⟨_, rfl⟩
    have en : (2 : Int) + (z1 : Int) = (n : Nat) := by omega
    have hn1 : 1 ≤ n := by omega
    have hn2 : n ≤ 60 := by omega
    simp [n3, en, r3]
    refine (word_ok hp2 (by omega) (show (1 : Int) ≤ (n : Nat) by omega) (by omega) (show (0 : Int) ≤ 60 by decide) (by decide)).imp fun y ⟨w1, c3, ey, hl1, hw1, hp3⟩ => ?_
    subst ey
    have hw1 := word_nat hw1
    simp
    refine (word_ok hp3 (by omega) (show (1 : Int) ≤ (n : Nat) by omega) (by omega) (show (0 : Int) ≤ 60 by decide) (by decide)).imp fun y ⟨w2, c4, ey, hl2, hw2, hp4⟩ => ?_
    subst ey
    have hw2 := word_nat hw2
    simp
    refine (word_ok hp4 (by omega) (show (1 : Int) ≤ (n : Nat) by omega) (by omega) (show (0 : Int) ≤ 60 by decide) (by decide)).imp fun y ⟨w3, c5, ey, hl3, hw3, hp5⟩ => ?_
    subst ey
    have hw3 := word_nat hw3
    have o1 := order_of_ok (d := .tup (nts w1)) hn1 hn2 (.inr rfl) hw1 (by omega)
    have o2 := order_of_ok (d := .tup (nts w2)) hn1 hn2 (.inr rfl) hw2 (by omega)
    have o3 := order_of_ok (d := .tup (nts w3)) hn1 hn2 (.inr rfl) hw3 (by omega)
    have hw12 : WordOk n (w1 ++ w2) := fun p hp => (List.mem_append.mp hp).elim (hw1 p) (hw2 p)
    have o12 := order_of_ok (d := .tup (nts (w1 ++ w2))) hn1 hn2 (.inr rfl) hw12 (by simp; omega)
    have hwr : WordOk n w1.reverse := fun p hp => hw1 p (List.mem_reverse.mp hp)
    have o1r := order_of_ok (d := .tup (nts w1.reverse)) hn1 hn2 (.inr rfl) hwr (by simp; omega)
    have o0 := order_of_ok (n := n) (w := []) (d := .tup []) hn1 hn2 (.inr rfl) (fun p hp => by cases hp) (by simp)
    have J := jn hn1 hn2
    have U := un hn1 hn2
    have s0 : stand n [] = List.range n := rfl
    have bg : nts (List.range n) = nts (stand n []) := rfl
    have tl : w1.length + w2.length ≤ 16777216 := by omega
    simp [n4, n5, n6, n7, n8, n9, n10, n11, o1, o2, o3, o12, o1r, o0, J, U, backE, List.range_succ, atI, ixN, tl, rgOk_nat (show n ≤ 2 ^ 24 by omega), rgI_n, stand_back, stand_back', List.append_assoc, s0]
    refine (draw_at hp5 (by omega) (by decide) (by decide)).imp fun y ⟨z6, c6, ey, hz6, hp6⟩ => ?_
    subst ey
    obtain ⟨q, hq⟩ : ∃ q : Nat, q = z6 + 1 := ⟨_, rfl⟩
    have eq : (1 : Int) + (z6 : Int) = (q : Nat) := by omega
    simp [eq]
    refine (names_ok hp6 (by omega) (show q ≤ 26 by omega)).imp fun y ⟨nm, c7, ey, hnl, hnd, hnm, hp7⟩ => ?_
    subst ey
    simp [n9]
    refine ⟨by omega, (lc_map (g := D.str) (fun m => D.lst (nm.map fun o => .tup [.str o, .str m])) ?_).imp ?_⟩
    · intro m hm
      simp
      refine ⟨by omega, (lc_map (g := D.str) (fun o => D.tup [.str o, .str m]) ?_).imp ?_⟩
      · intro o ho
        simp
      · rintro z rfl
        simp [backE, List.range_succ]
    · rintro z rfl
      have tok : TbOk (swapT nm) := ⟨by show 1 ≤ nm.length; omega, by show nm.length ≤ 6; omega, hnd, hnm, swap_sq nm.length⟩
      have T := table_ok (.inl rfl) tok.one tok.six hnd hnm (swap_lines nm) (Tb.rows_len tok) (Tb.rows_in tok)
      simp [backE, List.range_succ]
      refine ⟨_, T, n10, ?_⟩
      have hp7' : PenAt cells (k * 20000 + 15000) c7 := hp7.mono (by omega)
      have tabe : C.toD (.ins "Table" (tabF nm (swapT nm).rows)) = .obj "Table" (swapT nm).fs := rfl
      simp [rng1_n (show n < 2 ^ 24 by omega), tabe]
      refine ⟨by omega, ?_⟩
      refine (lcF_rel (fun ds acc ρ => ∃ (l : List Nat) (c' : C), acc = l.map (swapT nm).md ∧ ρ = [.imm (.scr ns), .own c', .imm (.int t), .imm (.int n), .imm (.lst [.tup (nts w1), .tup (nts w2), .tup (nts w3)]), .imm (.tup (nts (stand n w1))), .imm (.tup (nts (stand n w2))), .imm (.tup (nts (stand n w3))),
          .imm (.tup (nts (List.range n))), .imm (.lst (nm.map D.str)), .imm (.obj "Table" (swapT nm).fs), x11, .un, x13, x14, x15, x16] ∧ l.length + ds.length = n ∧ (∀ x ∈ l, x < nm.length) ∧ PenAt cells (k * 20000 + 15000 + l.length) c') ?_ _ [] _ ⟨[], c7, rfl, rfl, by simp, by simp, by simpa using hp7'⟩).imp ?_
      · rintro d ds acc ρ ⟨l, c', rfl, rfl, hll, hlt, hpl⟩
        simp at hll
        simp
        refine (pick_ok (n := nm.length) (swapT nm).md hpl (by omega) (by simp) (by omega) (by omega) fun z hz => ?_).imp fun y ⟨z, c'', ey, hz, hpz⟩ => ?_
        · have e := TbS_get (t := swapT nm) hz
          rw [ix_lst, map_at hz]
          show some (Rv.imm (D.str nm[z])) = some (Rv.imm (D.str ((swapT nm).ms z)))
          rw [e]
          rfl
        · subst ey
          simp
          refine ⟨l ++ [z], by simp, by simp; omega, ?_, by simpa [Int.add_assoc] using hpz⟩
          intro x hx
          rcases List.mem_append.mp hx with q' | q'
          · exact hlt x q'
          · simp at q'; omega
      · rintro ⟨z, ρ⟩ ⟨l, c', e1, e2, hll, hlt, hpl⟩
        simp at e1 hll
        subst e1 e2
        have hw1' : WordOk l.length w1 := by rw [hll]; exact hw1
        have hw2' : WordOk l.length w2 := by rw [hll]; exact hw2
        have R1 := behind_ok tok (d := .tup (l.map (swapT nm).md)) (e := .tup (nts w1)) (.inr rfl) (.inr rfl) (by omega) (by omega) hlt hw1' (by omega)
        rw [go_swap tok hlt] at R1
        have hlt2 : ∀ x ∈ runs l w1, x < nm.length := fun x hx => hlt x ((runs_perm w1 l).mem_iff.mp hx)
        have R2 := behind_ok tok (d := .tup ((runs l w1).map (swapT nm).md)) (e := .tup (nts w2)) (.inr rfl) (.inr rfl) (by rw [runs_len]; omega) (by rw [runs_len]; omega) hlt2 (by rw [runs_len]; exact hw2') (by omega)
        rw [go_swap tok hlt2, ← runs_app] at R2
        have tabe2 : tabF (swapT nm).nm (swapT nm).rows = (swapT nm).fs := rfl
        have G1 : ∀ u : List Nat, (runs l u).map (swapT nm).md = (stand n u).map fun i => (swapT nm).md (l.getD i 0) := fun u => by
          rw [runs_of, hll, List.map_map]
          rfl
        simp [n11, R1, backE, List.range_succ, atI, ixN, tabe2]
        refine ⟨by rw [stand_len]; omega, (lc_nts (fun i => (swapT nm).md (l.getD i 0)) ?_).imp ?_⟩
        · intro p hp
          have hpn : p < l.length := by rw [hll]; exact stand_lt hp
          simp [map_at hpn]
          simp [hpn]
        · rintro z rfl
          rw [← G1 w1]
          simp [backE, List.range_succ, tok.ne_same, R1, R2, J, atI, ixN]
          refine ⟨by rw [stand_len]; omega, (lc_nts (fun i => (swapT nm).md (l.getD i 0)) ?_).imp ?_⟩
          · intro p hp
            have hpn : p < l.length := by rw [hll]; exact stand_lt hp
            simp [map_at hpn]
            simp [hpn]
          · rintro z rfl
            rw [← G1 (w1 ++ w2)]
            simp [backE, List.range_succ, tok.ne_same]
            exact ⟨c', _, _, _, _, _, _, _, _, _, _, ⟨rfl, rfl, rfl, rfl, rfl, rfl, rfl, rfl, rfl, rfl, rfl⟩, ⟨rfl, rfl, rfl, rfl, rfl, rfl, rfl, rfl, rfl, rfl⟩, k + 1, by simp at hk; omega, hpl.mono (by omega)⟩
  · rintro ⟨fl, ρ⟩ ⟨e, c, x2, x3, x4, x5, x6, x7, x8, x9, x10, x11, x12, x13, x14, x15, x16, e2, _⟩
    dsimp only at e e2
    subst e e2
    simp
end Ev
/-! text Ge -/
open PySem PySem.W PyProof.Rows in
set_option maxRecDepth 100000 in
set_option maxHeartbeats 0 in
theorem PySem.Challenge.cw_passmarks_k12_whole_orders_and_rows_holds : PySem.Challenge.rw_passmarks_k12_whole_orders_and_rows.Holds := by
  w_on; o_law; k_head; (case hw => w_witness2)
  k_fill
  refine Ev.walkD (l := PySem.Challenge.rw_passmarks_k12_whole_orders_and_rows) (n := 63) (k := 6) (F := Ev.F_law) rfl (by decide) rfl Ev.room_law (fun w h Y => PySem.W.kIn_of Y) ?FF Ev.law_true
  case FF =>
    intro w mg h base KX G
    refine Ev.h_law ?tx
    refine' Ev.txt_mk KX G ?z_abs ?z_all ?z_bool ?z_enumerate ?z_int ?z_isinstance ?z_len ?z_list ?z_range ?z_set ?z_str ?z_tuple ?z_zip ?q_LETTERS ?q_MOST_LETTERS ?q_MOST_MARKS ?q_PLACES ?q_WORD ?c_Table ?pg_Table ?hd_Table ?po_Table ?sa_Table ?na_Table_own_marks ?na_Table_known ?mk_Table ?kc_Table ?a_Table___init__ ?i_Table___init__ ?l_Table___init__ ?k_Table___init__ ?p_Table___init__ ?a_Table_has ?i_Table_has ?l_Table_has ?k_Table_has ?p_Table_has ?a_Table_need_mark ?i_Table_need_mark ?l_Table_need_mark ?k_Table_need_mark ?p_Table_need_mark ?a_Table_passed ?i_Table_passed ?l_Table_passed ?k_Table_passed ?p_Table_passed ?a__law_pen ?l__law_pen ?k__law_pen ?p__law_pen ?a__law_draw ?l__law_draw ?k__law_draw ?p__law_draw ?a__law_word ?l__law_word ?k__law_word ?p__law_word ?a_is_whole ?l_is_whole ?k_is_whole ?p_is_whole ?a_need_places ?l_need_places ?k_need_places ?p_need_places ?lT_need_places ?r_need_places ?a_is_listing ?l_is_listing ?k_is_listing ?p_is_listing ?a_word_fault ?l_word_fault ?k_word_fault ?p_word_fault ?a_need_word ?l_need_word ?k_need_word ?p_need_word ?a_exchanged ?l_exchanged ?k_exchanged ?p_exchanged ?a_order_of ?l_order_of ?k_order_of ?p_order_of ?a_order_fault ?l_order_fault ?k_order_fault ?p_order_fault ?a_need_order ?l_need_order ?k_need_order ?p_need_order ?a_joined ?l_joined ?k_joined ?p_joined ?a_undone ?l_undone ?k_undone ?p_undone ?a__law_pick ?l__law_pick ?k__law_pick ?p__law_pick ?a__law_names ?l__law_names ?k__law_names ?p__law_names ?a_is_name ?l_is_name ?k_is_name ?p_is_name ?a_are_marks ?l_are_marks ?k_are_marks ?p_are_marks ?a_is_pair_of ?l_is_pair_of ?k_is_pair_of ?p_is_pair_of ?a_are_pairs ?l_are_pairs ?k_are_pairs ?p_are_pairs ?a_row_fault ?l_row_fault ?k_row_fault ?p_row_fault ?a_need_row ?l_need_row ?k_need_row ?p_need_row ?a_pass_at ?l_pass_at ?k_pass_at ?p_pass_at ?a_row_behind ?l_row_behind ?k_row_behind ?p_row_behind ?a_law ?l_law ?k_law ?p_law
    (case z_abs => k_is)
    (case z_all => k_is)
    (case z_bool => k_is)
    (case z_enumerate => k_is)
    (case z_int => k_is)
    (case z_isinstance => k_is)
    (case z_len => k_is)
    (case z_list => k_is)
    (case z_range => k_is)
    (case z_set => k_is)
    (case z_str => k_is)
    (case z_tuple => k_is)
    (case z_zip => k_is)
    (case q_LETTERS => k_is)
    (case q_MOST_LETTERS => k_is)
    (case q_MOST_MARKS => k_is)
    (case q_PLACES => k_is)
    (case q_WORD => k_is)
    (case c_Table => k_is)
    (case pg_Table => k_is)
    (case hd_Table => k_is)
    (case po_Table => k_is)
    (case sa_Table => k_is)
    (case na_Table_own_marks => k_is)
    (case na_Table_known => k_is)
    (case mk_Table => k_is)
    (case kc_Table => k_is)
    (case a_Table___init__ => k_is)
    (case i_Table___init__ => k_is)
    (case l_Table___init__ => k_is)
    (case k_Table___init__ => k_is)
    (case p_Table___init__ => k_is)
    (case a_Table_has => k_is)
    (case i_Table_has => k_is)
    (case l_Table_has => k_is)
    (case k_Table_has => k_is)
    (case p_Table_has => k_is)
    (case a_Table_need_mark => k_is)
    (case i_Table_need_mark => k_is)
    (case l_Table_need_mark => k_is)
    (case k_Table_need_mark => k_is)
    (case p_Table_need_mark => k_is)
    (case a_Table_passed => k_is)
    (case i_Table_passed => k_is)
    (case l_Table_passed => k_is)
    (case k_Table_passed => k_is)
    (case p_Table_passed => k_is)
    (case a__law_pen => k_is)
    (case l__law_pen => k_is)
    (case k__law_pen => k_is)
    (case p__law_pen => k_is)
    (case a__law_draw => k_is)
    (case l__law_draw => k_is)
    (case k__law_draw => k_is)
    (case p__law_draw => k_is)
    (case a__law_word => k_is)
    (case l__law_word => k_is)
    (case k__law_word => k_is)
    (case p__law_word => k_is)
    (case a_is_whole => k_is)
    (case l_is_whole => k_is)
    (case k_is_whole => k_is)
    (case p_is_whole => k_is)
    (case a_need_places => k_is)
    (case l_need_places => k_is)
    (case k_need_places => k_is)
    (case p_need_places => k_is)
    (case lT_need_places => k_is)
    (case r_need_places => exact (.cons ⟨_, rfl⟩ (.cons ⟨_, rfl⟩ .nil)))
    (case a_is_listing => k_is)
    (case l_is_listing => k_is)
    (case k_is_listing => k_is)
    (case p_is_listing => k_is)
    (case a_word_fault => k_is)
    (case l_word_fault => k_is)
    (case k_word_fault => k_is)
    (case p_word_fault => k_is)
    (case a_need_word => k_is)
    (case l_need_word => k_is)
    (case k_need_word => k_is)
    (case p_need_word => k_is)
    (case a_exchanged => k_is)
    (case l_exchanged => k_is)
    (case k_exchanged => k_is)
    (case p_exchanged => k_is)
    (case a_order_of => k_is)
    (case l_order_of => k_is)
    (case k_order_of => k_is)
    (case p_order_of => k_is)
    (case a_order_fault => k_is)
    (case l_order_fault => k_is)
    (case k_order_fault => k_is)
    (case p_order_fault => k_is)
    (case a_need_order => k_is)
    (case l_need_order => k_is)
    (case k_need_order => k_is)
    (case p_need_order => k_is)
    (case a_joined => k_is)
    (case l_joined => k_is)
    (case k_joined => k_is)
    (case p_joined => k_is)
    (case a_undone => k_is)
    (case l_undone => k_is)
    (case k_undone => k_is)
    (case p_undone => k_is)
    (case a__law_pick => k_is)
    (case l__law_pick => k_is)
    (case k__law_pick => k_is)
    (case p__law_pick => k_is)
    (case a__law_names => k_is)
    (case l__law_names => k_is)
    (case k__law_names => k_is)
    (case p__law_names => k_is)
    (case a_is_name => k_is)
    (case l_is_name => k_is)
    (case k_is_name => k_is)
    (case p_is_name => k_is)
    (case a_are_marks => k_is)
    (case l_are_marks => k_is)
    (case k_are_marks => k_is)
    (case p_are_marks => k_is)
    (case a_is_pair_of => k_is)
    (case l_is_pair_of => k_is)
    (case k_is_pair_of => k_is)
    (case p_is_pair_of => k_is)
    (case a_are_pairs => k_is)
    (case l_are_pairs => k_is)
    (case k_are_pairs => k_is)
    (case p_are_pairs => k_is)
    (case a_row_fault => k_is)
    (case l_row_fault => k_is)
    (case k_row_fault => k_is)
    (case p_row_fault => k_is)
    (case a_need_row => k_is)
    (case l_need_row => k_is)
    (case k_need_row => k_is)
    (case p_need_row => k_is)
    (case a_pass_at => k_is)
    (case l_pass_at => k_is)
    (case k_pass_at => k_is)
    (case p_pass_at => k_is)
    (case a_row_behind => k_is)
    (case l_row_behind => k_is)
    (case k_row_behind => k_is)
    (case p_row_behind => k_is)
    (case a_law => k_is)
    (case l_law => k_is)
    (case k_law => k_is)
    (case p_law => k_is)
